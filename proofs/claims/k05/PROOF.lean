import PyProof.Rows.All
import Wide.All
import OpenK.AllK
import Wide.FinOn
import HandS.ForMost
import HandS.Flow
import HandS.FStr
import HandS.IsInst
import HandS.StrMore
import HandS.More
import HandS.Property
import HandS.ExcInit
import HandS.ExcOwn
import HandS.Nested
import KE.KSuper
import KE.KExcSuper
import HandS.ExcCtx
import HandS.ExcField
import HandS.ExcIs
import HandS.ExcInitHot
import HandS.WordsExc
import KE.KExcIs
import HandS.HotCalls
import KE.RegKSuper
import KE.RegKIsAll
import KE.RegKTryMore
import PySem.Challenge.RW_fieldsandcalls_k05_settings_that_are_eno
set_option Elab.async false
set_option linter.all false
set_option maxRecDepth 100000
/-! DL0: the data layer: data D, how a value shows it (Rep), the store of cells (Mu), the state (Sat), the judgements over data. -/
namespace DL
open PySem PySem.Spec PyProof.Rows L2
abbrev St := L2.St

inductive D where
  | non | bl (b : Bool) | int (i : Int) | str (s : Str)
  | lst (xs : List D) | tup (xs : List D)
  | dic (kvs : List (Key × D))
  | obj (C : Addr) (fs : List (Str × D))
  | src | room | ptr (a : Addr)
  | scr (ns : List Int)

/-- ghost: the frozen heap, the source of draws, the counters -/
structure Gh where
  fr : Hp
  src : List Addr
  rooms : List Addr

def Ext (H H' : Hp) : Prop := ∀ a o, H a = some o → H' a = some o
theorem Ext.refl (H : Hp) : Ext H H := fun _ _ h => h
theorem Ext.trans {H H1 H2 : Hp} (a : Ext H H1) (b : Ext H1 H2) : Ext H H2 := fun x o h => b x o (a x o h)
theorem Ext.new {H : Hp} {p : Addr} {o : HO} (h : H p = none) : Ext H (upd H p o) := fun a u e => by
  rw [upd_ne (ne_of_none e h)]; exact e
theorem Ext.mut {H H' : Hp} {p : Addr} {o : HO} (e : Ext H H') (h : H p = none) : Ext H (upd H' p o) := fun a u ha => by
  rw [upd_ne (ne_of_none ha h)]; exact e a u ha
theorem Ext.both {H H' : Hp} {p : Addr} {o : HO} (e : Ext H H') : Ext (upd H p o) (upd H' p o) := fun a u ha => by
  unfold upd at *
  split
  · next z => rw [if_pos z] at ha; exact ha
  · next z => rw [if_neg z] at ha; exact e a u ha
theorem Ext.seqT {K : PySem.W.Frag} {H H' : Hp} {a : Addr} {xs : List V} (e : Ext H H') (h : SqT K H a xs) : SqT K H' a xs := by
  rcases h with (h | ⟨o, h⟩) | h
  · exact .inl (.inl (e _ _ h))
  · exact .inl (.inr ⟨o, e _ _ h⟩)
  · exact .inr h
theorem Ext.rd {H H' : Hp} {a : Addr} {u : HO} (e : Ext H H') (h : Rd H a u) : Rd H' a u := by
  rcases h with h | ⟨o, h⟩
  · exact .inl (e _ _ h)
  · exact .inr ⟨o, e _ _ h⟩
theorem Ext.seqL {K : PySem.W.Frag} {H H' : Hp} {a : Addr} {xs : List V} (e : Ext H H') (h : SqL K H a xs) : SqL K H' a xs := by
  rcases h with h | h
  · exact .inl (e.rd h)
  · exact .inr h
theorem Ext.free {H H' : Hp} (e : Ext H H') {l : Addr} (h : H' l = none) : H l = none := by
  cases q : H l with
  | none => rfl
  | some o => rw [e l o q] at h; cases h

structure Gle (G G' : Gh) : Prop where
  fr : Ext G.fr G'.fr
  src : ∀ a ∈ G.src, a ∈ G'.src
  rooms : ∀ a ∈ G.rooms, a ∈ G'.rooms
theorem Gle.refl (G : Gh) : Gle G G := ⟨Ext.refl _, fun _ h => h, fun _ h => h⟩
theorem Gle.trans {A B C : Gh} (x : Gle A B) (y : Gle B C) : Gle A C := ⟨x.fr.trans y.fr, fun a h => y.src a (x.src a h), fun a h => y.rooms a (x.rooms a h)⟩

/-- v shows d, the frozen heap at G -/
inductive Rep (K : PySem.W.Frag) (G : Gh) : V → D → Prop
  | non : Rep K G .non .non
  | bl (b : Bool) : Rep K G (.bl b) (.bl b)
  | int (i : Int) : Rep K G (.int i) (.int i)
  | str (s : Str) : Rep K G (.str s) (.str s)
  | lst {a : Addr} {vs : List V} {xs : List D} (h : G.fr a = some (.lst vs)) (l : vs.length = xs.length) (r : ∀ (i : Nat) v d, vs[i]? = some v → xs[i]? = some d → Rep K G v d) : Rep K G (.ref a) (.lst xs)
  | tup {a : Addr} {vs : List V} {xs : List D} (h : SqT K G.fr a vs) (l : vs.length = xs.length) (r : ∀ (i : Nat) v d, vs[i]? = some v → xs[i]? = some d → Rep K G v d) : Rep K G (.ref a) (.tup xs)
  | dic {a : Addr} {kvs : List (Key × V)} {xs : List (Key × D)} (h : G.fr a = some (.dK kvs)) (l : kvs.map (·.1) = xs.map (·.1)) (r : ∀ (i : Nat) v d, (kvs.map (·.2))[i]? = some v → (xs.map (·.2))[i]? = some d → Rep K G v d) : Rep K G (.ref a) (.dic xs)
  | obj {a C dx : Addr} {fvs : List (Str × V)} {fs : List (Str × D)} (h : G.fr a = some (.ins C dx fvs)) (l : fvs.map (·.1) = fs.map (·.1)) (r : ∀ (i : Nat) v d, (fvs.map (·.2))[i]? = some v → (fs.map (·.2))[i]? = some d → Rep K G v d) : Rep K G (.ref a) (.obj C fs)
  | src {a : Addr} (h : a ∈ G.src) : Rep K G (.ref a) .src
  | room {a : Addr} (h : a ∈ G.rooms) : Rep K G (.ref a) .room
  | ptr (a : Addr) : Rep K G (.ref a) (.ptr a)
  | scr {a : Addr} {ns : List Int} (h : SqL K G.fr a (ns.map V.int)) : Rep K G (.ref a) (.scr ns)
theorem Rep.mono {K : PySem.W.Frag} {G G' : Gh} {v : V} {d : D} (h : Rep K G v d) (g : Gle G G') : Rep K G' v d := by
  induction h with
  | non => exact .non
  | bl b => exact .bl b
  | int i => exact .int i
  | str s => exact .str s
  | lst h l _ ih => exact .lst (g.fr _ _ h) l ih
  | tup h l _ ih => exact .tup (g.fr.seqT h) l ih
  | dic h l _ ih => exact .dic (g.fr _ _ h) l ih
  | obj h l _ ih => exact .obj (g.fr _ _ h) l ih
  | src h => exact .src (g.src _ h)
  | room h => exact .room (g.rooms _ h)
  | ptr a => exact .ptr a
  | scr h => exact .scr (g.fr.seqL h)

def Reps (K : PySem.W.Frag) (G : Gh) (vs : List V) (xs : List D) : Prop := vs.length = xs.length ∧ ∀ (i : Nat) v d, vs[i]? = some v → xs[i]? = some d → Rep K G v d
section
variable {K : PySem.W.Frag} {G G' : Gh} {vs ws : List V} {xs ys : List D} {v : V} {d : D}
theorem Reps.mono (h : Reps K G vs xs) (g : Gle G G') : Reps K G' vs xs := ⟨h.1, fun i v d a b => (h.2 i v d a b).mono g⟩
theorem Reps.nil : Reps K G [] [] := ⟨rfl, fun i v d a _ => by simp at a⟩
theorem Reps.cons (h : Rep K G v d) (t : Reps K G vs xs) : Reps K G (v :: vs) (d :: xs) := ⟨by simp [t.1], fun i v' d' a b => by
  cases i with
  | zero => simp at a b; subst a; subst b; exact h
  | succ i => exact t.2 i v' d' (by simpa using a) (by simpa using b)⟩
theorem Reps.cons_inv (h : Reps K G vs (d :: xs)) : ∃ v r, vs = v :: r ∧ Rep K G v d ∧ Reps K G r xs := by
  cases vs with
  | nil => have := h.1; simp at this
  | cons v r => exact ⟨v, r, rfl, h.2 0 v d rfl rfl, by have := h.1; simpa using this, fun i v' d' a b => h.2 (i + 1) v' d' (by simpa using a) (by simpa using b)⟩
theorem Reps.cons_inv' (h : Reps K G (v :: vs) xs) : ∃ d r, xs = d :: r ∧ Rep K G v d ∧ Reps K G vs r := by
  cases xs with
  | nil => have := h.1; simp at this
  | cons d r => exact ⟨d, r, rfl, h.2 0 v d rfl rfl, by have := h.1; simpa using this, fun i v' d' a b => h.2 (i + 1) v' d' (by simpa using a) (by simpa using b)⟩
theorem Reps.nil_inv (h : Reps K G vs []) : vs = [] := by
  have := h.1
  exact List.eq_nil_of_length_eq_zero (by simpa using this)
theorem Reps.nil_inv' (h : Reps K G [] xs) : xs = [] := by
  have := h.1
  exact List.eq_nil_of_length_eq_zero (by simpa using this.symm)
theorem Reps.append (h : Reps K G vs xs) (t : Reps K G ws ys) : Reps K G (vs ++ ws) (xs ++ ys) := by
  induction vs generalizing xs with
  | nil => rw [h.nil_inv']; exact t
  | cons v r ih => obtain ⟨d, x, rfl, a, b⟩ := h.cons_inv'; exact Reps.cons a (ih b)
theorem Reps.one (h : Rep K G v d) : Reps K G [v] [d] := Reps.cons h Reps.nil
theorem Reps.set (h : Reps K G vs xs) (r : Rep K G v d) (i : Nat) : Reps K G (vs.set i v) (xs.set i d) := by
  refine ⟨by simp [h.1], fun j v' d' a b => ?_⟩
  rw [List.getElem?_set] at a b
  split at a
  · next e =>
    rw [if_pos e] at b
    split at a
    · next l => rw [if_pos (by rw [← h.1]; exact l)] at b; cases a; cases b; exact r
    · cases a
  · next e => rw [if_neg e] at b; exact h.2 j v' d' a b
theorem Reps.take (h : Reps K G vs xs) (n : Nat) : Reps K G (vs.take n) (xs.take n) := by
  refine ⟨by simp [h.1], fun j v' d' a b => ?_⟩
  rw [List.getElem?_take] at a b
  split at a
  · next e => rw [if_pos e] at b; exact h.2 j v' d' a b
  · cases a
theorem Reps.drop (h : Reps K G vs xs) (n : Nat) : Reps K G (vs.drop n) (xs.drop n) := by
  refine ⟨by simp [h.1], fun j v' d' a b => ?_⟩
  rw [List.getElem?_drop] at a b
  exact h.2 _ v' d' a b
theorem Reps.get (h : Reps K G vs xs) {i : Nat} (e : xs[i]? = some d) : ∃ v, vs[i]? = some v ∧ Rep K G v d := by
  have l := (List.getElem?_eq_some_iff.mp e).1
  rw [← h.1] at l
  exact ⟨vs[i], List.getElem?_eq_getElem l, h.2 i _ d (List.getElem?_eq_getElem l) e⟩
theorem Reps.get' (h : Reps K G vs xs) {i : Nat} (e : vs[i]? = some v) : ∃ d, xs[i]? = some d ∧ Rep K G v d := by
  have l := (List.getElem?_eq_some_iff.mp e).1
  rw [h.1] at l
  exact ⟨xs[i], List.getElem?_eq_getElem l, h.2 i v _ e (List.getElem?_eq_getElem l)⟩
theorem Reps.reverse (h : Reps K G vs xs) : Reps K G vs.reverse xs.reverse := by
  induction vs generalizing xs with
  | nil => rw [h.nil_inv']; exact Reps.nil
  | cons v r ih => obtain ⟨d, x, rfl, a, b⟩ := h.cons_inv'; rw [List.reverse_cons, List.reverse_cons]; exact (ih b).append (Reps.one a)
theorem Reps.eraseIdx (h : Reps K G vs xs) (i : Nat) : Reps K G (vs.eraseIdx i) (xs.eraseIdx i) := by
  rw [List.eraseIdx_eq_take_drop_succ, List.eraseIdx_eq_take_drop_succ]
  exact (h.take i).append (h.drop (i + 1))
theorem Reps.dropLast (h : Reps K G vs xs) : Reps K G vs.dropLast xs.dropLast := by
  rw [List.dropLast_eq_take, List.dropLast_eq_take, h.1]
  exact h.take _
end

/-! ### cells -/
inductive Cell where
  | lst (xs : List D) | dic (kvs : List (Key × D)) | dicL (o : Obj) (vs : List (Key × V)) (kvs : List (Key × D)) | ins (C : Addr) (fs : List (Str × D))
abbrev Mu := Addr → Option Cell
abbrev DR := List (Option D)
def mup (μ : Mu) (a : Addr) (c : Cell) : Mu := fun b => if b = a then some c else μ b
def mdel (μ : Mu) (a : Addr) : Mu := fun b => if b = a then none else μ b
@[simp] theorem mup_same {μ : Mu} {a : Addr} {c : Cell} : mup μ a c a = some c := by simp [mup]
theorem mup_ne {μ : Mu} {a b : Addr} {c : Cell} (h : b ≠ a) : mup μ a c b = μ b := by simp [mup, h]
@[simp] theorem mup_mup {μ : Mu} {a : Addr} {c c' : Cell} : mup (mup μ a c) a c' = mup μ a c' := by
  funext b; unfold mup; split <;> rfl
theorem mup_self {μ : Mu} {a : Addr} {c : Cell} (h : μ a = some c) : mup μ a c = μ := by
  funext b; unfold mup; split
  · next e => subst e; exact h.symm
  · rfl
theorem mdel_mup {μ : Mu} {a : Addr} {c : Cell} (h : μ a = none) : mdel (mup μ a c) a = μ := by
  funext b; unfold mdel mup
  split
  · next e => subst e; exact h.symm
  · rfl
@[simp] theorem mdel_same {μ : Mu} {a : Addr} : mdel μ a a = none := by simp [mdel]
theorem mdel_ne {μ : Mu} {a b : Addr} (h : b ≠ a) : mdel μ a b = μ b := by simp [mdel, h]

def FReps {κ : Type} (K : PySem.W.Frag) (G : Gh) (kvs : List (κ × V)) (ds : List (κ × D)) : Prop := kvs.map (·.1) = ds.map (·.1) ∧ Reps K G (kvs.map (·.2)) (ds.map (·.2))
theorem FReps.mono {κ : Type} {K : PySem.W.Frag} {G G' : Gh} {kvs : List (κ × V)} {ds : List (κ × D)} (h : FReps K G kvs ds) (g : Gle G G') : FReps K G' kvs ds := ⟨h.1, h.2.mono g⟩
def CellR (K : PySem.W.Frag) (G : Gh) : HO → Cell → Prop
  | .lst vs, .lst xs => Reps K G vs xs
  | .dK kvs, .dic ds => FReps K G kvs ds
  | .frz o (.dK kvs), .dicL o' vs ds => o = o' ∧ kvs = vs ∧ FReps K G kvs ds
  | .ins C _ fvs, .ins C' fs => C = C' ∧ FReps K G fvs fs
  | _, _ => False
theorem CellR.mono {K : PySem.W.Frag} {G G' : Gh} {o : HO} {c : Cell} (h : CellR K G o c) (g : Gle G G') : CellR K G' o c := by
  cases o with
  | frz u o =>
    cases o <;> cases c <;> first
      | exact False.elim h
      | exact ⟨h.1, h.2.1, h.2.2.mono g⟩
  | _ =>
    cases c <;> first
      | exact False.elim h
      | exact Reps.mono h g
      | exact FReps.mono h g
      | exact ⟨h.1, h.2.mono g⟩
theorem cellR_lst {K : PySem.W.Frag} {G : Gh} {o : HO} {xs : List D} (h : CellR K G o (.lst xs)) : ∃ vs, o = .lst vs ∧ Reps K G vs xs := by
  cases o with
  | lst vs => exact ⟨vs, rfl, h⟩
  | frz u o => cases o <;> exact False.elim h
  | _ => exact False.elim h
theorem cellR_dic {K : PySem.W.Frag} {G : Gh} {o : HO} {xs : List (Key × D)} (h : CellR K G o (.dic xs)) : ∃ vs, o = .dK vs ∧ FReps K G vs xs := by
  cases o with
  | dK vs => exact ⟨vs, rfl, h⟩
  | frz u o => cases o <;> exact False.elim h
  | _ => exact False.elim h
theorem cellR_dicL {K : PySem.W.Frag} {G : Gh} {o : HO} {u : Obj} {vs : List (Key × V)} {xs : List (Key × D)} (h : CellR K G o (.dicL u vs xs)) : o = .frz u (.dK vs) ∧ FReps K G vs xs := by
  cases o with
  | frz u o =>
    cases o with
    | dK vs => obtain ⟨rfl, rfl, h⟩ := h; exact ⟨rfl, h⟩
    | _ => exact False.elim h
  | _ => exact False.elim h
theorem cellR_ins {K : PySem.W.Frag} {G : Gh} {o : HO} {C : Addr} {xs : List (Str × D)} (h : CellR K G o (.ins C xs)) : ∃ dx vs, o = .ins C dx vs ∧ FReps K G vs xs := by
  cases o with
  | ins C2 dx vs => obtain ⟨rfl, h⟩ := h; exact ⟨dx, vs, rfl, h⟩
  | frz u o => cases o <;> exact False.elim h
  | _ => exact False.elim h
/-- the source of draws: its list is frozen -/
def SrcAt (fr H : Hp) (a : Addr) : Prop := ∃ (l : Addr) (ns : List Int) (p r c : Int), H a = some (.lst [.ref l, .int p, .int r, .int c]) ∧ fr l = some (.lst (ns.map V.int)) ∧ 0 ≤ p

structure Hold (K : PySem.W.Frag) (G : Gh) (μ : Mu) (H : Hp) : Prop where
  fr : Ext G.fr H
  cell : ∀ a c, μ a = some c → G.fr a = none ∧ ∃ o, H a = some o ∧ CellR K G o c
  src : ∀ a ∈ G.src, G.fr a = none ∧ μ a = none ∧ SrcAt G.fr H a
  rooms : ∀ a ∈ G.rooms, G.fr a = none ∧ μ a = none ∧ a ∉ G.src ∧ ∃ n : Int, H a = some (.lst [.int n])
def Envr (K : PySem.W.Frag) (B : Gh) (G : Gh) (σ : St) (ρ : DR) : Prop := (σ.length = ρ.length ∧ Gle B G) ∧ ∀ (i : Nat) d, ρ[i]? = some (some d) → ∃ v, σ[i]? = some (some v) ∧ Rep K G v d
structure Sat (K : PySem.W.Frag) (B : Gh) (G : Gh) (ρ : DR) (μ : Mu) (σ : St) (H : Hp) : Prop where
  hold : Hold K G μ H
  env : Envr K B G σ ρ
section
variable {K : PySem.W.Frag} {G G' : Gh} {μ μ' : Mu} {H H' : Hp} {ρ ρ' : DR} {σ : St} {a p : Addr} {o : HO} {c : Cell} {v : V} {d : D}
theorem SrcAt.mono {fr fr' H H' : Hp} (h : SrcAt fr H a) (e : Ext fr fr') (k : ∀ o, H a = some o → H' a = some o) : SrcAt fr' H' a := by
  obtain ⟨l, ns, p, r, c, h1, h2, h3⟩ := h
  exact ⟨l, ns, p, r, c, k _ h1, e _ _ h2, h3⟩
/-- the heap grows, nothing else -/
theorem Hold.ext (h : Hold K G μ H) (e : Ext H H') : Hold K G μ H' :=
  ⟨h.fr.trans e, fun a c q => let ⟨x, o, y, z⟩ := h.cell a c q; ⟨x, o, e _ _ y, z⟩, fun a q => let ⟨x, y, z⟩ := h.src a q; ⟨x, y, z.mono (Ext.refl _) fun o => e a o⟩, fun a q => let ⟨x, y, z, n, w⟩ := h.rooms a q; ⟨x, y, z, n, e _ _ w⟩⟩
theorem Hold.free (h : Hold K G μ H) (n : H p = none) : G.fr p = none ∧ μ p = none ∧ p ∉ G.src ∧ p ∉ G.rooms := by
  refine ⟨h.fr.free n, ?_, ?_, ?_⟩
  · cases q : μ p with
    | none => rfl
    | some c => obtain ⟨_, o, y, _⟩ := h.cell p c q; rw [n] at y; cases y
  · intro q
    obtain ⟨_, _, l, ns, p', r, c, h1, _⟩ := h.src p q
    rw [n] at h1; cases h1
  · intro q
    obtain ⟨_, _, _, m, w⟩ := h.rooms p q
    rw [n] at w; cases w
/-- the ghost with one more frozen object -/
def Gh.frz (G : Gh) (p : Addr) (o : HO) : Gh := { G with fr := upd G.fr p o }
theorem Gle.frz (n : G.fr p = none) : Gle G (G.frz p o) := ⟨Ext.new n, fun _ h => h, fun _ h => h⟩
/-- a new frozen object -/
theorem Hold.new (h : Hold K G μ H) (n : H p = none) : Hold K (G.frz p o) μ (upd H p o) := by
  obtain ⟨f1, f2, f3, f4⟩ := h.free n
  have g : Gle G (G.frz p o) := Gle.frz f1
  refine ⟨h.fr.both, fun a c q => ?_, fun a q => ?_, fun a q => ?_⟩
  · obtain ⟨x, u, y, z⟩ := h.cell a c q
    have ne : a ≠ p := ne_of_none y n
    exact ⟨(upd_ne ne).trans x, u, (upd_ne ne).trans y, z.mono g⟩
  · obtain ⟨x, y, z⟩ := h.src a q
    have ne : a ≠ p := fun e => f3 (e ▸ q)
    exact ⟨(upd_ne ne).trans x, y, z.mono g.fr fun o q => (upd_ne ne).trans q⟩
  · obtain ⟨x, y, w, m, z⟩ := h.rooms a q
    have ne : a ≠ p := fun e => f4 (e ▸ q)
    exact ⟨(upd_ne ne).trans x, y, w, m, (upd_ne ne).trans z⟩
/-- a new cell -/
theorem Hold.cellNew (h : Hold K G μ H) (n : H p = none) (r : CellR K G o c) : Hold K G (mup μ p c) (upd H p o) := by
  obtain ⟨f1, f2, f3, f4⟩ := h.free n
  refine ⟨h.fr.trans (Ext.new n), fun a c' q => ?_, fun a q => ?_, fun a q => ?_⟩
  · by_cases e : a = p
    · subst e
      rw [mup_same] at q; cases q
      exact ⟨f1, o, upd_same, r⟩
    · rw [mup_ne e] at q
      obtain ⟨x, u, y, z⟩ := h.cell a c' q
      exact ⟨x, u, (upd_ne e).trans y, z⟩
  · obtain ⟨x, y, z⟩ := h.src a q
    have ne : a ≠ p := fun e => f3 (e ▸ q)
    exact ⟨x, (mup_ne ne).trans y, z.mono (Ext.refl _) fun o q => (upd_ne ne).trans q⟩
  · obtain ⟨x, y, w, m, z⟩ := h.rooms a q
    have ne : a ≠ p := fun e => f4 (e ▸ q)
    exact ⟨x, (mup_ne ne).trans y, w, m, (upd_ne ne).trans z⟩
/-- a cell is written -/
theorem Hold.cellSet {c0 : Cell} (h : Hold K G μ H) (q0 : μ p = some c0) (r : CellR K G o c) : Hold K G (mup μ p c) (upd H p o) := by
  obtain ⟨f1, u0, y0, _⟩ := h.cell p c0 q0
  refine ⟨h.fr.mut f1, fun a c' q => ?_, fun a q => ?_, fun a q => ?_⟩
  · by_cases e : a = p
    · subst e
      rw [mup_same] at q; cases q
      exact ⟨f1, o, upd_same, r⟩
    · rw [mup_ne e] at q
      obtain ⟨x, u, y, z⟩ := h.cell a c' q
      exact ⟨x, u, (upd_ne e).trans y, z⟩
  · obtain ⟨x, y, z⟩ := h.src a q
    have ne : a ≠ p := fun e => by rw [e, q0] at y; cases y
    exact ⟨x, (mup_ne ne).trans y, z.mono (Ext.refl _) fun o q => (upd_ne ne).trans q⟩
  · obtain ⟨x, y, w, m, z⟩ := h.rooms a q
    have ne : a ≠ p := fun e => by rw [e, q0] at y; cases y
    exact ⟨x, (mup_ne ne).trans y, w, m, (upd_ne ne).trans z⟩
/-- a cell is frozen -/
theorem Hold.freeze (h : Hold K G μ H) (q0 : μ p = some c) (hp : H p = some o) : Hold K (G.frz p o) (mdel μ p) H := by
  obtain ⟨f1, u0, y0, _⟩ := h.cell p c q0
  have g : Gle G (G.frz p o) := Gle.frz f1
  refine ⟨fun a u e => ?_, fun a c' q => ?_, fun a q => ?_, fun a q => ?_⟩
  · by_cases z : a = p
    · subst z
      have e' : upd G.fr a o a = some u := e
      rw [upd_same] at e'; cases e'; exact hp
    · have e' : upd G.fr p o a = some u := e
      rw [upd_ne z] at e'; exact h.fr a u e'
  · by_cases e : a = p
    · subst e; rw [mdel_same] at q; cases q
    · rw [mdel_ne e] at q
      obtain ⟨x, u, y, z⟩ := h.cell a c' q
      exact ⟨(upd_ne e).trans x, u, y, z.mono g⟩
  · obtain ⟨x, y, z⟩ := h.src a q
    have ne : a ≠ p := fun e => by rw [e, q0] at y; cases y
    exact ⟨(upd_ne ne).trans x, (mdel_ne ne).trans y, z.mono g.fr fun o q => q⟩
  · obtain ⟨x, y, w, m, z⟩ := h.rooms a q
    have ne : a ≠ p := fun e => by rw [e, q0] at y; cases y
    exact ⟨(upd_ne ne).trans x, (mdel_ne ne).trans y, w, m, z⟩
/-- a cell is forgotten -/
theorem Hold.drop (h : Hold K G μ H) : Hold K G (mdel μ p) H := by
  refine ⟨h.fr, fun a c' q => ?_, fun a q => ?_, fun a q => ?_⟩
  · by_cases e : a = p
    · subst e; rw [mdel_same] at q; cases q
    · rw [mdel_ne e] at q; exact h.cell a c' q
  · obtain ⟨x, y, z⟩ := h.src a q
    refine ⟨x, ?_, z⟩
    unfold mdel; split
    · rfl
    · exact y
  · obtain ⟨x, y, w, z⟩ := h.rooms a q
    refine ⟨x, ?_, w, z⟩
    unfold mdel; split
    · rfl
    · exact y
theorem Envr.mono (h : Envr K B G σ ρ) (g : Gle G G') : Envr K B G' σ ρ := ⟨⟨h.1.1, h.1.2.trans g⟩, fun i d q => let ⟨v, a, b⟩ := h.2 i d q; ⟨v, a, b.mono g⟩⟩
theorem Envr.set (h : Envr K B G σ ρ) (r : Rep K G v d) (i : Nat) : Envr K B G (σ.set i (some v)) (ρ.set i (some d)) := by
  refine ⟨⟨by simp [h.1.1], h.1.2⟩, fun j d' q => ?_⟩
  rw [List.getElem?_set] at q
  split at q
  · next e =>
    subst e
    split at q
    · next l => cases q; exact ⟨v, by rw [List.getElem?_set_self (by rw [h.1.1]; exact l)], r⟩
    · cases q
  · next e => obtain ⟨u, a, b⟩ := h.2 j d' q; exact ⟨u, by rw [List.getElem?_set_ne e]; exact a, b⟩
theorem Sat.ext (h : Sat K B G ρ μ σ H) (e : Ext H H') : Sat K B G ρ μ σ H' := ⟨h.hold.ext e, h.env⟩
theorem Sat.new (h : Sat K B G ρ μ σ H) (n : H p = none) : Sat K B (G.frz p o) ρ μ σ (upd H p o) := ⟨h.hold.new n, h.env.mono (Gle.frz (h.hold.free n).1)⟩
theorem Sat.gle_new (h : Sat K B G ρ μ σ H) (n : H p = none) : Gle G (G.frz p o) := Gle.frz (h.hold.free n).1
end

/-! ### what is seen of a datum: a cell's content -/
def vw (μ : Mu) : D → D
  | .ptr a => match μ a with
    | some (.lst xs) => .lst xs
    | some (.dic kvs) => .dic kvs
    | some (.dicL _ _ kvs) => .dic kvs
    | some (.ins C fs) => .obj C fs
    | none => .ptr a
  | d => d
@[simp] theorem vw_non {μ : Mu} : vw μ .non = .non := rfl
@[simp] theorem vw_bl {μ : Mu} {b : Bool} : vw μ (.bl b) = .bl b := rfl
@[simp] theorem vw_int {μ : Mu} {i : Int} : vw μ (.int i) = .int i := rfl
@[simp] theorem vw_str {μ : Mu} {s : Str} : vw μ (.str s) = .str s := rfl
@[simp] theorem vw_lst {μ : Mu} {xs : List D} : vw μ (.lst xs) = .lst xs := rfl
@[simp] theorem vw_tup {μ : Mu} {xs : List D} : vw μ (.tup xs) = .tup xs := rfl
@[simp] theorem vw_dic {μ : Mu} {xs : List (Key × D)} : vw μ (.dic xs) = .dic xs := rfl
@[simp] theorem vw_obj {μ : Mu} {C : Addr} {fs : List (Str × D)} : vw μ (.obj C fs) = .obj C fs := rfl
@[simp] theorem vw_scr {μ : Mu} {ns : List Int} : vw μ (.scr ns) = .scr ns := rfl
@[simp] theorem vw_ptr {μ : Mu} {a : Addr} {c : Cell} : vw (mup μ a c) (.ptr a) = match c with | .lst xs => .lst xs | .dic kvs => .dic kvs | .dicL _ _ kvs => .dic kvs | .ins C fs => .obj C fs := by
  simp [vw]; cases c <;> rfl
theorem vw_pd {μ : Mu} {a : Addr} : vw μ (.ptr a) = match μ a with | some (.lst xs) => .lst xs | some (.dic kvs) => .dic kvs | some (.dicL _ _ kvs) => .dic kvs | some (.ins C fs) => .obj C fs | none => .ptr a := rfl
theorem vw_of {μ : Mu} {a : Addr} {xs : List D} (h : μ a = some (.lst xs)) : vw μ (.ptr a) = .lst xs := by simp [vw, h]
section
variable {K : PySem.W.Frag} {G : Gh} {μ : Mu} {H : Hp} {v : V} {d : D}
/-- a list that is seen stands in the heap -/
theorem Hold.lst (h : Hold K G μ H) (r : Rep K G v d) {xs : List D} (e : vw μ d = .lst xs) : ∃ a vs, v = .ref a ∧ H a = some (.lst vs) ∧ Reps K G vs xs := by
  cases r with
  | lst hh l r => cases e; exact ⟨_, _, rfl, h.fr _ _ hh, l, r⟩
  | ptr a =>
    simp only [vw] at e
    cases q : μ a with
    | none => rw [q] at e; cases e
    | some c =>
      rw [q] at e
      cases c with
      | lst ys =>
        cases e
        obtain ⟨_, o, y, z⟩ := h.cell a _ q
        obtain ⟨vs, rfl, z2⟩ := cellR_lst z
        exact ⟨a, vs, rfl, y, z2⟩
      | dic _ => cases e
      | dicL _ _ _ => cases e
      | ins _ _ => cases e
  | _ => cases e
theorem Hold.tup (h : Hold K G μ H) (r : Rep K G v d) {xs : List D} (e : vw μ d = .tup xs) : ∃ a vs, v = .ref a ∧ SqT K H a vs ∧ Reps K G vs xs := by
  cases r with
  | tup hh l r => cases e; exact ⟨_, _, rfl, h.fr.seqT hh, l, r⟩
  | ptr a =>
    simp only [vw] at e
    cases q : μ a with
    | none => rw [q] at e; cases e
    | some c => rw [q] at e; cases c <;> cases e
  | _ => cases e
theorem Hold.dic (h : Hold K G μ H) (r : Rep K G v d) {xs : List (Key × D)} (e : vw μ d = .dic xs) : ∃ a vs, v = .ref a ∧ Rd H a (.dK vs) ∧ FReps K G vs xs := by
  cases r with
  | dic hh l r => cases e; exact ⟨_, _, rfl, .inl (h.fr _ _ hh), l, by have := congrArg List.length l; simpa using this, r⟩
  | ptr a =>
    simp only [vw] at e
    cases q : μ a with
    | none => rw [q] at e; cases e
    | some c =>
      rw [q] at e
      cases c with
      | dic ys =>
        cases e
        obtain ⟨_, o, y, z⟩ := h.cell a _ q
        obtain ⟨vs, rfl, z2⟩ := cellR_dic z
        exact ⟨a, vs, rfl, .inl y, z2⟩
      | dicL u0 vs0 ys =>
        cases e
        obtain ⟨_, o, y, z⟩ := h.cell a _ q
        obtain ⟨rfl, z2⟩ := cellR_dicL z
        exact ⟨a, _, rfl, .inr ⟨_, y⟩, z2⟩
      | lst _ => cases e
      | ins _ _ => cases e
  | _ => cases e
theorem Hold.obj (h : Hold K G μ H) (r : Rep K G v d) {C : Addr} {fs : List (Str × D)} (e : vw μ d = .obj C fs) : ∃ a dx vs, v = .ref a ∧ H a = some (.ins C dx vs) ∧ FReps K G vs fs := by
  cases r with
  | obj hh l r => cases e; exact ⟨_, _, _, rfl, h.fr _ _ hh, l, by have := congrArg List.length l; simpa using this, r⟩
  | ptr a =>
    simp only [vw] at e
    cases q : μ a with
    | none => rw [q] at e; cases e
    | some c =>
      rw [q] at e
      cases c with
      | ins C' ys =>
        cases e
        obtain ⟨_, o, y, z⟩ := h.cell a _ q
        obtain ⟨dx, vs, rfl, z2⟩ := cellR_ins z
        exact ⟨a, dx, vs, rfl, y, z2⟩
      | lst _ => cases e
      | dic _ => cases e
      | dicL _ _ _ => cases e
  | _ => cases e
theorem Rep.ofInt {i : Int} (r : Rep K G v (.int i)) : v = .int i := by cases r; rfl
theorem Rep.ofStr {i : Str} (r : Rep K G v (.str i)) : v = .str i := by cases r; rfl
theorem Rep.ofBl {i : Bool} (r : Rep K G v (.bl i)) : v = .bl i := by cases r; rfl
theorem Rep.ofNon (r : Rep K G v .non) : v = .non := by cases r; rfl
end

/-! ### readings over data, and how they stand to the layer's -/
abbrev QD := D → Mu → Prop
abbrev TDE := DR → Mu → QD → Prop
abbrev TDT := DR → Mu → (Bool → Mu → Prop) → Prop
abbrev TDA := DR → Mu → (List D → Mu → Prop) → Prop
structure DEnds where
  nx : DR → Mu → Prop
  rt : QD
  bk : DR → Mu → Prop := fun _ _ => False
  ct : DR → Mu → Prop := fun _ _ => False
abbrev TDS := DEnds → DR → Mu → Prop
/-- a datum handed on: from Q over data to Qn over values -/
def Hand (K : PySem.W.Frag) (B : Gh) (G : Gh) (ρ : DR) (σ : St) (Q : QD) (Qn : VK) : Prop := ∀ d μ' v H' G', Gle G G' → Sat K B G' ρ μ' σ H' → Rep K G' v d → Q d μ' → Qn v H'
def RefE (K : PySem.W.Frag) (B : Gh) (T : TDE) (t : TE) : Prop := ∀ ρ μ σ H G Q (Qn : VK), Sat K B G ρ μ σ H → T ρ μ Q → Hand K B G ρ σ Q Qn → t σ H Qn
def RefT (K : PySem.W.Frag) (B : Gh) (T : TDT) (t : TT) : Prop := ∀ ρ μ σ H G Q (Qn : Bool → Hp → Prop), Sat K B G ρ μ σ H → T ρ μ Q → (∀ b μ' H' G', Gle G G' → Sat K B G' ρ μ' σ H' → Q b μ' → Qn b H') → t σ H Qn
def RefA (K : PySem.W.Frag) (B : Gh) (T : TDA) (t : TA) : Prop := ∀ ρ μ σ H G Q (Qn : List V → Hp → Prop), Sat K B G ρ μ σ H → T ρ μ Q → (∀ ds μ' vs H' G', Gle G G' → Sat K B G' ρ μ' σ H' → Reps K G' vs ds → Q ds μ' → Qn vs H') → t σ H Qn
structure EndsR (K : PySem.W.Frag) (B : Gh) (G : Gh) (E : DEnds) (Dn : Ends) : Prop where
  nx : ∀ ρ' μ' σ' H' G', Gle G G' → Sat K B G' ρ' μ' σ' H' → E.nx ρ' μ' → Dn.nx σ' H'
  rt : ∀ d μ' v H' G', Gle G G' → Hold K G' μ' H' → Rep K G' v d → E.rt d μ' → Dn.rt v H'
  bk : ∀ ρ' μ' σ' H' G', Gle G G' → Sat K B G' ρ' μ' σ' H' → E.bk ρ' μ' → Dn.bk σ' H'
  ct : ∀ ρ' μ' σ' H' G', Gle G G' → Sat K B G' ρ' μ' σ' H' → E.ct ρ' μ' → Dn.ct σ' H'
theorem EndsR.mono {K : PySem.W.Frag} {G G' : Gh} {E : DEnds} {Dn : Ends} (h : EndsR K B G E Dn) (g : Gle G G') : EndsR K B G' E Dn :=
  ⟨fun ρ' μ' σ' H' G2 g2 => h.nx ρ' μ' σ' H' G2 (g.trans g2), fun d μ' v H' G2 g2 => h.rt d μ' v H' G2 (g.trans g2), fun ρ' μ' σ' H' G2 g2 => h.bk ρ' μ' σ' H' G2 (g.trans g2), fun ρ' μ' σ' H' G2 g2 => h.ct ρ' μ' σ' H' G2 (g.trans g2)⟩
theorem Hand.mono {K : PySem.W.Frag} {G G' : Gh} {ρ : DR} {σ : St} {Q : QD} {Qn : VK} (h : Hand K B G ρ σ Q Qn) (g : Gle G G') : Hand K B G' ρ σ Q Qn := fun d μ' v H' G2 g2 => h d μ' v H' G2 (g.trans g2)
def RefS (K : PySem.W.Frag) (B : Gh) (T : TDS) (t : TS) : Prop := ∀ ρ μ σ H G (E : DEnds) (Dn : Ends), Sat K B G ρ μ σ H → T E ρ μ → EndsR K B G E Dn → t Dn σ H

structure DE (X : Cx) (B : Gh) (e : Expr) (t : TE) (T : TDE) : Prop where
  pe : PE X e t
  ref : RefE X.K B T t
structure DT (X : Cx) (B : Gh) (e : Expr) (t : TT) (T : TDT) : Prop where
  pt : PT X e t
  ref : RefT X.K B T t
structure DW (X : Cx) (B : Gh) (e : Expr) (t : TT) (T : TDT) : Prop where
  pw : PW X e t
  ref : RefT X.K B T t
structure DA (X : Cx) (B : Gh) (es : List Expr) (t : TA) (T : TDA) : Prop where
  pa : PA X es t
  ref : RefA X.K B T t
structure DS (X : Cx) (B : Gh) (st : Stmt) (t : TS) (T : TDS) : Prop where
  ps : PS X st t
  ref : RefS X.K B T t
structure DSs (X : Cx) (B : Gh) (st : List Stmt) (t : TS) (T : TDS) : Prop where
  pss : PSs X st t
  ref : RefS X.K B T t
end DL

/-! DL1: rules of the data layer: expressions, tests, statements. -/
namespace DL
open PySem PySem.Spec PyProof.Rows L2

section
variable {X : Cx} {pos : Pos}

/-! ### names, constants -/
@[simp] def dVar (i : Nat) : TDE := fun ρ μ Q => match ρ[i]? with | some (some d) => Q d μ | _ => False
@[simp] def dC (d : D) : TDE := fun _ μ Q => Q d μ
theorem ref_var {K : PySem.W.Frag} (i : Nat) : RefE K B (dVar i) (tVar i) := by
  intro ρ μ σ H G Q Qn S h hd
  unfold dVar at h
  split at h
  · next d e =>
    obtain ⟨v, a, b⟩ := S.env.2 i d e
    exact ⟨v, a, hd d μ v H G (Gle.refl G) S b h⟩
  · exact h.elim
theorem dv (i : Nat) {x : Str} {pos : Pos} (hN : X.N[i]? = some x := by rfl) (hv : Vis X.env.scope x := by first | exact Or.inl rfl | exact Or.inr (Or.inl rfl) | exact Or.inr (Or.inr rfl)) (hd : (x == ("__debug__" : Str)) = false := by decide)
    (hcd : (x == ("__classdict__" : Str)) = false := by decide) : DE X B (.Name x pos) (tVar i) (dVar i) := ⟨pe_var hN hv hd hcd, ref_var i⟩
theorem ref_c {K : PySem.W.Frag} {v : V} {d : D} (r : ∀ G, Rep K G v d) : RefE K B (dC d) (tC v) := fun ρ μ σ H G Q Qn S h hd => hd d μ v H G (Gle.refl G) S (r G) h
theorem de_int {i j pos} : DE X B (.Constant (.int i) j pos) (tC (.int i)) (dC (.int i)) := ⟨pe_int, ref_c fun _ => .int i⟩
theorem de_bl {b j pos} : DE X B (.Constant (.bool b) j pos) (tC (.bl b)) (dC (.bl b)) := ⟨pe_bl, ref_c fun _ => .bl b⟩
theorem de_non {j pos} : DE X B (.Constant .none j pos) (tC .non) (dC .non) := ⟨pe_non, ref_c fun _ => .non⟩
theorem de_str {x j pos} : DE X B (.Constant (.str x) j pos) (tC (.str x)) (dC (.str x)) := ⟨pe_str, ref_c fun _ => .str x⟩
/-- a module's constant -/
theorem de_glob {x : Str} {v : V} {u : Value} {d : D} (hg : Gl X x) (hm : X.mg x = some u) (r : RelV v u) (rr : ∀ G, Rep X.K G v d) (hd : (x == ("__debug__" : Str)) = false := by decide) : DE X B (.Name x pos) (tC v) (dC d) := ⟨pe_glob hg hm r hd, ref_c rr⟩

/-! ### new lists -/
/-- c: a cell; else frozen -/
def mkL (c : Bool) (xs : List D) (μ : Mu) (Q : QD) : Prop := match c with
  | true => ∀ a, μ a = none → Q (.ptr a) (mup μ a (.lst xs))
  | false => Q (.lst xs) μ
@[simp] theorem mkL_t {xs : List D} {μ : Mu} {Q : QD} : mkL true xs μ Q = ∀ a, μ a = none → Q (.ptr a) (mup μ a (.lst xs)) := rfl
@[simp] theorem mkL_f {xs : List D} {μ : Mu} {Q : QD} : mkL false xs μ Q = Q (.lst xs) μ := rfl
theorem Sat.cellNew {K : PySem.W.Frag} {G : Gh} {μ : Mu} {H : Hp} {ρ : DR} {σ : St} {p : Addr} {o : HO} {c : Cell} (h : Sat K B G ρ μ σ H) (n : H p = none) (r : CellR K G o c) : Sat K B G ρ (mup μ p c) σ (upd H p o) := ⟨h.hold.cellNew n r, h.env⟩
theorem mkL_go {K : PySem.W.Frag} {c : Bool} {xs : List D} {μ : Mu} {Q : QD} {ρ : DR} {σ : St} {H : Hp} {G : Gh} {vs : List V} {Qn : VK} {p : Addr} (h : mkL c xs μ Q) (S : Sat K B G ρ μ σ H) (r : Reps K G vs xs) (hd : Hand K B G ρ σ Q Qn) (n : H p = none) : Qn (.ref p) (upd H p (.lst vs)) := by
  cases c with
  | true => exact hd (.ptr p) _ _ _ G (Gle.refl G) (S.cellNew n (show CellR K G (.lst vs) (.lst xs) from r)) (.ptr p) (h p (S.hold.free n).2.1)
  | false => exact hd (.lst xs) μ _ _ (G.frz p (.lst vs)) (S.gle_new n) (S.new n) (.lst (show upd G.fr p (.lst vs) p = some (.lst vs) from upd_same) r.1 fun i v d a b => (r.2 i v d a b).mono (S.gle_new n)) h
theorem tup_go {K : PySem.W.Frag} {xs : List D} {μ : Mu} {Q : QD} {ρ : DR} {σ : St} {H : Hp} {G : Gh} {vs : List V} {Qn : VK} {p : Addr} (h : Q (.tup xs) μ) (S : Sat K B G ρ μ σ H) (r : Reps K G vs xs) (hd : Hand K B G ρ σ Q Qn) (n : H p = none) : Qn (.ref p) (upd H p (.tup vs)) :=
  hd (.tup xs) μ _ _ (G.frz p (.tup vs)) (S.gle_new n) (S.new n) (.tup (.inl (.inl (show upd G.fr p (.tup vs) p = some (.tup vs) from upd_same))) r.1 fun i v d a b => (r.2 i v d a b).mono (S.gle_new n)) h
/-- an object made frozen; a dict -/
theorem dic_go {K : PySem.W.Frag} {xs : List (Key × D)} {μ : Mu} {Q : QD} {ρ : DR} {σ : St} {H : Hp} {G : Gh} {vs : List (Key × V)} {Qn : VK} {p : Addr} (h : Q (.dic xs) μ) (S : Sat K B G ρ μ σ H) (r : FReps K G vs xs) (hd : Hand K B G ρ σ Q Qn) (n : H p = none) : Qn (.ref p) (upd H p (.dK vs)) :=
  hd (.dic xs) μ _ _ (G.frz p (.dK vs)) (S.gle_new n) (S.new n) (.dic (show upd G.fr p (.dK vs) p = some (.dK vs) from upd_same) r.1 fun i v d a b => (r.2.2 i v d a b).mono (S.gle_new n)) h
theorem Hand.now {K : PySem.W.Frag} {G : Gh} {ρ : DR} {σ : St} {Q : QD} {Qn : VK} {μ : Mu} {H : Hp} {d : D} {v : V} (hd : Hand K B G ρ σ Q Qn) (S : Sat K B G ρ μ σ H) (r : Rep K G v d) (q : Q d μ) : Qn v H := hd d μ v H G (Gle.refl G) S r q

/-! ### arguments, displays -/
@[simp] def dNil : TDA := fun _ μ Q => Q [] μ
@[simp] def dCons (Ta : TDE) (Tr : TDA) : TDA := fun ρ μ Q => Ta ρ μ fun d μ1 => Tr ρ μ1 fun ds μ2 => Q (d :: ds) μ2
theorem da_nil : DA X B [] tNil dNil := ⟨pa_nil, fun ρ μ σ H G Q Qn S h hd => hd [] μ [] H G (Gle.refl G) S Reps.nil h⟩
theorem da_cons {e : Expr} {es : List Expr} {te : TE} {t : TA} {Te : TDE} {T : TDA} (ha : DE X B e te Te) (hr : DA X B es t T) (hs : starEach (e :: es) X.env = (false, eval e X.env) :: starEach es X.env := by rfl) : DA X B (e :: es) (tCons te t) (dCons Te T) :=
  ⟨pa_cons ha.pe hr.pa hs, fun ρ μ σ H G Q Qn S h hd => ha.ref ρ μ σ H G _ _ S h fun d μ1 v H1 G1 g1 S1 r1 q1 => hr.ref ρ μ1 σ H1 G1 _ _ S1 q1 fun ds μ2 vs H2 G2 g2 S2 r2 q2 => hd (d :: ds) μ2 (v :: vs) H2 G2 (g1.trans g2) S2 (Reps.cons (r1.mono g2) r2) q2⟩
@[simp] def dLst (c : Bool) (T : TDA) : TDE := fun ρ μ Q => T ρ μ fun ds μ1 => ds.length ≤ sizeLine ∧ mkL c ds μ1 Q
@[simp] def dTup (T : TDA) : TDE := fun ρ μ Q => T ρ μ fun ds μ1 => ds.length ≤ sizeLine ∧ Q (.tup ds) μ1
theorem de_lst (c : Bool) {es : List Expr} {t : TA} {T : TDA} (h : DA X B es t T) : DE X B (.List es pos) (tLst t) (dLst c T) :=
  ⟨pe_lst h.pa, fun ρ μ σ H G Q Qn S q hd => h.ref ρ μ σ H G _ _ S q fun ds μ1 vs H1 G1 g1 S1 r1 ⟨l, q1⟩ => ⟨by rw [r1.1]; exact l, fun p n => mkL_go q1 S1 r1 (hd.mono g1) n⟩⟩
theorem de_tup {es : List Expr} {x1} {t : TA} {T : TDA} (h : DA X B es t T) : DE X B (.Tuple es x1 pos) (tTup t) (dTup T) :=
  ⟨pe_tup h.pa, fun ρ μ σ H G Q Qn S q hd => h.ref ρ μ σ H G _ _ S q fun ds μ1 vs H1 G1 g1 S1 r1 ⟨l, q1⟩ => ⟨by rw [r1.1]; exact l, fun p n => tup_go q1 S1 r1 (hd.mono g1) n⟩⟩

/-! ### operators -/
abbrev R2D := D → D → Mu → QD → Prop
def Ref2 (K : PySem.W.Frag) (B : Gh) (R : R2D) (r : R2) : Prop := ∀ ρ μ σ H G x y dx dy Q (Qn : VK), Sat K B G ρ μ σ H → Rep K G x dx → Rep K G y dy → R dx dy μ Q → Hand K B G ρ σ Q Qn → r x y H Qn
@[simp] def dOp (R : R2D) (Ta Tb : TDE) : TDE := fun ρ μ Q => Ta ρ μ fun x μ1 => Tb ρ μ1 fun y μ2 => R x y μ2 Q
theorem ref_op {K : PySem.W.Frag} {R : R2D} {r : R2} {ta tb : TE} {Ta Tb : TDE} (hr : Ref2 K B R r) (ha : RefE K B Ta ta) (hb : RefE K B Tb tb) : RefE K B (dOp R Ta Tb) (tOp r ta tb) :=
  fun ρ μ σ H G Q Qn S h hd => ha ρ μ σ H G _ _ S h fun d μ1 v H1 G1 g1 S1 r1 q1 => hb ρ μ1 σ H1 G1 _ _ S1 q1 fun d2 μ2 v2 H2 G2 g2 S2 r2 q2 => hr ρ μ2 σ H2 G2 v v2 d d2 Q Qn S2 (r1.mono g2) r2 q2 (hd.mono (g1.trans g2))
variable {a b : Expr} {ta tb : TE} {Ta Tb : TDE} {R : R2D} {r : R2}
theorem de_op {op : Operator} (ho : OpR X (binaryOp op) r ∧ Ref2 X.K B R r) (ha : DE X B a ta Ta) (hb : DE X B b tb Tb) : DE X B (.BinOp a op b pos) (tOp r ta tb) (dOp R Ta Tb) := ⟨pe_op ho.1 ha.pe hb.pe, ref_op ho.2 ha.ref hb.ref⟩
theorem de_cmp {op : CmpOp} (ho : OpR X (compareOp op) r ∧ Ref2 X.K B R r) (ha : DE X B a ta Ta) (hb : DE X B b tb Tb) (hm : behindInMarks op b = false := by first | exact nomark _ | rfl) : DE X B (.Compare a [op] [b] pos) (tOp r ta tb) (dOp R Ta Tb) := ⟨pe_cmpR ho.1 ha.pe hb.pe hm, ref_op ho.2 ha.ref hb.ref⟩
/-- a test of a value that is True or False -/
@[simp] def dB (T : TDE) : TDT := fun ρ μ Q => T ρ μ fun d μ1 => match d with | .bl b => Q b μ1 | _ => False
theorem ref_B {K : PySem.W.Frag} {t : TE} {T : TDE} (h : RefE K B T t) : RefT K B (dB T) (tTest t) := fun ρ μ σ H G Q Qn S q hd => h ρ μ σ H G _ _ S q fun d μ1 v H1 G1 g1 S1 r1 q1 => by
  cases d with
  | bl b => exact ⟨b, r1.ofBl, hd b μ1 H1 G1 g1 S1 q1⟩
  | _ => exact q1.elim
theorem dt_cmp {op : CmpOp} (ho : OpR X (compareOp op) r ∧ Ref2 X.K B R r) (ha : DE X B a ta Ta) (hb : DE X B b tb Tb) (hm : behindInMarks op b = false := by first | exact nomark _ | rfl) : DT X B (.Compare a [op] [b] pos) (tTest (tOp r ta tb)) (dB (dOp R Ta Tb)) := ⟨pt_cmpR ho.1 ha.pe hb.pe hm, ref_B (ref_op ho.2 ha.ref hb.ref)⟩
/-- any expression whose value is a bool -/
theorem dt_val {e : Expr} {t : TE} {T : TDE} (h : DE X B e t T) (he : ∀ whole, isTrue e X.env whole = (do let v ← whole; standAt e.pos; holding [v] (truthy v)) := by intro _; rfl) : DT X B e (tB t) (dB T) := ⟨pt_val h.pe he, ref_B h.ref⟩

/-! ints, texts, lists: + -/
@[simp] def opAdd : R2D := fun x y μ Q => match vw μ x, vw μ y with
  | .int i, .int j => Q (.int (i + j)) μ
  | .str s, .str t => s.length + t.length ≤ sizeLine ∧ Q (.str (s ++ t)) μ
  | .lst xs, .lst ys => xs.length + ys.length ≤ sizeLine ∧ Q (.lst (xs ++ ys)) μ
  | _, _ => False
@[simp] def opAddC : R2D := fun x y μ Q => match vw μ x, vw μ y with
  | .lst xs, .lst ys => xs.length + ys.length ≤ sizeLine ∧ mkL true (xs ++ ys) μ Q
  | _, _ => False
end

theorem vw_int' {μ : Mu} {d : D} {i : Int} (h : vw μ d = .int i) : d = .int i := by
  cases d with
  | ptr a =>
    simp only [vw] at h
    split at h <;> cases h
  | _ => first | exact h | cases h
theorem vw_str' {μ : Mu} {d : D} {i : Str} (h : vw μ d = .str i) : d = .str i := by
  cases d with
  | ptr a =>
    simp only [vw] at h
    split at h <;> cases h
  | _ => first | exact h | cases h
theorem vw_bl' {μ : Mu} {d : D} {i : Bool} (h : vw μ d = .bl i) : d = .bl i := by
  cases d with
  | ptr a =>
    simp only [vw] at h
    split at h <;> cases h
  | _ => first | exact h | cases h
section
variable {X : Cx}
def rAddA : R2 := fun x y H Q => (∃ i j, x = .int i ∧ y = .int j ∧ Q (.int (i + j)) H) ∨ (∃ i j, x = .str i ∧ y = .str j ∧ i.length + j.length ≤ sizeLine ∧ Q (.str (i ++ j)) H) ∨ rCat x y H Q
theorem op_addA : OpR X (binaryOp .Add) rAddA := op_add.or (op_add_str.or op_cat)
theorem ref_addC : Ref2 X.K B opAddC rAddA := by
  intro ρ μ σ H G x y dx dy Q Qn S r1 r2 h hd
  unfold opAddC at h
  split at h
  · next e1 e2 =>
    obtain ⟨l, h⟩ := h
    obtain ⟨p, vs, rfl, h1, q1⟩ := S.hold.lst r1 e1
    obtain ⟨p2, ws, rfl, h2, q2⟩ := S.hold.lst r2 e2
    exact .inr (.inr ⟨p, p2, vs, ws, rfl, rfl, h1, h2, by rw [q1.1, q2.1]; exact l, fun q n => mkL_go h S (q1.append q2) hd n⟩)
  · exact h.elim
theorem ref_add : Ref2 X.K B opAdd rAddA := by
  intro ρ μ σ H G x y dx dy Q Qn S r1 r2 h hd
  unfold opAdd at h
  split at h
  · next i j e1 e2 =>
    cases vw_int' e1; cases vw_int' e2
    exact .inl ⟨i, j, r1.ofInt, r2.ofInt, hd.now S (.int _) h⟩
  · next i j e1 e2 =>
    cases vw_str' e1; cases vw_str' e2
    exact .inr (.inl ⟨i, j, r1.ofStr, r2.ofStr, h.1, hd.now S (.str _) h.2⟩)
  · next e1 e2 =>
    obtain ⟨l, h⟩ := h
    obtain ⟨p, vs, rfl, h1, q1⟩ := S.hold.lst r1 e1
    obtain ⟨p2, ws, rfl, h2, q2⟩ := S.hold.lst r2 e2
    exact .inr (.inr ⟨p, p2, vs, ws, rfl, rfl, h1, h2, by rw [q1.1, q2.1]; exact l, fun q n => mkL_go (c := false) h S (q1.append q2) hd n⟩)
  · exact h.elim
theorem do_add : OpR X (binaryOp .Add) rAddA ∧ Ref2 X.K B opAdd rAddA := ⟨op_addA, ref_add⟩
theorem do_addC : OpR X (binaryOp .Add) rAddA ∧ Ref2 X.K B opAddC rAddA := ⟨op_addA, ref_addC⟩

/-- two ints, a side condition -/
@[simp] def opZ (C : Int → Int → Prop) (g : Int → Int → D) : R2D := fun x y μ Q => match x, y with
  | .int i, .int j => C i j ∧ Q (g i j) μ
  | _, _ => False
@[simp] def opZ0 (g : Int → Int → D) : R2D := fun x y μ Q => match x, y with
  | .int i, .int j => Q (g i j) μ
  | _, _ => False
theorem ref_I {C : Int → Int → Prop} {g : Int → Int → Int} : Ref2 X.K B (opZ C fun i j => .int (g i j)) (rI C fun i j => .int (g i j)) := by
  intro ρ μ σ H G x y dx dy Q Qn S r1 r2 h hd
  unfold opZ at h
  split at h
  · next i j => exact ⟨i, j, r1.ofInt, r2.ofInt, h.1, hd.now S (.int _) h.2⟩
  · exact h.elim
theorem ref_I0 {g : Int → Int → Int} : Ref2 X.K B (opZ0 fun i j => .int (g i j)) (rI0 fun i j => .int (g i j)) := by
  intro ρ μ σ H G x y dx dy Q Qn S r1 r2 h hd
  unfold opZ0 at h
  split at h
  · next i j => exact ⟨i, j, r1.ofInt, r2.ofInt, hd.now S (.int _) h⟩
  · exact h.elim
theorem ref_B0 {g : Int → Int → Bool} : Ref2 X.K B (opZ0 fun i j => .bl (g i j)) (rI0 fun i j => .bl (g i j)) := by
  intro ρ μ σ H G x y dx dy Q Qn S r1 r2 h hd
  unfold opZ0 at h
  split at h
  · next i j => exact ⟨i, j, r1.ofInt, r2.ofInt, hd.now S (.bl _) h⟩
  · exact h.elim
abbrev opSub : R2D := opZ0 fun i j => .int (i - j)
abbrev opMul : R2D := opZ CMul fun i j => .int (i * j)
abbrev opMod : R2D := opZ (fun _ j => 0 < j) fun i j => .int (i % j)
abbrev opDiv : R2D := opZ CDiv fun i j => .int (i / j)
abbrev opPow : R2D := opZ CPow fun i j => .int (i ^ j.toNat)
theorem do_sub : OpR X (binaryOp .Sub) (rI0 fun i j => .int (i - j)) ∧ Ref2 X.K B opSub (rI0 fun i j => .int (i - j)) := ⟨op_sub, ref_I0⟩
theorem do_mul : OpR X (binaryOp .Mult) (rI CMul fun i j => .int (i * j)) ∧ Ref2 X.K B opMul (rI CMul fun i j => .int (i * j)) := ⟨op_mul, ref_I⟩
theorem do_mod : OpR X (binaryOp .Mod) (rI (fun _ j => 0 < j) fun i j => .int (i % j)) ∧ Ref2 X.K B opMod (rI (fun _ j => 0 < j) fun i j => .int (i % j)) := ⟨op_mod, ref_I⟩
theorem do_div : OpR X (binaryOp .FloorDiv) (rI CDiv fun i j => .int (i / j)) ∧ Ref2 X.K B opDiv (rI CDiv fun i j => .int (i / j)) := ⟨op_fdiv, ref_I⟩
theorem do_pow : OpR X (binaryOp .Pow) (rI CPow fun i j => .int (i ^ j.toNat)) ∧ Ref2 X.K B opPow (rI CPow fun i j => .int (i ^ j.toNat)) := ⟨op_pow, ref_I⟩
abbrev opLt : R2D := opZ0 fun i j => .bl (decide (i < j))
abbrev opLe : R2D := opZ0 fun i j => .bl (decide (i ≤ j))
abbrev opGt : R2D := opZ0 fun i j => .bl (decide (j < i))
abbrev opGe : R2D := opZ0 fun i j => .bl (decide (j ≤ i))
theorem do_lt : OpR X (compareOp .Lt) (rI0 fun i j => .bl (decide (i < j))) ∧ Ref2 X.K B opLt (rI0 fun i j => .bl (decide (i < j))) := ⟨op_lt, ref_B0⟩
theorem do_le : OpR X (compareOp .LtE) (rI0 fun i j => .bl (decide (i ≤ j))) ∧ Ref2 X.K B opLe (rI0 fun i j => .bl (decide (i ≤ j))) := ⟨op_le, ref_B0⟩
theorem do_gt : OpR X (compareOp .Gt) (rI0 fun i j => .bl (decide (j < i))) ∧ Ref2 X.K B opGt (rI0 fun i j => .bl (decide (j < i))) := ⟨op_gt, ref_B0⟩
theorem do_ge : OpR X (compareOp .GtE) (rI0 fun i j => .bl (decide (j ≤ i))) ∧ Ref2 X.K B opGe (rI0 fun i j => .bl (decide (j ≤ i))) := ⟨op_ge, ref_B0⟩
end
end DL

/-! DL2: equality, in, is None, items, slices, built-ins, methods. -/
namespace DL
open PySem PySem.Spec PyProof.Rows L2

/-! ### texts as lists of codes -/
def mk (l : List Nat) : Str := ⟨l.toArray⟩
@[simp] theorem mk_cps (l : List Nat) : (mk l).cps.toList = l := by simp [mk]
@[simp] theorem mk_cps' (l : List Nat) : (mk l).cps = l.toArray := rfl
@[simp] theorem mk_length (l : List Nat) : (mk l).length = l.length := by simp [mk, Str.length]
@[simp] theorem mk_append (a b : List Nat) : mk a ++ mk b = mk (a ++ b) := by
  show Str.append (mk a) (mk b) = _
  simp [mk, Str.append]
@[simp] theorem mk_inj {a b : List Nat} : mk a = mk b ↔ a = b := by
  constructor
  · intro h; have := congrArg (fun z => z.cps.toList) h; simpa using this
  · intro h; rw [h]
theorem ofString_mk (s : String) : Str.ofString s = mk (s.toList.map Char.toNat) := Str.ofString_eq_toList s
theorem mk_of (s : Str) : mk s.cps.toList = s := by cases s; simp [mk]

/-! ### data as the library's data -/
mutual
def py : D → Option PyData
  | .non => some .none
  | .bl b => some (.bool b)
  | .int i => some (.int i)
  | .str s => some (.str s)
  | .lst xs => (pyL xs).map .list
  | .tup xs => (pyL xs).map .tuple
  | .dic _ => none
  | .obj _ _ => none
  | .src => none
  | .room => none
  | .ptr _ => none
  | .scr _ => none
def pyL : List D → Option (List PyData)
  | [] => some []
  | x :: xs => match py x, pyL xs with
    | some d, some ds => some (d :: ds)
    | _, _ => none
end
mutual
theorem rep_dp {K : PySem.W.Frag} {G : Gh} {H : Hp} (e : Ext G.fr H) : ∀ (d : D) (v : V) (p : PyData), Rep K G v d → py d = some p → Dp K H v p
  | .non, v, p, r, h => by cases r; simp [py] at h; subst h; exact .non
  | .bl b, v, p, r, h => by cases r; simp [py] at h; subst h; exact .bl b
  | .int b, v, p, r, h => by cases r; simp [py] at h; subst h; exact .int b
  | .str b, v, p, r, h => by cases r; simp [py] at h; subst h; exact .str b
  | .lst xs, v, p, r, h => by
    cases r with
    | lst hh l r =>
      rw [py] at h
      cases q : pyL xs with
      | none => rw [q] at h; cases h
      | some ds => rw [q] at h; cases h; exact .lst (.inl (.inl (e _ _ hh))) (rep_dpL e xs _ ds ⟨l, r⟩ q)
  | .tup xs, v, p, r, h => by
    cases r with
    | tup hh l r =>
      rw [py] at h
      cases q : pyL xs with
      | none => rw [q] at h; cases h
      | some ds => rw [q] at h; cases h; exact .tup (e.seqT hh) (rep_dpL e xs _ ds ⟨l, r⟩ q)
  | .dic _, v, p, r, h => by simp [py] at h
  | .obj _ _, v, p, r, h => by simp [py] at h
  | .src, v, p, r, h => by simp [py] at h
  | .room, v, p, r, h => by simp [py] at h
  | .ptr _, v, p, r, h => by simp [py] at h
  | .scr _, v, p, r, h => by simp [py] at h
theorem rep_dpL {K : PySem.W.Frag} {G : Gh} {H : Hp} (e : Ext G.fr H) : ∀ (ds : List D) (vs : List V) (ps : List PyData), Reps K G vs ds → pyL ds = some ps → DpAll K H vs ps
  | [], vs, ps, r, h => by rw [r.nil_inv]; simp [pyL] at h; subst h; exact .nil
  | d :: ds, vs, ps, r, h => by
    obtain ⟨v, vr, rfl, a, b⟩ := r.cons_inv
    rw [pyL] at h
    cases q1 : py d with
    | none => simp [q1] at h
    | some p1 =>
      cases q2 : pyL ds with
      | none => simp [q1, q2] at h
      | some p2 =>
        simp [q1, q2] at h
        subst h
        exact .cons (rep_dp e d v p1 a q1) (rep_dpL e ds vr p2 b q2)
end
/-- the seen lists too -/
theorem Hold.dpL {K : PySem.W.Frag} {G : Gh} {μ : Mu} {H : Hp} {v : V} {d : D} {xs : List D} {ps : List PyData} (h : Hold K G μ H) (r : Rep K G v d) (e : vw μ d = .lst xs) (q : pyL xs = some ps) : Dp K H v (.list ps) := by
  obtain ⟨a, vs, rfl, h1, h2⟩ := h.lst r e
  exact .lst (.inl (.inl h1)) (rep_dpL h.fr xs vs ps h2 q)
theorem Hold.dpT {K : PySem.W.Frag} {G : Gh} {μ : Mu} {H : Hp} {v : V} {d : D} {xs : List D} {ps : List PyData} (h : Hold K G μ H) (r : Rep K G v d) (e : vw μ d = .tup xs) (q : pyL xs = some ps) : Dp K H v (.tuple ps) := by
  obtain ⟨a, vs, rfl, h1, h2⟩ := h.tup r e
  exact .tup h1 (rep_dpL h.fr xs vs ps h2 q)

section
variable {X : Cx} {pos : Pos}
/-- == : scalars by themselves, lists and tuples as the library's data -/
@[simp] def eqW (neg : Bool) : R2D := fun x y μ Q => match vw μ x, vw μ y with
  | .int i, .int j => Q (.bl (neg ^^ decide (i = j))) μ
  | .str i, .str j => Q (.bl (neg ^^ decide (i = j))) μ
  | .bl i, .bl j => Q (.bl (neg ^^ decide (i = j))) μ
  | .non, .non => Q (.bl (neg ^^ true)) μ
  | .non, .str _ => Q (.bl (neg ^^ false)) μ
  | .str _, .non => Q (.bl (neg ^^ false)) μ
  | .non, .int _ => Q (.bl (neg ^^ false)) μ
  | .int _, .non => Q (.bl (neg ^^ false)) μ
  | .lst xs, .lst ys => ∃ ds es, pyL xs = some ds ∧ pyL ys = some es ∧ SeqAt.shaped (.list ds) = true ∧ SeqAt.shaped (.list es) = true ∧ Q (.bl (neg ^^ PyData.eqvAll ds es)) μ
  | .tup xs, .tup ys => ∃ ds es, pyL xs = some ds ∧ pyL ys = some es ∧ SeqAt.shaped (.tuple ds) = true ∧ SeqAt.shaped (.tuple es) = true ∧ Q (.bl (neg ^^ PyData.eqvAll ds es)) μ
  | _, _ => False
abbrev opEq : R2D := eqW false
abbrev opNe : R2D := eqW true
def rEqA (K : PySem.W.Frag) : R2 := fun x y H Q => rEq x y H Q ∨ rEqD K x y H Q
def rNeA (K : PySem.W.Frag) : R2 := fun x y H Q => rNe x y H Q ∨ rNeD K x y H Q
theorem vw_non' {μ : Mu} {d : D} (h : vw μ d = .non) : d = .non := by
  cases d with
  | ptr a =>
    simp only [vw] at h
    split at h <;> cases h
  | _ => first | exact h | cases h
theorem ref_eq : Ref2 X.K B opEq (rEqA X.K) := by
  intro ρ μ σ H G x y dx dy Q Qn S r1 r2 h hd
  unfold opEq eqW at h
  split at h
  · next e1 e2 => cases vw_int' e1; cases vw_int' e2; cases r1; cases r2; exact .inl ⟨rfl, hd.now S (.bl _) (by simpa using h)⟩
  · next e1 e2 => cases vw_str' e1; cases vw_str' e2; cases r1; cases r2; exact .inl ⟨rfl, hd.now S (.bl _) (by simpa using h)⟩
  · next e1 e2 => cases vw_bl' e1; cases vw_bl' e2; cases r1; cases r2; exact .inl ⟨rfl, hd.now S (.bl _) (by simpa using h)⟩
  · next e1 e2 => cases vw_non' e1; cases vw_non' e2; cases r1; cases r2; exact .inl ⟨rfl, hd.now S (.bl _) (by simpa using h)⟩
  · next e1 e2 => cases vw_non' e1; cases vw_str' e2; cases r1; cases r2; exact .inl ⟨rfl, hd.now S (.bl _) (by simpa using h)⟩
  · next e1 e2 => cases vw_str' e1; cases vw_non' e2; cases r1; cases r2; exact .inl ⟨rfl, hd.now S (.bl _) (by simpa using h)⟩
  · next e1 e2 => cases vw_non' e1; cases vw_int' e2; cases r1; cases r2; exact .inl ⟨rfl, hd.now S (.bl _) (by simpa using h)⟩
  · next e1 e2 => cases vw_int' e1; cases vw_non' e2; cases r1; cases r2; exact .inl ⟨rfl, hd.now S (.bl _) (by simpa using h)⟩
  · next e1 e2 =>
    obtain ⟨ds, es, p1, p2, s1, s2, q⟩ := h
    exact .inr ⟨_, _, S.hold.dpL r1 e1 p1, S.hold.dpL r2 e2 p2, s1, s2, hd.now S (.bl _) (by rw [PyData.eqv]; simpa using q)⟩
  · next e1 e2 =>
    obtain ⟨ds, es, p1, p2, s1, s2, q⟩ := h
    exact .inr ⟨_, _, S.hold.dpT r1 e1 p1, S.hold.dpT r2 e2 p2, s1, s2, hd.now S (.bl _) (by rw [PyData.eqv]; simpa using q)⟩
  · exact h.elim
theorem ref_ne : Ref2 X.K B opNe (rNeA X.K) := by
  intro ρ μ σ H G x y dx dy Q Qn S r1 r2 h hd
  unfold opNe eqW at h
  split at h
  · next e1 e2 => cases vw_int' e1; cases vw_int' e2; cases r1; cases r2; exact .inl ⟨rfl, hd.now S (.bl _) (by simpa using h)⟩
  · next e1 e2 => cases vw_str' e1; cases vw_str' e2; cases r1; cases r2; exact .inl ⟨rfl, hd.now S (.bl _) (by simpa using h)⟩
  · next e1 e2 => cases vw_bl' e1; cases vw_bl' e2; cases r1; cases r2; exact .inl ⟨rfl, hd.now S (.bl _) (by simpa using h)⟩
  · next e1 e2 => cases vw_non' e1; cases vw_non' e2; cases r1; cases r2; exact .inl ⟨rfl, hd.now S (.bl _) (by simpa using h)⟩
  · next e1 e2 => cases vw_non' e1; cases vw_str' e2; cases r1; cases r2; exact .inl ⟨rfl, hd.now S (.bl _) (by simpa using h)⟩
  · next e1 e2 => cases vw_str' e1; cases vw_non' e2; cases r1; cases r2; exact .inl ⟨rfl, hd.now S (.bl _) (by simpa using h)⟩
  · next e1 e2 => cases vw_non' e1; cases vw_int' e2; cases r1; cases r2; exact .inl ⟨rfl, hd.now S (.bl _) (by simpa using h)⟩
  · next e1 e2 => cases vw_int' e1; cases vw_non' e2; cases r1; cases r2; exact .inl ⟨rfl, hd.now S (.bl _) (by simpa using h)⟩
  · next e1 e2 =>
    obtain ⟨ds, es, p1, p2, s1, s2, q⟩ := h
    exact .inr ⟨_, _, S.hold.dpL r1 e1 p1, S.hold.dpL r2 e2 p2, s1, s2, hd.now S (.bl _) (by rw [PyData.eqv]; simpa using q)⟩
  · next e1 e2 =>
    obtain ⟨ds, es, p1, p2, s1, s2, q⟩ := h
    exact .inr ⟨_, _, S.hold.dpT r1 e1 p1, S.hold.dpT r2 e2 p2, s1, s2, hd.now S (.bl _) (by rw [PyData.eqv]; simpa using q)⟩
  · exact h.elim
/-- hr: the call's room -/
theorem do_eq {k : Nat} (hr : Room k X.A) : OpR X (compareOp .Eq) (rEqA X.K) ∧ Ref2 X.K B opEq (rEqA X.K) := ⟨op_eq.or (op_eqD hr.units), ref_eq⟩
theorem do_ne {k : Nat} (hr : Room k X.A) : OpR X (compareOp .NotEq) (rNeA X.K) ∧ Ref2 X.K B opNe (rNeA X.K) := ⟨op_ne.or (op_neD hr.units), ref_ne⟩

/-! is None -/
@[simp] def isNonD : D → Bool
  | .non => true
  | _ => false
@[simp] def opIs (neg : Bool) : R2D := fun x y μ Q => match y with
  | .non => Q (.bl (neg ^^ isNonD x)) μ
  | _ => False
theorem rep_non {K : PySem.W.Frag} {G : Gh} {v : V} {d : D} (r : Rep K G v d) : decide (v = .non) = isNonD d := by
  cases r <;> simp [isNonD]
theorem do_is : OpR X (compareOp .Is) (fun x y H Q => y = .non ∧ Q (.bl (decide (x = .non))) H) ∧ Ref2 X.K B (opIs false) (fun x y H Q => y = .non ∧ Q (.bl (decide (x = .non))) H) := by
  refine ⟨op_isN, ?_⟩
  intro ρ μ σ H G x y dx dy Q Qn S r1 r2 h hd
  cases dy with
  | non =>
    refine ⟨r2.ofNon, ?_⟩
    rw [rep_non r1]
    have h' : Q (.bl (false ^^ isNonD dx)) μ := h
    exact hd.now S (.bl _) (by simpa using h')
  | _ => exact False.elim h
theorem do_isnot : OpR X (compareOp .IsNot) (fun x y H Q => y = .non ∧ Q (.bl (!decide (x = .non))) H) ∧ Ref2 X.K B (opIs true) (fun x y H Q => y = .non ∧ Q (.bl (!decide (x = .non))) H) := by
  refine ⟨op_notN, ?_⟩
  intro ρ μ σ H G x y dx dy Q Qn S r1 r2 h hd
  cases dy with
  | non =>
    refine ⟨r2.ofNon, ?_⟩
    rw [rep_non r1]
    have h' : Q (.bl (true ^^ isNonD dx)) μ := h
    exact hd.now S (.bl _) (by simpa using h')
  | _ => exact False.elim h

/-! in -/
def strsOf : List D → Option (List Str)
  | [] => some []
  | .str s :: r => (strsOf r).map (s :: ·)
  | _ :: _ => none
@[simp] theorem strsOf_nil : strsOf [] = some [] := rfl
@[simp] theorem strsOf_cons (s : Str) (r : List D) : strsOf (.str s :: r) = (strsOf r).map (s :: ·) := rfl
@[simp] theorem strsOf_map (ss : List Str) : strsOf (ss.map .str) = some ss := by
  induction ss with
  | nil => rfl
  | cons s r ih => rw [List.map_cons, strsOf, ih]; rfl
theorem strsOf_eq : ∀ {xs : List D} {ss : List Str}, strsOf xs = some ss → xs = ss.map .str
  | [], ss, h => by cases h; rfl
  | x :: r, ss, h => by
    cases x with
    | str s =>
      rw [strsOf] at h
      cases q : strsOf r with
      | none => rw [q] at h; cases h
      | some t => rw [q] at h; cases h; rw [strsOf_eq q]; rfl
    | _ => cases h
def intsOf : List D → Option (List Int)
  | [] => some []
  | .int s :: r => (intsOf r).map (s :: ·)
  | _ :: _ => none
@[simp] theorem intsOf_nil : intsOf [] = some [] := rfl
@[simp] theorem intsOf_cons (s : Int) (r : List D) : intsOf (.int s :: r) = (intsOf r).map (s :: ·) := rfl
@[simp] theorem intsOf_map (ss : List Int) : intsOf (ss.map .int) = some ss := by
  induction ss with
  | nil => rfl
  | cons s r ih => rw [List.map_cons, intsOf, ih]; rfl
theorem intsOf_eq : ∀ {xs : List D} {ss : List Int}, intsOf xs = some ss → xs = ss.map .int
  | [], ss, h => by cases h; rfl
  | x :: r, ss, h => by
    cases x with
    | int s =>
      rw [intsOf] at h
      cases q : intsOf r with
      | none => rw [q] at h; cases h
      | some t => rw [q] at h; cases h; rw [intsOf_eq q]; rfl
    | _ => cases h
theorem Reps.strs {K : PySem.W.Frag} {G : Gh} : ∀ {ss : List Str} {vs : List V}, Reps K G vs (ss.map .str) → vs = ss.map .str
  | [], vs, h => h.nil_inv
  | s :: r, vs, h => by
    obtain ⟨v, vr, rfl, a, b⟩ := h.cons_inv
    rw [a.ofStr, Reps.strs b]; rfl
theorem Reps.ofStrs {K : PySem.W.Frag} {G : Gh} : ∀ (ss : List Str), Reps K G (ss.map V.str) (ss.map D.str)
  | [] => Reps.nil
  | s :: r => Reps.cons (.str s) (Reps.ofStrs r)
theorem Reps.ints {K : PySem.W.Frag} {G : Gh} : ∀ {ss : List Int} {vs : List V}, Reps K G vs (ss.map .int) → vs = ss.map .int
  | [], vs, h => h.nil_inv
  | s :: r, vs, h => by
    obtain ⟨v, vr, rfl, a, b⟩ := h.cons_inv
    rw [a.ofInt, Reps.ints b]; rfl
theorem Reps.ofInts {K : PySem.W.Frag} {G : Gh} : ∀ (ss : List Int), Reps K G (ss.map V.int) (ss.map D.int)
  | [] => Reps.nil
  | s :: r => Reps.cons (.int s) (Reps.ofInts r)
theorem inV_strs (s : Str) (ss : List Str) : inV (.str s) (ss.map .str) = decide (s ∈ ss) := by
  unfold inV
  rw [List.any_map]
  induction ss with
  | nil => rfl
  | cons t r ih =>
    rw [List.any_cons, ih]
    have : (fun y => eqV y (V.str s)) (V.str t) = (t == s) := rfl
    simp only [Function.comp, this]
    by_cases h : t = s
    · subst h; simp
    · have h' : ¬ s = t := fun e => h e.symm
      simp [h, h']
theorem inV_ints (s : Int) (ss : List Int) : inV (.int s) (ss.map .int) = decide (s ∈ ss) := by
  unfold inV
  rw [List.any_map]
  induction ss with
  | nil => rfl
  | cons t r ih =>
    rw [List.any_cons, ih]
    have : (fun y => eqV y (V.int s)) (V.int t) = (t == s) := rfl
    simp only [Function.comp, this]
    by_cases h : t = s
    · subst h; simp
    · have h' : ¬ s = t := fun e => h e.symm
      simp [h, h']
theorem flat_strs (ss : List Str) : (ss.map V.str).all flatV = true := by
  induction ss with
  | nil => rfl
  | cons t r ih => simpa [flatV] using ih
theorem flat_ints (ss : List Int) : (ss.map V.int).all flatV = true := by
  induction ss with
  | nil => rfl
  | cons t r ih => simpa [flatV] using ih
/-- in a list or tuple of texts, of ints; one sign in a text -/
@[simp] def inSeq (neg : Bool) (x : D) (xs : List D) (μ : Mu) (Q : QD) : Prop := match x with
  | .str s => ∃ ss, strsOf xs = some ss ∧ Q (.bl (neg ^^ decide (s ∈ ss))) μ
  | .int s => ∃ ss, intsOf xs = some ss ∧ Q (.bl (neg ^^ decide (s ∈ ss))) μ
  | _ => False
@[simp] def inW (neg : Bool) : R2D := fun x y μ Q => match vw μ y with
  | .lst xs => inSeq neg x xs μ Q
  | .tup xs => inSeq neg x xs μ Q
  | .str t => match x with
    | .str s => ∃ c, s = mk [c] ∧ Q (.bl (neg ^^ decide (c ∈ t.cps.toList))) μ
    | _ => False
  | _ => False
abbrev opIn : R2D := inW false
abbrev opNin : R2D := inW true
def rInSeq (K : PySem.W.Frag) (neg : Bool) : R2 := fun x y H Q => rIn K neg x y H Q ∨ (∃ (c : Nat) (z : Str), x = .str ⟨#[c]⟩ ∧ y = .str z ∧ Q (.bl (neg ^^ decide (c ∈ z.cps.toList))) H)
theorem inSeq_go {K : PySem.W.Frag} {neg : Bool} {x : V} {dx : D} {xs : List D} {vs : List V} {μ : Mu} {Q : QD} {ρ : DR} {σ : St} {H : Hp} {G : Gh} {Qn : VK} (h : inSeq neg dx xs μ Q) (S : Sat K B G ρ μ σ H) (r1 : Rep K G x dx) (r : Reps K G vs xs) (hd : Hand K B G ρ σ Q Qn) : flatV x = true ∧ vs.all flatV = true ∧ Qn (.bl (if neg then !inV x vs else inV x vs)) H := by
  cases dx with
  | str s =>
    obtain ⟨ss, e, q⟩ := h
    have e' := strsOf_eq e
    subst e'
    have ev := r.strs
    subst ev
    cases r1
    refine ⟨rfl, flat_strs ss, ?_⟩
    rw [inV_strs]
    cases neg <;> exact hd.now S (.bl _) (by simpa using q)
  | int s =>
    obtain ⟨ss, e, q⟩ := h
    have e' := intsOf_eq e
    subst e'
    have ev := r.ints
    subst ev
    cases r1
    refine ⟨rfl, flat_ints ss, ?_⟩
    rw [inV_ints]
    cases neg <;> exact hd.now S (.bl _) (by simpa using q)
  | _ => exact False.elim h
theorem ref_inW (neg : Bool) : Ref2 X.K B (inW neg) (rInSeq X.K neg) := by
  intro ρ μ σ H G x y dx dy Q Qn S r1 r2 h hd
  unfold inW at h
  split at h
  · next e =>
    obtain ⟨p, vs, rfl, h1, q1⟩ := S.hold.lst r2 e
    obtain ⟨f1, f2, q⟩ := inSeq_go h S r1 q1 hd
    exact .inl ⟨p, vs, rfl, .inl (SqL.of h1), f1, f2, q⟩
  · next e =>
    obtain ⟨p, vs, rfl, h1, q1⟩ := S.hold.tup r2 e
    obtain ⟨f1, f2, q⟩ := inSeq_go h S r1 q1 hd
    exact .inl ⟨p, vs, rfl, .inr h1, f1, f2, q⟩
  · next t e =>
    cases vw_str' e
    cases dx with
    | str s =>
      obtain ⟨c, rfl, q⟩ := h
      cases r1; cases r2
      exact .inr ⟨c, t, rfl, rfl, hd.now S (.bl _) q⟩
    | _ => exact False.elim h
  · exact h.elim
theorem do_in : OpR X (compareOp .In) (rInSeq X.K false) ∧ Ref2 X.K B opIn (rInSeq X.K false) := ⟨(op_in_seq).or (by simpa using op_in_sign), ref_inW false⟩
theorem do_nin : OpR X (compareOp .NotIn) (rInSeq X.K true) ∧ Ref2 X.K B opNin (rInSeq X.K true) := ⟨(op_notIn_seq).or (by simpa using op_notIn_sign), ref_inW true⟩

/-! ### items and slices -/
@[simp] def opIx : R2D := fun x y μ Q => match vw μ x, y with
  | .lst xs, .int i => ∃ d, atI xs i = some d ∧ Q d μ
  | .tup xs, .int i => ∃ d, atI xs i = some d ∧ Q d μ
  | .str s, .int i => s.length ≤ sizeLine ∧ ∃ c, atI s.cps.toList i = some c ∧ Q (.str (mk [c])) μ
  | _, _ => False
theorem atI_reps {K : PySem.W.Frag} {G : Gh} {vs : List V} {xs : List D} (r : Reps K G vs xs) {i : Int} {d : D} (h : atI xs i = some d) : ∃ v, atI vs i = some v ∧ Rep K G v d := by
  unfold atI at *
  rw [r.1]
  cases q : ixN xs.length i with
  | none => rw [q] at h; cases h
  | some j =>
    rw [q] at h
    obtain ⟨v, a, b⟩ := r.get (show xs[j]? = some d from h)
    exact ⟨v, a, b⟩
theorem ref_ix : Ref2 X.K B opIx (rIx X.K) := by
  intro ρ μ σ H G x y dx dy Q Qn S r1 r2 h hd
  unfold opIx at h
  split at h
  · next i e =>
    cases r2
    obtain ⟨d, a, q⟩ := h
    obtain ⟨p, vs, rfl, h1, q1⟩ := S.hold.lst r1 e
    obtain ⟨v, a', rv⟩ := atI_reps q1 a
    exact .inl ⟨p, vs, i, v, rfl, rfl, SqL.of h1, a', hd.now S rv q⟩
  · next i e =>
    cases r2
    obtain ⟨d, a, q⟩ := h
    obtain ⟨p, vs, rfl, h1, q1⟩ := S.hold.tup r1 e
    obtain ⟨v, a', rv⟩ := atI_reps q1 a
    exact .inr (.inl ⟨p, vs, i, v, rfl, rfl, h1, a', hd.now S rv q⟩)
  · next s i e =>
    cases r2
    cases vw_str' e
    cases r1
    obtain ⟨l, c, a, q⟩ := h
    exact .inr (.inr ⟨s, i, c, rfl, rfl, l, a, hd.now S (.str _) q⟩)
  · exact h.elim
variable {a b : Expr} {ta tb : TE} {Ta Tb : TDE}
theorem de_ix (ha : DE X B a ta Ta) (hb : DE X B b tb Tb) (hs : PlainIx b := by exact fun _ _ => rfl) : DE X B (.Subscript a b pos) (tOp (rIx X.K) ta tb) (dOp opIx Ta Tb) := ⟨pe_ix ix_seq ha.pe hb.pe hs, ref_op ref_ix ha.ref hb.ref⟩

def cutD {α : Type} (xs : List α) (lo hi : Option Int) : List α := (xs.drop (HT.sIx xs.length 0 lo)).take (HT.sIx xs.length xs.length hi - HT.sIx xs.length 0 lo)
theorem Reps.cut {K : PySem.W.Frag} {G : Gh} {vs : List V} {xs : List D} (r : Reps K G vs xs) (lo hi : Option Int) : Reps K G (cutV vs lo hi) (cutD xs lo hi) := by
  unfold cutV cutD
  rw [r.1]
  exact (r.drop _).take _
@[simp] theorem cutS_mk (l : List Nat) (lo hi : Option Int) : cutS (mk l) lo hi = mk (cutD l lo hi) := by
  unfold cutS cutD
  simp only [mk_cps, mk_length]
  rfl
abbrev TDO := DR → Mu → (Option Int → Mu → Prop) → Prop
def RefO (K : PySem.W.Frag) (B : Gh) (T : TDO) (t : TO) : Prop := ∀ ρ μ σ H G Q (Qn : Option Int → Hp → Prop), Sat K B G ρ μ σ H → T ρ μ Q → (∀ o μ' H' G', Gle G G' → Sat K B G' ρ μ' σ H' → Q o μ' → Qn o H') → t σ H Qn
structure DO (X : Cx) (B : Gh) (e : Option Expr) (t : TO) (T : TDO) : Prop where
  po : PO X e t
  ref : RefO X.K B T t
@[simp] def dNoPart : TDO := fun _ μ Q => Q none μ
@[simp] def dPart (T : TDE) : TDO := fun ρ μ Q => T ρ μ fun d μ1 => match d with | .int i => Q (some i) μ1 | _ => False
theorem do_none : DO X B none tNoPart dNoPart := ⟨po_none, fun ρ μ σ H G Q Qn S h hd => hd none μ H G (Gle.refl G) S h⟩
theorem do_some {e : Expr} {te : TE} {T : TDE} (h : DE X B e te T) : DO X B (some e) (tPart te) (dPart T) := ⟨po_some h.pe, fun ρ μ σ H G Q Qn S q hd => h.ref ρ μ σ H G _ _ S q fun d μ1 v H1 G1 g1 S1 r1 q1 => by
  cases d with
  | int i => exact ⟨i, r1.ofInt, hd (some i) μ1 H1 G1 g1 S1 q1⟩
  | _ => exact False.elim q1⟩
/-- a slice: of a list (c: a cell), of a tuple, of a text -/
@[simp] def slW (c : Bool) (x : D) (lo hi : Option Int) (μ : Mu) (Q : QD) : Prop := match vw μ x with
  | .lst xs => mkL c (cutD xs lo hi) μ Q
  | .str s => s.length ≤ sizeLine ∧ Q (.str (cutS s lo hi)) μ
  | _ => False
@[simp] def dSl (c : Bool) (T : TDE) (Tl Th : TDO) : TDE := fun ρ μ Q => T ρ μ fun x μ1 => Tl ρ μ1 fun l μ2 => Th ρ μ2 fun u μ3 => slW c x l u μ3 Q
def rSlA (K : PySem.W.Frag) : V → Option Int → Option Int → Hp → VK → Prop := fun x lo hi H Q => rSlL K x lo hi H Q ∨ rSlS x lo hi H Q
theorem de_sl (c : Bool) {e : Expr} {lo hi : Option Expr} {p2 : Pos} {te : TE} {tl th : TO} {T : TDE} {Tl Th : TDO} (he : DE X B e te T) (hl : DO X B lo tl Tl) (hu : DO X B hi th Th) : DE X B (.Subscript e (.Slice lo hi none p2) pos) (tSl (rSlA X.K) te tl th) (dSl c T Tl Th) :=
  ⟨pe_slice (sl_list.or sl_str) he.pe hl.po hu.po, fun ρ μ σ H G Q Qn S h hd => he.ref ρ μ σ H G _ _ S h fun d μ1 v H1 G1 g1 S1 r1 q1 =>
    hl.ref ρ μ1 σ H1 G1 _ _ S1 q1 fun l μ2 H2 G2 g2 S2 q2 => hu.ref ρ μ2 σ H2 G2 _ _ S2 q2 fun u μ3 H3 G3 g3 S3 q3 => by
      have r3 := (r1.mono g2).mono g3
      have hd3 := hd.mono ((g1.trans g2).trans g3)
      unfold slW at q3
      split at q3
      · next e =>
        obtain ⟨p, vs, rfl, h1, rr⟩ := S3.hold.lst r3 e
        exact .inl ⟨p, vs, rfl, SqL.of h1, fun q n => mkL_go q3 S3 (rr.cut l u) hd3 n⟩
      · next s e =>
        cases vw_str' e
        cases r3
        exact .inr ⟨s, rfl, q3.1, hd3.now S3 (.str _) q3.2⟩
      · exact q3.elim⟩
end
end DL

/-! DL3: built-in calls, methods, tests, boolean words. -/
namespace DL
open PySem PySem.Spec PyProof.Rows L2
section
variable {X : Cx} {pos : Pos}

/-! ### calls of built-ins -/
abbrev RCD := List D → Mu → QD → Prop
def RefC (K : PySem.W.Frag) (B : Gh) (R : RCD) (r : List V → Hp → VK → Prop) : Prop := ∀ ρ μ σ H G vs ds Q (Qn : VK), Sat K B G ρ μ σ H → Reps K G vs ds → R ds μ Q → Hand K B G ρ σ Q Qn → r vs H Qn
@[simp] def dCB (R : RCD) (T : TDA) : TDE := fun ρ μ Q => T ρ μ fun ds μ1 => R ds μ1 Q
theorem ref_CB {K : PySem.W.Frag} {R : RCD} {r : List V → Hp → VK → Prop} {t : TA} {T : TDA} (hr : RefC K B R r) (h : RefA K B T t) : RefE K B (dCB R T) (tCB r t) :=
  fun ρ μ σ H G Q Qn S q hd => h ρ μ σ H G _ _ S q fun ds μ1 vs H1 G1 g1 S1 r1 q1 => hr ρ μ1 σ H1 G1 vs ds Q Qn S1 r1 q1 (hd.mono g1)
theorem de_callB {x : Str} {id : String} {r : List V → Hp → VK → Prop} {R : RCD} {e : Expr} {es : List Expr} {t : TA} {T : TDA} {p : Pos} (hc : CallR X (.builtin id) r ∧ RefC X.K B R r) (hg : Gl X x) (hm : X.mg x = none) (hv : bootBuiltins x = some (.builtin id)) (ha : DA X B (e :: es) t T) (hn : x ≠ "__name__" := by decide) (hdb : (x == ("__debug__" : Str)) = false := by decide)
    (h1 : starEach (e :: es) X.env = (false, eval e X.env) :: starEach es X.env := by rfl) (h2 : (backTo pos (starEach es X.env)).any (·.1) = false := by rfl) :
    DE X B (.Call (.Name x p) (e :: es) [] pos) (tCB r t) (dCB R T) := ⟨pe_callB hc.1 hg hm hv ha.pa hn hdb h1 h2, ref_CB hc.2 ha.ref⟩
theorem de_callTy {x : Str} {Ty : String} {r : List V → Hp → VK → Prop} {R : RCD} {e : Expr} {es : List Expr} {t : TA} {T : TDA} {p : Pos} (hc : CallR X (.type Ty) r ∧ RefC X.K B R r) (hg : Gl X x) (hm : X.mg x = none) (hv : bootBuiltins x = some (.type Ty)) (ha : DA X B (e :: es) t T) (hn : x ≠ "__name__" := by decide) (hdb : (x == ("__debug__" : Str)) = false := by decide)
    (h1 : starEach (e :: es) X.env = (false, eval e X.env) :: starEach es X.env := by rfl) (h2 : (backTo pos (starEach es X.env)).any (·.1) = false := by rfl) :
    DE X B (.Call (.Name x p) (e :: es) [] pos) (tCB r t) (dCB R T) := ⟨pe_callTy hc.1 hg hm hv ha.pa hn hdb h1 h2, ref_CB hc.2 ha.ref⟩

/-- len -/
def lenD (d : D) : Option Nat := match d with
  | .lst xs => some xs.length
  | .tup xs => some xs.length
  | .str s => if s.length ≤ sizeLine then some s.length else none
  | .dic kvs => some kvs.length
  | _ => none
@[simp] def cLen : RCD := fun ds μ Q => match ds with
  | [x] => match vw μ x with
    | .lst xs => Q (.int xs.length) μ
    | .tup xs => Q (.int xs.length) μ
    | .str s => s.length ≤ sizeLine ∧ Q (.int s.length) μ
    | .scr ns => Q (.int ns.length) μ
    | _ => False
  | _ => False
theorem vw_scr' {μ : Mu} {d : D} {i : List Int} (h : vw μ d = .scr i) : d = .scr i := by
  cases d with
  | ptr a =>
    simp only [vw] at h
    split at h <;> cases h
  | _ => first | exact h | cases h
theorem reps1 {K : PySem.W.Frag} {G : Gh} {vs : List V} {d : D} (r : Reps K G vs [d]) : ∃ v, vs = [v] ∧ Rep K G v d := by
  obtain ⟨v, w, rfl, a, b⟩ := r.cons_inv
  rw [b.nil_inv]; exact ⟨v, rfl, a⟩
theorem reps2 {K : PySem.W.Frag} {G : Gh} {vs : List V} {d e : D} (r : Reps K G vs [d, e]) : ∃ v w, vs = [v, w] ∧ Rep K G v d ∧ Rep K G w e := by
  obtain ⟨v, w, rfl, a, b⟩ := r.cons_inv
  obtain ⟨w2, rfl, b2⟩ := reps1 b; exact ⟨v, w2, rfl, a, b2⟩
theorem reps3 {K : PySem.W.Frag} {G : Gh} {vs : List V} {d e f : D} (r : Reps K G vs [d, e, f]) : ∃ v w z, vs = [v, w, z] ∧ Rep K G v d ∧ Rep K G w e ∧ Rep K G z f := by
  obtain ⟨v, w, rfl, a, b⟩ := r.cons_inv
  obtain ⟨w2, z, rfl, b2, c⟩ := reps2 b; exact ⟨v, w2, z, rfl, a, b2, c⟩
theorem dc_len : CallR X (.builtin "len") (fun xs H Q => ∃ x n, xs = [x] ∧ LenV X.K x H n ∧ Q (.int n) H) ∧ RefC X.K B cLen (fun xs H Q => ∃ x n, xs = [x] ∧ LenV X.K x H n ∧ Q (.int n) H) := by
  refine ⟨call_len, ?_⟩
  intro ρ μ σ H G vs ds Q Qn S r h hd
  unfold cLen at h
  split at h
  · next x =>
    obtain ⟨v, rfl, rv⟩ := reps1 r
    split at h
    · next e =>
      obtain ⟨a, ws, rfl, h1, q⟩ := S.hold.lst rv e
      refine ⟨.ref a, ws.length, rfl, .inl ⟨ws, SqL.of h1, rfl⟩, ?_⟩
      rw [q.1]; exact hd.now S (.int _) h
    · next e =>
      obtain ⟨a, ws, rfl, h1, q⟩ := S.hold.tup rv e
      refine ⟨.ref a, ws.length, rfl, .inr ⟨ws, h1, rfl⟩, ?_⟩
      rw [q.1]; exact hd.now S (.int _) h
    · next s e =>
      cases vw_str' e
      cases rv
      exact ⟨.str s, s.length, rfl, ⟨h.1, rfl⟩, hd.now S (.int _) h.2⟩
    · next ns e =>
      cases vw_scr' e
      cases rv with
      | scr hh => exact ⟨_, ns.length, rfl, .inl ⟨_, S.hold.fr.seqL hh, by simp⟩, hd.now S (.int _) h⟩
    · exact h.elim
  · exact h.elim
/-- list(x) of a list or tuple (c: a cell) -/
@[simp] def cList (c : Bool) : RCD := fun ds μ Q => match ds with
  | [x] => match vw μ x with
    | .lst xs => mkL c xs μ Q
    | .tup xs => mkL c xs μ Q
    | .scr ns => mkL c (ns.map .int) μ Q
    | _ => False
  | _ => False
theorem dc_list (c : Bool) : CallR X (.type "list") (fun xs H Q => ∃ p ys, xs = [.ref p] ∧ (SqL X.K H p ys ∨ SqT X.K H p ys) ∧ ∀ l, H l = none → Q (.ref l) (upd H l (.lst ys))) ∧
    RefC X.K B (cList c) (fun xs H Q => ∃ p ys, xs = [.ref p] ∧ (SqL X.K H p ys ∨ SqT X.K H p ys) ∧ ∀ l, H l = none → Q (.ref l) (upd H l (.lst ys))) := by
  refine ⟨call_list_of, ?_⟩
  intro ρ μ σ H G vs ds Q Qn S r h hd
  unfold cList at h
  split at h
  · obtain ⟨v, rfl, rv⟩ := reps1 r
    split at h
    · next e =>
      obtain ⟨a, ws, rfl, h1, q⟩ := S.hold.lst rv e
      exact ⟨a, ws, rfl, .inl (SqL.of h1), fun l n => mkL_go h S q hd n⟩
    · next e =>
      obtain ⟨a, ws, rfl, h1, q⟩ := S.hold.tup rv e
      exact ⟨a, ws, rfl, .inr h1, fun l n => mkL_go h S q hd n⟩
    · next ns e =>
      cases vw_scr' e
      cases rv with
      | scr hh => exact ⟨_, _, rfl, .inl (S.hold.fr.seqL hh), fun l n => mkL_go h S (Reps.ofInts ns) hd n⟩
    · exact h.elim
  · exact h.elim
/-- int(n) -/
@[simp] def cInt : RCD := fun ds μ Q => match ds with
  | [.int i] => Q (.int i) μ
  | [.bl b] => Q (.int (if b then 1 else 0)) μ
  | _ => False
theorem dc_int : CallR X (.type "int") (fun xs H Q => (∃ i, xs = [.int i] ∧ Q (.int i) H) ∨ ∃ k, xs = [.bl k] ∧ Q (.int (if k then 1 else 0)) H) ∧ RefC X.K B cInt (fun xs H Q => (∃ i, xs = [.int i] ∧ Q (.int i) H) ∨ ∃ k, xs = [.bl k] ∧ Q (.int (if k then 1 else 0)) H) := by
  refine ⟨call_int1, ?_⟩
  intro ρ μ σ H G vs ds Q Qn S r h hd
  unfold cInt at h
  split at h
  · next i =>
    obtain ⟨v, rfl, rv⟩ := reps1 r
    cases rv; exact .inl ⟨i, rfl, hd.now S (.int _) h⟩
  · next b =>
    obtain ⟨v, rfl, rv⟩ := reps1 r
    cases rv; exact .inr ⟨b, rfl, hd.now S (.int _) h⟩
  · exact h.elim
/-- min, max of two ints -/
@[simp] def cMin2 : RCD := fun ds μ Q => match ds with
  | [.int i, .int j] => Q (.int (if j < i then j else i)) μ
  | _ => False
@[simp] def cMax2 : RCD := fun ds μ Q => match ds with
  | [.int i, .int j] => Q (.int (if j > i then j else i)) μ
  | _ => False
theorem dc_min2 (hc : X.calm = true) : CallR X (.builtin "min") (fun xs H Q => ∃ i j, xs = [.int i, .int j] ∧ Q (.int (if j < i then j else i)) H) ∧ RefC X.K B cMin2 (fun xs H Q => ∃ i j, xs = [.int i, .int j] ∧ Q (.int (if j < i then j else i)) H) := by
  refine ⟨call_min2 hc, ?_⟩
  intro ρ μ σ H G vs ds Q Qn S r h hd
  unfold cMin2 at h
  split at h
  · next i j =>
    obtain ⟨v, w, rfl, rv, rw'⟩ := reps2 r
    cases rv; cases rw'; exact ⟨i, j, rfl, hd.now S (.int _) h⟩
  · exact h.elim
theorem dc_max2 (hc : X.calm = true) : CallR X (.builtin "max") (fun xs H Q => ∃ i j, xs = [.int i, .int j] ∧ Q (.int (if j > i then j else i)) H) ∧ RefC X.K B cMax2 (fun xs H Q => ∃ i j, xs = [.int i, .int j] ∧ Q (.int (if j > i then j else i)) H) := by
  refine ⟨call_max2 hc, ?_⟩
  intro ρ μ σ H G vs ds Q Qn S r h hd
  unfold cMax2 at h
  split at h
  · next i j =>
    obtain ⟨v, w, rfl, rv, rw'⟩ := reps2 r
    cases rv; cases rw'; exact ⟨i, j, rfl, hd.now S (.int _) h⟩
  · exact h.elim
/-- all, any of a list of bools -/
def blsOf : List D → Option (List Bool)
  | [] => some []
  | .bl s :: r => (blsOf r).map (s :: ·)
  | _ :: _ => none
@[simp] theorem blsOf_nil : blsOf [] = some [] := rfl
@[simp] theorem blsOf_cons (s : Bool) (r : List D) : blsOf (.bl s :: r) = (blsOf r).map (s :: ·) := rfl
@[simp] theorem blsOf_map (ss : List Bool) : blsOf (ss.map .bl) = some ss := by
  induction ss with
  | nil => rfl
  | cons s r ih => rw [List.map_cons, blsOf, ih]; rfl
theorem blsOf_eq : ∀ {xs : List D} {ss : List Bool}, blsOf xs = some ss → xs = ss.map .bl
  | [], ss, h => by cases h; rfl
  | x :: r, ss, h => by
    cases x with
    | bl s =>
      rw [blsOf] at h
      cases q : blsOf r with
      | none => rw [q] at h; cases h
      | some t => rw [q] at h; cases h; rw [blsOf_eq q]; rfl
    | _ => cases h
theorem Reps.bls {K : PySem.W.Frag} {G : Gh} : ∀ {ss : List Bool} {vs : List V}, Reps K G vs (ss.map .bl) → vs = ss.map .bl
  | [], vs, h => h.nil_inv
  | s :: r, vs, h => by
    obtain ⟨v, vr, rfl, a, b⟩ := h.cons_inv
    rw [a.ofBl, Reps.bls b]; rfl
@[simp] def cAll : RCD := fun ds μ Q => match ds with
  | [x] => ∃ xs bs, vw μ x = .lst xs ∧ blsOf xs = some bs ∧ Q (.bl (bs.all id)) μ
  | _ => False
@[simp] def cAny : RCD := fun ds μ Q => match ds with
  | [x] => ∃ xs bs, vw μ x = .lst xs ∧ blsOf xs = some bs ∧ Q (.bl (bs.any id)) μ
  | _ => False
theorem dc_all (hc : X.calm = true) : CallR X (.builtin "all") (rAll X.K) ∧ RefC X.K B cAll (rAll X.K) := by
  refine ⟨cr_all hc, ?_⟩
  intro ρ μ σ H G vs ds Q Qn S r h hd
  unfold cAll at h
  split at h
  · obtain ⟨v, rfl, rv⟩ := reps1 r
    obtain ⟨xs, bs, e, eb, q⟩ := h
    obtain ⟨a, ws, rfl, h1, qq⟩ := S.hold.lst rv e
    rw [blsOf_eq eb] at qq
    have := qq.bls
    subst this
    exact ⟨a, bs, rfl, SqL.of h1, hd.now S (.bl _) q⟩
  · exact h.elim
theorem dc_any (hc : X.calm = true) : CallR X (.builtin "any") (rAny X.K) ∧ RefC X.K B cAny (rAny X.K) := by
  refine ⟨cr_any hc, ?_⟩
  intro ρ μ σ H G vs ds Q Qn S r h hd
  unfold cAny at h
  split at h
  · obtain ⟨v, rfl, rv⟩ := reps1 r
    obtain ⟨xs, bs, e, eb, q⟩ := h
    obtain ⟨a, ws, rfl, h1, qq⟩ := S.hold.lst rv e
    rw [blsOf_eq eb] at qq
    have := qq.bls
    subst this
    exact ⟨a, bs, rfl, SqL.of h1, hd.now S (.bl _) q⟩
  · exact h.elim
/-- isinstance(x, T), T a built-in type -/
@[simp] def tyN : D → Option String
  | .non => some "NoneType" | .bl _ => some "bool" | .int _ => some "int" | .str _ => some "str" | .lst _ => some "list" | .tup _ => some "tuple" | .dic _ => some "dict" | _ => none
def cIsi (T : String) : RCD := fun ds μ Q => match ds with
  | [x, .ptr _] => ∃ n, tyN (vw μ x) = some n ∧ ∃ b, kitB n T = some b ∧ Q (.bl b) μ
  | _ => False

/-! ### methods -/
abbrev RMD := D → List D → Mu → QD → Prop
def RefM (K : PySem.W.Frag) (B : Gh) (T : String) (R : RMD) (r : V → List V → Hp → VK → Prop) : Prop := ∀ ρ μ σ H G x dx vs ds Q (Qn : VK), Sat K B G ρ μ σ H → Rep K G x dx → Reps K G vs ds → R dx ds μ Q → Hand K B G ρ σ Q Qn → r x vs H Qn
@[simp] def isTyD (T : String) (d : D) : Prop := match d with
  | .lst _ => T = "list" | .str _ => T = "str" | _ => False
@[simp] def dBM (T : String) (R : RMD) (To : TDE) (Ta : TDA) : TDE := fun ρ μ Q => To ρ μ fun x μ1 => isTyD T (vw μ1 x) ∧ Ta ρ μ1 fun ds μ2 => R x ds μ2 Q
theorem tyV_go {K : PySem.W.Frag} {T : String} {x : V} {dx : D} {μ : Mu} {H : Hp} {G : Gh} (h : isTyD T (vw μ dx)) (S : Hold K G μ H) (r : Rep K G x dx) : tyV K T x H := by
  cases e : vw μ dx with
  | lst xs =>
    rw [e] at h
    have h' : T = "list" := h
    subst h'
    obtain ⟨a, vs, rfl, h1, _⟩ := S.lst r e
    exact .inl ⟨rfl, _, SqL.of h1⟩
  | str s =>
    rw [e] at h
    have h' : T = "str" := h
    subst h'
    cases vw_str' e
    cases r
    rfl
  | _ => rw [e] at h; exact False.elim h
theorem de_bm {T id : String} {name : Str} {o e : Expr} {es : List Expr} {to : TE} {t : TA} {To : TDE} {Ta : TDA} {apos cpos : Pos} {r : V → List V → Hp → VK → Prop} {R : RMD} (pa : PlainAttrs T) (slot : Slot T name id) (hty : typeOf (.builtin id) = pure (.type "method_descriptor")) (hm : MtR X id r ∧ RefM X.K B T R r) (ho : DE X B o to To) (ha : DA X B (e :: es) t Ta)
    (hbase : attributeBase o name X.env (eval o X.env) = eval o X.env := by rfl)
    (hfew : ((backTo cpos (starEach (e :: es) X.env)).all (fun x => !x.1) && (backToKw cpos (keywordEach [] X.env)).all (fun x => x.1.isSome)
      && decide ((e :: es).length + ([] : List Keyword).length + (if ([] : List Keyword).isEmpty then 0 else 1) < 30)) = true := by rfl)
    (hline : (apos.endLine == cpos.line) = true := by rfl) (hs : starEach (e :: es) X.env = (false, eval e X.env) :: starEach es X.env := by rfl) (hplain : (backTo cpos (starEach es X.env)).any (·.1) = false := by rfl) :
    DE X B (.Call (.Attribute o name apos) (e :: es) [] cpos) (tBM X.K T r to t) (dBM T R To Ta) :=
  ⟨pe_bm pa slot hty hm.1 ho.pe ha.pa hbase hfew hline hs hplain, fun ρ μ σ H G Q Qn S h hd => ho.ref ρ μ σ H G _ _ S h fun d μ1 v H1 G1 g1 S1 r1 ⟨k1, q1⟩ => ⟨tyV_go k1 S1.hold r1, ha.ref ρ μ1 σ H1 G1 _ _ S1 q1 fun ds μ2 vs H2 G2 g2 S2 r2 q2 => hm.2 ρ μ2 σ H2 G2 v d vs ds Q Qn S2 (r1.mono g2) r2 q2 (hd.mono (g1.trans g2))⟩⟩
theorem de_bm0 {T id : String} {name : Str} {o : Expr} {to : TE} {To : TDE} {apos cpos : Pos} {r : V → List V → Hp → VK → Prop} {R : RMD} (pa : PlainAttrs T) (slot : Slot T name id) (hty : typeOf (.builtin id) = pure (.type "method_descriptor")) (hm : MtR X id r ∧ RefM X.K B T R r) (ho : DE X B o to To)
    (hbase : attributeBase o name X.env (eval o X.env) = eval o X.env := by rfl) (hline : (apos.endLine == cpos.line) = true := by rfl) :
    DE X B (.Call (.Attribute o name apos) [] [] cpos) (tBM0 X.K T r to) (dBM T R To dNil) :=
  ⟨pe_bm0 pa slot hty hm.1 ho.pe hbase hline, fun ρ μ σ H G Q Qn S h hd => ho.ref ρ μ σ H G _ _ S h fun d μ1 v H1 G1 g1 S1 r1 ⟨k1, q1⟩ => ⟨tyV_go k1 S1.hold r1, hm.2 ρ μ1 σ H1 G1 v d [] [] Q Qn S1 r1 Reps.nil q1 (hd.mono g1)⟩⟩

/-! list methods on cells -/
@[simp] def mAppend : RMD := fun x ds μ Q => match x, ds with
  | .ptr a, [d] => ∃ xs, μ a = some (.lst xs) ∧ xs.length < sizeLine ∧ Q .non (mup μ a (.lst (xs ++ [d])))
  | _, _ => False
theorem Sat.cellSet {K : PySem.W.Frag} {G : Gh} {ρ : DR} {σ : St} {μ : Mu} {H : Hp} {p : Addr} {o : HO} {c c0 : Cell} (S : Sat K B G ρ μ σ H) (q0 : μ p = some c0) (r : CellR K G o c) : Sat K B G ρ (mup μ p c) σ (upd H p o) := ⟨S.hold.cellSet q0 r, S.env⟩
theorem Hold.lstAt {K : PySem.W.Frag} {G : Gh} {μ : Mu} {H : Hp} {a : Addr} {xs : List D} (h : Hold K G μ H) (e : μ a = some (.lst xs)) : ∃ vs, H a = some (.lst vs) ∧ Reps K G vs xs := by
  obtain ⟨_, o, y, z⟩ := h.cell a _ e
  obtain ⟨vs, rfl, z2⟩ := cellR_lst z
  exact ⟨vs, y, z2⟩
theorem dm_append : MtR X "list.append" rAppend ∧ RefM X.K B "list" mAppend rAppend := by
  refine ⟨mt_append, ?_⟩
  intro ρ μ σ H G x dx vs ds Q Qn S r1 r2 h hd
  unfold mAppend at h
  split at h
  · next a d =>
    cases r1
    obtain ⟨v, rfl, rv⟩ := reps1 r2
    obtain ⟨xs, e, l, q⟩ := h
    obtain ⟨ws, h1, rr⟩ := S.hold.lstAt e
    exact ⟨a, ws, v, rfl, rfl, h1, by rw [rr.1]; exact l, hd.now (S.cellSet e (show CellR X.K G (.lst (ws ++ [v])) (.lst (xs ++ [d])) from rr.append (Reps.one rv))) .non q⟩
  · exact h.elim
@[simp] def mPop : RMD := fun x ds μ Q => match x, ds with
  | .ptr a, [] => ∃ xs d, μ a = some (.lst (xs ++ [d])) ∧ Q d (mup μ a (.lst xs))
  | _, _ => False
theorem dm_pop : MtR X "list.pop" rPop ∧ RefM X.K B "list" mPop rPop := by
  refine ⟨mt_pop, ?_⟩
  intro ρ μ σ H G x dx vs ds Q Qn S r1 r2 h hd
  unfold mPop at h
  split at h
  · next a =>
    cases r1
    rw [r2.nil_inv]
    obtain ⟨xs, d, e, q⟩ := h
    obtain ⟨ws, h1, rr⟩ := S.hold.lstAt e
    have l := rr.1
    obtain ⟨v, ev, rv⟩ := rr.get (i := xs.length) (d := d) (by simp)
    refine ⟨a, ws, v, rfl, rfl, h1, by rw [l]; simpa using ev, ?_⟩
    have r3 := rr.dropLast
    rw [List.dropLast_concat] at r3
    exact hd.now (S.cellSet e (show CellR X.K G (.lst ws.dropLast) (.lst xs) from r3)) rv q
  · exact h.elim
/-- xs.insert(i, d), 0 ≤ i -/
@[simp] def mInsert : RMD := fun x ds μ Q => match x, ds with
  | .ptr a, [.int i, d] => ∃ xs, μ a = some (.lst xs) ∧ xs.length < sizeLine ∧ 0 ≤ i ∧ i < 2 ^ 63 ∧ Q .non (mup μ a (.lst (xs.take i.toNat ++ d :: xs.drop i.toNat)))
  | _, _ => False

/-! text methods -/
@[simp] def mStarts : RMD := fun x ds μ Q => match x, ds with
  | .str a, [.str b] => Q (.bl (Txt.startswith a b)) μ
  | _, _ => False
theorem dm_startswith : MtR X "str.startswith" (fun x xs H Q => ∃ a b, x = .str a ∧ xs = [.str b] ∧ Q (.bl (Txt.startswith a b)) H) ∧ RefM X.K B "str" mStarts (fun x xs H Q => ∃ a b, x = .str a ∧ xs = [.str b] ∧ Q (.bl (Txt.startswith a b)) H) := by
  refine ⟨mt_startswith, ?_⟩
  intro ρ μ σ H G x dx vs ds Q Qn S r1 r2 h hd
  unfold mStarts at h
  split at h
  · next a b =>
    cases r1
    obtain ⟨v, rfl, rv⟩ := reps1 r2
    cases rv
    exact ⟨a, b, rfl, rfl, hd.now S (.bl _) h⟩
  · exact h.elim
@[simp] def mEnds : RMD := fun x ds μ Q => match x, ds with
  | .str a, [.str b] => Q (.bl (Txt.endswith a b)) μ
  | _, _ => False
theorem dm_endswith : MtR X "str.endswith" (fun x xs H Q => ∃ a b, x = .str a ∧ xs = [.str b] ∧ Q (.bl (Txt.endswith a b)) H) ∧ RefM X.K B "str" mEnds (fun x xs H Q => ∃ a b, x = .str a ∧ xs = [.str b] ∧ Q (.bl (Txt.endswith a b)) H) := by
  refine ⟨mt_endswith, ?_⟩
  intro ρ μ σ H G x dx vs ds Q Qn S r1 r2 h hd
  unfold mEnds at h
  split at h
  · next a b =>
    cases r1
    obtain ⟨v, rfl, rv⟩ := reps1 r2
    cases rv
    exact ⟨a, b, rfl, rfl, hd.now S (.bl _) h⟩
  · exact h.elim
/-- t.split(sep) -/
@[simp] def mSplit (c : Bool) : RMD := fun x ds μ Q => match x, ds with
  | .str a, [.str b] => (b.length == 0) = false ∧ a.length + 2 ≤ sizeLine ∧ mkL c ((Txt.split a b).map .str) μ Q
  | _, _ => False
theorem dm_split (c : Bool) : MtR X "str.split" (fun x xs H Q => ∃ a b, x = .str a ∧ xs = [.str b] ∧ (b.length == 0) = false ∧ a.length + 2 ≤ sizeLine ∧ rNewStrs (Txt.split a b) H Q) ∧
    RefM X.K B "str" (mSplit c) (fun x xs H Q => ∃ a b, x = .str a ∧ xs = [.str b] ∧ (b.length == 0) = false ∧ a.length + 2 ≤ sizeLine ∧ rNewStrs (Txt.split a b) H Q) := by
  refine ⟨mt_split, ?_⟩
  intro ρ μ σ H G x dx vs ds Q Qn S r1 r2 h hd
  unfold mSplit at h
  split at h
  · next a b =>
    cases r1
    obtain ⟨v, rfl, rv⟩ := reps1 r2
    cases rv
    exact ⟨a, b, rfl, rfl, h.1, h.2.1, fun p n => mkL_go h.2.2 S (Reps.ofStrs _) hd n⟩
  · exact h.elim
end

/-! ### words of truth -/
section
variable {X : Cx} {pos : Pos} {a b : Expr} {rest : List Expr} {tA tB' : TT} {TA' TB' : TDT} {ta tb : TE} {Ta Tb : TDE}
@[simp] def dAnd (t u : TDT) : TDT := fun ρ μ Q => t ρ μ fun c μ1 => if c = true then u ρ μ1 Q else Q false μ1
@[simp] def dOr (t u : TDT) : TDT := fun ρ μ Q => t ρ μ fun c μ1 => if c = true then Q true μ1 else u ρ μ1 Q
@[simp] def dNot (t : TDT) : TDT := fun ρ μ Q => t ρ μ fun c μ1 => Q (!c) μ1
theorem dw_and1 (h : DT X B a tA TA') : DW X B (.BoolOp .And [a] pos) tA TA' := ⟨pw_and1 h.pt, h.ref⟩
theorem dw_or1 (h : DT X B a tA TA') : DW X B (.BoolOp .Or [a] pos) tA TA' := ⟨pw_or1 h.pt, h.ref⟩
theorem dw_and (ha : DT X B a tA TA') (hb : DW X B (.BoolOp .And (b :: rest) pos) tB' TB') : DW X B (.BoolOp .And (a :: b :: rest) pos) (tAnd tA tB') (dAnd TA' TB') :=
  ⟨pw_and ha.pt hb.pw, fun ρ μ σ H G Q Qn S h hd => ha.ref ρ μ σ H G _ _ S h fun c μ1 H1 G1 g1 S1 q1 => by
    cases c with
    | true => exact hb.ref ρ μ1 σ H1 G1 _ _ S1 q1 fun d μ2 H2 G2 g2 => hd d μ2 H2 G2 (g1.trans g2)
    | false => exact hd false μ1 H1 G1 g1 S1 q1⟩
theorem dw_or (ha : DT X B a tA TA') (hb : DW X B (.BoolOp .Or (b :: rest) pos) tB' TB') : DW X B (.BoolOp .Or (a :: b :: rest) pos) (tOr tA tB') (dOr TA' TB') :=
  ⟨pw_or ha.pt hb.pw, fun ρ μ σ H G Q Qn S h hd => ha.ref ρ μ σ H G _ _ S h fun c μ1 H1 G1 g1 S1 q1 => by
    cases c with
    | false => exact hb.ref ρ μ1 σ H1 G1 _ _ S1 q1 fun d μ2 H2 G2 g2 => hd d μ2 H2 G2 (g1.trans g2)
    | true => exact hd true μ1 H1 G1 g1 S1 q1⟩
theorem DW.dt {e : Expr} {t : TT} {T : TDT} (h : DW X B e t T) : DT X B e t T := ⟨h.pw.pt, h.ref⟩
theorem dt_not (h : DT X B a tA TA') : DT X B (.UnaryOp .Not a pos) (tNot tA) (dNot TA') :=
  ⟨pt_not h.pt, fun ρ μ σ H G Q Qn S q hd => h.ref ρ μ σ H G _ _ S q fun c μ1 H1 G1 g1 S1 q1 => hd (!c) μ1 H1 G1 g1 S1 q1⟩
/-! .. as values (all but the last a bool) -/
@[simp] def dAndV (ta tb : TDE) : TDE := fun ρ μ Q => ta ρ μ fun x μ1 => match x with | .bl c => if c = true then tb ρ μ1 Q else Q (.bl false) μ1 | _ => False
@[simp] def dOrV (ta tb : TDE) : TDE := fun ρ μ Q => ta ρ μ fun x μ1 => match x with | .bl c => if c = true then Q (.bl true) μ1 else tb ρ μ1 Q | _ => False
@[simp] def dNotV (ta : TDE) : TDE := fun ρ μ Q => ta ρ μ fun x μ1 => match x with | .bl c => Q (.bl (!c)) μ1 | _ => False
theorem de_one {op} (h : DE X B a ta Ta) : DE X B (.BoolOp op [a] pos) ta Ta := ⟨pe_one h.pe, h.ref⟩
theorem de_and (ha : DE X B a ta Ta) (hb : DE X B (.BoolOp .And (b :: rest) pos) tb Tb) : DE X B (.BoolOp .And (a :: b :: rest) pos) (tAndV ta tb) (dAndV Ta Tb) :=
  ⟨pe_and ha.pe hb.pe, fun ρ μ σ H G Q Qn S h hd => ha.ref ρ μ σ H G _ _ S h fun d μ1 v H1 G1 g1 S1 r1 q1 => by
    cases d with
    | bl c =>
      refine ⟨c, r1.ofBl, ?_⟩
      cases c with
      | true => exact hb.ref ρ μ1 σ H1 G1 _ _ S1 q1 (hd.mono g1)
      | false => exact hd.mono g1 |>.now S1 (.bl _) q1
    | _ => exact False.elim q1⟩
theorem de_or (ha : DE X B a ta Ta) (hb : DE X B (.BoolOp .Or (b :: rest) pos) tb Tb) : DE X B (.BoolOp .Or (a :: b :: rest) pos) (tOrV ta tb) (dOrV Ta Tb) :=
  ⟨pe_or ha.pe hb.pe, fun ρ μ σ H G Q Qn S h hd => ha.ref ρ μ σ H G _ _ S h fun d μ1 v H1 G1 g1 S1 r1 q1 => by
    cases d with
    | bl c =>
      refine ⟨c, r1.ofBl, ?_⟩
      cases c with
      | false => exact hb.ref ρ μ1 σ H1 G1 _ _ S1 q1 (hd.mono g1)
      | true => exact hd.mono g1 |>.now S1 (.bl _) q1
    | _ => exact False.elim q1⟩
theorem de_not (h : DE X B a ta Ta) : DE X B (.UnaryOp .Not a pos) (tNotV ta) (dNotV Ta) :=
  ⟨pe_not h.pe, fun ρ μ σ H G Q Qn S q hd => h.ref ρ μ σ H G _ _ S q fun d μ1 v H1 G1 g1 S1 r1 q1 => by
    cases d with
    | bl c => exact ⟨c, r1.ofBl, hd.mono g1 |>.now S1 (.bl _) q1⟩
    | _ => exact False.elim q1⟩
@[simp] def dIf (t : TDT) (ta tb : TDE) : TDE := fun ρ μ Q => t ρ μ fun c μ1 => if c = true then ta ρ μ1 Q else tb ρ μ1 Q
theorem de_ifExp {c : Expr} {tc : TT} {Tc : TDT} (hc : DT X B c tc Tc) (ha : DE X B a ta Ta) (hb : DE X B b tb Tb) : DE X B (.IfExp c a b pos) (tIf tc ta tb) (dIf Tc Ta Tb) :=
  ⟨pe_ifExp hc.pt ha.pe hb.pe, fun ρ μ σ H G Q Qn S h hd => hc.ref ρ μ σ H G _ _ S h fun c μ1 H1 G1 g1 S1 q1 => by
    cases c with
    | true => exact ha.ref ρ μ1 σ H1 G1 _ _ S1 q1 (hd.mono g1)
    | false => exact hb.ref ρ μ1 σ H1 G1 _ _ S1 q1 (hd.mono g1)⟩
/-! a number's sign -/
@[simp] def dNeg (T : TDE) : TDE := fun ρ μ Q => T ρ μ fun d μ1 => match d with | .int i => Q (.int (-i)) μ1 | _ => False
theorem de_neg (h : DE X B a ta Ta) : DE X B (.UnaryOp .USub a pos) (tUn (rU fun i => .int (-i)) ta) (dNeg Ta) :=
  ⟨pe_un un_neg h.pe, fun ρ μ σ H G Q Qn S q hd => h.ref ρ μ σ H G _ _ S q fun d μ1 v H1 G1 g1 S1 r1 q1 => by
    cases d with
    | int i => exact ⟨i, r1.ofInt, hd.mono g1 |>.now S1 (.int _) q1⟩
    | _ => exact False.elim q1⟩
/-! truth of a value -/
@[simp] def truD : D → Option Bool
  | .non => some false
  | .bl b => some b
  | .int i => some (i != 0)
  | .str s => if s.length ≤ sizeLine then some ((s.length : Int) != 0) else none
  | .lst xs => some (!xs.isEmpty)
  | .tup xs => some (!xs.isEmpty)
  | _ => none
@[simp] def dTru (T : TDE) : TDT := fun ρ μ Q => T ρ μ fun d μ1 => ∃ b, truD (vw μ1 d) = some b ∧ Q b μ1
end
end DL

/-! DL4: statements, loops, comprehensions, calls, defs. -/
namespace DL
open PySem PySem.Spec PyProof.Rows L2

/-! ### targets -/
abbrev TDG := D → DR → Mu → (DR → Mu → Prop) → Prop
abbrev TDGs := List D → DR → Mu → (DR → Mu → Prop) → Prop
def RefG (K : PySem.W.Frag) (B : Gh) (T : TDG) (t : TG) : Prop := ∀ d v ρ μ σ H G (Q : DR → Mu → Prop) (Qn : St → Hp → Prop), Sat K B G ρ μ σ H → Rep K G v d → T d ρ μ Q → (∀ ρ' μ' σ' H' G', Gle G G' → Sat K B G' ρ' μ' σ' H' → Q ρ' μ' → Qn σ' H') → t v σ H Qn
def RefGs (K : PySem.W.Frag) (B : Gh) (T : TDGs) (t : TGs) : Prop := ∀ ds vs ρ μ σ H G (Q : DR → Mu → Prop) (Qn : St → Hp → Prop), Sat K B G ρ μ σ H → Reps K G vs ds → T ds ρ μ Q → (∀ ρ' μ' σ' H' G', Gle G G' → Sat K B G' ρ' μ' σ' H' → Q ρ' μ' → Qn σ' H') → t vs σ H Qn
structure DG (X : Cx) (B : Gh) (e : Expr) (t : TG) (T : TDG) : Prop where
  pg : PG X e t
  ref : RefG X.K B T t
structure DGs (X : Cx) (B : Gh) (es : List Expr) (t : TGs) (T : TDGs) : Prop where
  pgs : PGs X es t
  ref : RefGs X.K B T t
section
variable {X : Cx} {pos : Pos}
@[simp] def dgName (i : Nat) : TDG := fun d ρ μ Q => Q (ρ.set i (some d)) μ
theorem dg_name (i : Nat) {x : Str} (hN : X.N.Nodup) (hi : X.N[i]? = some x := by rfl) (hx : Loc X.env.scope x := by first | exact Or.inl rfl | exact Or.inr rfl) (hf : X.fn x = true ∨ X.env.scope.names.lookup x = some .local := by first | exact .inl rfl | exact .inr rfl | assumption) : DG X B (.Name x pos) (gName i) (dgName i) :=
  ⟨pg_name hN hi hx hf, fun d v ρ μ σ H G Q Qn S r h hd => hd _ μ _ H G (Gle.refl G) ⟨S.hold, S.env.set r i⟩ h⟩
@[simp] def dgNil : TDGs := fun ds ρ μ Q => ds = [] ∧ Q ρ μ
@[simp] def dgCons (T : TDG) (U : TDGs) : TDGs := fun ds ρ μ Q => match ds with
  | d :: r => T d ρ μ fun ρ' μ' => U r ρ' μ' Q
  | [] => False
theorem dgs_nil : DGs X B [] gNil dgNil := ⟨pgs_nil, fun ds vs ρ μ σ H G Q Qn S r h hd => by
  obtain ⟨rfl, h⟩ := h
  exact ⟨r.nil_inv, hd ρ μ σ H G (Gle.refl G) S h⟩⟩
theorem dgs_cons {e : Expr} {es : List Expr} {t : TG} {u : TGs} {T : TDG} {U : TDGs} (h1 : DG X B e t T) (h2 : DGs X B es u U) (hs : (assignEach (e :: es) X.env).map (·.2) = assign e X.env :: (assignEach es X.env).map (·.2) := by rfl) : DGs X B (e :: es) (gCons t u) (dgCons T U) :=
  ⟨pgs_cons h1.pg h2.pgs hs, fun ds vs ρ μ σ H G Q Qn S r h hd => by
    cases ds with
    | nil => exact False.elim h
    | cons d ds =>
      obtain ⟨v, w, rfl, a, b⟩ := r.cons_inv
      exact ⟨v, w, rfl, h1.ref d v ρ μ σ H G _ _ S a h fun ρ1 μ1 σ1 H1 G1 g1 S1 q1 => h2.ref ds w ρ1 μ1 σ1 H1 G1 _ _ S1 (b.mono g1) q1 fun ρ2 μ2 σ2 H2 G2 g2 => hd ρ2 μ2 σ2 H2 G2 (g1.trans g2)⟩⟩
/-- a, b, .. = a tuple -/
@[simp] def dgTup (n : Nat) (U : TDGs) : TDG := fun d ρ μ Q => ∃ xs, vw μ d = .tup xs ∧ xs.length = n ∧ U xs ρ μ Q
theorem dg_tup {es : List Expr} {k : Nat} {t : TGs} {U : TDGs} {n : Nat} (hc : X.calm = true) (h : DGs X B es t U) (hn : (assignEach es X.env).length = n := by rfl) (hst : (assignEach es X.env).findIdx? (·.1) = none := by rfl) : DG X B (.Tuple es k pos) (gTup X.K n t) (dgTup n U) :=
  ⟨pg_tup hc h.pgs hn hst, fun d v ρ μ σ H G Q Qn S r ⟨xs, e, l, q⟩ hd => by
    obtain ⟨a, vs, rfl, h1, rr⟩ := S.hold.tup r e
    exact ⟨a, vs, rfl, h1, by rw [rr.1]; exact l, h.ref xs vs ρ μ σ H G Q Qn S rr q hd⟩⟩
/-- xs[i] = d, a cell -/
@[simp] def setD (o i d : D) (μ : Mu) (Q : Mu → Prop) : Prop := match o, i with
  | .ptr a, .int k => ∃ xs j, μ a = some (.lst xs) ∧ ixN xs.length k = some j ∧ Q (mup μ a (.lst (xs.set j d)))
  | _, _ => False
@[simp] def dgSub (To Ti : TDE) : TDG := fun d ρ μ Q => To ρ μ fun o μ1 => Ti ρ μ1 fun i μ2 => setD o i d μ2 fun μ3 => Q ρ μ3
theorem dg_sub {o i : Expr} {to ti : TE} {To Ti : TDE} (ho : DE X B o to To) (hi : DE X B i ti Ti) (ha : ∀ v, assign (.Subscript o i pos) X.env v = (do
      let ov ← holding [v] (eval o X.env)
      let iv ← holding [v, ov] (eval i X.env)
      standAt pos
      holding [v, ov, iv] (setItem ov iv v)
      release [v, ov, iv] []) := by intro _; rfl) : DG X B (.Subscript o i pos) (gSub to ti rSetL) (dgSub To Ti) :=
  ⟨pg_sub ho.pe hi.pe set_list ha, fun d v ρ μ σ H G Q Qn S r h hd => ho.ref ρ μ σ H G _ _ S h fun o' μ1 ov H1 G1 g1 S1 r1 q1 => hi.ref ρ μ1 σ H1 G1 _ _ S1 q1 fun i' μ2 iv H2 G2 g2 S2 r2 q2 => by
    unfold setD at q2
    split at q2
    · next a k =>
      cases r1; cases r2
      obtain ⟨xs, j, e, ej, q⟩ := q2
      obtain ⟨ws, h1, rr⟩ := S2.hold.lstAt e
      have rd : Rep X.K G2 v d := r.mono (g1.trans g2)
      exact ⟨a, ws, k, j, rfl, rfl, h1, by rw [rr.1]; exact ej, hd ρ _ _ _ G2 (g1.trans g2) (S2.cellSet e (show CellR X.K G2 (.lst (ws.set j v)) (.lst (xs.set j d)) from rr.set rd j)) q⟩
    · exact q2.elim⟩

/-! ### statements -/
@[simp] def dNext : TDS := fun E ρ μ => E.nx ρ μ
@[simp] def dSeq (T U : TDS) : TDS := fun E ρ μ => T { E with nx := fun ρ' μ' => U E ρ' μ' } ρ μ
theorem dss_nil : DSs X B [] tNext dNext := ⟨pss_nil, fun ρ μ σ H G E Dn S h hd => hd.nx ρ μ σ H G (Gle.refl G) S h⟩
theorem ref_seq {K : PySem.W.Frag} {t u : TS} {T U : TDS} (h1 : RefS K B T t) (h2 : RefS K B U u) : RefS K B (dSeq T U) (tSeq t u) := fun ρ μ σ H G E Dn S h hd =>
  h1 ρ μ σ H G { E with nx := fun ρ' μ' => U E ρ' μ' } { Dn with nx := u Dn } S h ⟨fun ρ' μ' σ' H' G' g S' q => h2 ρ' μ' σ' H' G' E Dn S' q (hd.mono g), hd.rt, hd.bk, hd.ct⟩
theorem dss_cons {st : Stmt} {rest : List Stmt} {t u : TS} {T U : TDS} (h1 : DS X B st t T) (h2 : DSs X B rest u U) : DSs X B (st :: rest) (tSeq t u) (dSeq T U) := ⟨pss_cons h1.ps h2.pss, ref_seq h1.ref h2.ref⟩
theorem dss_one {st : Stmt} {t : TS} {T : TDS} (h1 : DS X B st t T) : DSs X B [st] t T := ⟨pss_one h1.ps, h1.ref⟩
@[simp] def dBreak : TDS := fun E ρ μ => E.bk ρ μ
@[simp] def dCont : TDS := fun E ρ μ => E.ct ρ μ
theorem ds_pass : DS X B (.Pass pos) tNext dNext := ⟨ps_pass, fun ρ μ σ H G E Dn S h hd => hd.nx ρ μ σ H G (Gle.refl G) S h⟩
theorem ds_break : DS X B (.Break pos) tBreak dBreak := ⟨ps_break, fun ρ μ σ H G E Dn S h hd => hd.bk ρ μ σ H G (Gle.refl G) S h⟩
theorem ds_continue : DS X B (.Continue pos) tCont dCont := ⟨ps_continue, fun ρ μ σ H G E Dn S h hd => hd.ct ρ μ σ H G (Gle.refl G) S h⟩
def dNever : TDS := fun _ _ _ => False
theorem ds_never {st : Stmt} : DS X B st tNever dNever := ⟨ps_never, fun _ _ _ _ _ _ _ _ h _ => h.elim⟩
theorem dss_never {st : List Stmt} : DSs X B st tNever dNever := ⟨pss_never, fun _ _ _ _ _ _ _ _ h _ => h.elim⟩
@[simp] def dDrop (T : TDE) : TDS := fun E ρ μ => T ρ μ fun _ μ1 => E.nx ρ μ1
theorem ds_expr {e : Expr} {te : TE} {T : TDE} (he : DE X B e te T) (hs : swapsWith e none pos.line X.env = pure false := by rfl) : DS X B (.Expr e pos) (tDrop te) (dDrop T) :=
  ⟨ps_expr he.pe hs, fun ρ μ σ H G E Dn S h hd => he.ref ρ μ σ H G _ _ S h fun d μ1 v H1 G1 g1 S1 r1 q1 => hd.nx ρ μ1 σ H1 G1 g1 S1 q1⟩
@[simp] def dRet (T : TDE) : TDS := fun E ρ μ => T ρ μ E.rt
theorem ds_ret {e : Expr} {te : TE} {T : TDE} (he : DE X B e te T) : DS X B (.Return (some e) pos) (tRet te) (dRet T) :=
  ⟨ps_ret he.pe, fun ρ μ σ H G E Dn S h hd => he.ref ρ μ σ H G _ _ S h fun d μ1 v H1 G1 g1 S1 r1 q1 => hd.rt d μ1 v H1 G1 g1 S1.hold r1 q1⟩
@[simp] def dRetN : TDS := fun E _ μ => E.rt .non μ
theorem ds_retN : DS X B (.Return none pos) tRetN dRetN := ⟨ps_retN, fun ρ μ σ H G E Dn S h hd => hd.rt .non μ .non H G (Gle.refl G) S.hold .non h⟩
@[simp] def dIfS (c : TDT) (T U : TDS) : TDS := fun E ρ μ => c ρ μ fun b μ1 => if b = true then T E ρ μ1 else U E ρ μ1
theorem ds_if {c : Expr} {p q : List Stmt} {tc : TT} {t u : TS} {Tc : TDT} {T U : TDS} (hc : DT X B c tc Tc) (ha : DSs X B p t T) (hb : DSs X B q u U) : DS X B (.If c p q pos) (tIfS tc t u) (dIfS Tc T U) :=
  ⟨ps_if hc.pt ha.pss hb.pss, fun ρ μ σ H G E Dn S h hd => hc.ref ρ μ σ H G _ _ S h fun b μ1 H1 G1 g1 S1 q1 => by
    cases b with
    | true => exact ha.ref ρ μ1 σ H1 G1 E Dn S1 q1 (hd.mono g1)
    | false => exact hb.ref ρ μ1 σ H1 G1 E Dn S1 q1 (hd.mono g1)⟩
@[simp] def dAsg (T : TDE) (g : TDG) : TDS := fun E ρ μ => T ρ μ fun d μ1 => g d ρ μ1 E.nx
theorem ref_asg {K : PySem.W.Frag} {te : TE} {g : TG} {T : TDE} {U : TDG} (he : RefE K B T te) (hg : RefG K B U g) : RefS K B (dAsg T U) (tAsg te g) := fun ρ μ σ H G E Dn S h hd =>
  he ρ μ σ H G _ _ S h fun d μ1 v H1 G1 g1 S1 r1 q1 => hg d v ρ μ1 σ H1 G1 _ _ S1 r1 q1 fun ρ2 μ2 σ2 H2 G2 g2 S2 q2 => hd.nx ρ2 μ2 σ2 H2 G2 (g1.trans g2) S2 q2
theorem ds_asg {tg e : Expr} {te : TE} {g : TG} {T : TDE} {U : TDG} (he : DE X B e te T) (hg : DG X B tg g U) (hs : swapsWithSole [tg] e pos.line X.env = pure false := by rfl) (hw : swappedStores [tg] e X.env = pure none := by rfl)
    (h1 : (assignEach [tg] X.env).map (·.2) = [assign tg X.env] := by rfl) : DS X B (.Assign [tg] e pos) (tAsg te g) (dAsg T U) := ⟨ps_asg he.pe hg.pg hs hw h1, ref_asg he.ref hg.ref⟩
theorem ds_set (i : Nat) {x : Str} {e : Expr} {te : TE} {T : TDE} {pos' : Pos} (hN : X.N.Nodup) (he : DE X B e te T) (hi : X.N[i]? = some x := by rfl) (hx : Loc X.env.scope x := by first | exact Or.inl rfl | exact Or.inr rfl) (hs : swapsWith e (some (.Name x pos')) pos.line X.env = pure false := by rfl) (hf : X.fn x = true ∨ X.env.scope.names.lookup x = some .local := by first | exact .inl rfl | exact .inr rfl | assumption) :
    DS X B (.Assign [.Name x pos'] e pos) (tAsg te (gName i)) (dAsg T (dgName i)) := ⟨ps_set hN hi hx he.pe hs hf, ref_asg he.ref (dg_name (X := X) (pos := pos') i hN hi hx hf).ref⟩
/-- name op= e -/
@[simp] def dAug (i : Nat) (R : R2D) (T : TDE) : TDS := fun E ρ μ => match ρ[i]? with
  | some (some x) => T ρ μ fun y μ1 => R x y μ1 fun z μ2 => E.nx (ρ.set i (some z)) μ2
  | _ => False
theorem ds_aug (i : Nat) {x : Str} {e : Expr} {te : TE} {T : TDE} {op : Operator} {r : R2} {R : R2D} {pos' : Pos} (hN : X.N.Nodup) (ho : OpR X (inplaceOp op) r ∧ Ref2 X.K B R r) (he : DE X B e te T) (hi : X.N[i]? = some x := by rfl) (hx : Loc X.env.scope x := by first | exact Or.inl rfl | exact Or.inr rfl) (hf : X.fn x = true ∨ X.env.scope.names.lookup x = some .local := by first | exact .inl rfl | exact .inr rfl | assumption) :
    DS X B (.AugAssign (.Name x pos') op e pos) (tAug i te r) (dAug i R T) :=
  ⟨ps_aug hN hi hx he.pe ho.1 hf, fun ρ μ σ H G E Dn S h hd => by
    unfold dAug at h
    split at h
    · next d e1 =>
      obtain ⟨v, a, rv⟩ := S.env.2 i d e1
      exact ⟨v, a, he.ref ρ μ σ H G _ _ S h fun d2 μ1 v2 H1 G1 g1 S1 r1 q1 => ho.2 ρ μ1 σ H1 G1 v v2 d d2 _ _ S1 (rv.mono g1) r1 q1 fun d3 μ2 v3 H2 G2 g2 S2 r2 q2 => hd.nx _ μ2 _ H2 G2 (g1.trans g2) ⟨S2.hold, S2.env.set r2 i⟩ q2⟩
    · exact h.elim⟩
theorem do_iadd : OpR X (inplaceOp .Add) (rI0 fun i j => .int (i + j)) ∧ Ref2 X.K B (opZ0 fun i j => .int (i + j)) (rI0 fun i j => .int (i + j)) := ⟨iop_add, ref_I0⟩
theorem do_isub : OpR X (inplaceOp .Sub) (rI0 fun i j => .int (i - j)) ∧ Ref2 X.K B opSub (rI0 fun i j => .int (i - j)) := ⟨iop_sub, ref_I0⟩
/-- a local's cell is frozen, ahead of a block -/
@[simp] def dFrzS (i : Nat) (T : TDS) : TDS := fun E ρ μ => match ρ[i]? with
  | some (some (.ptr a)) => match μ a with
    | some (.lst xs) => T E (ρ.set i (some (.lst xs))) (mdel μ a)
    | _ => False
  | _ => False
theorem St.set_self {σ : St} {i : Nat} {v : V} (h : σ[i]? = some (some v)) : σ.set i (some v) = σ := by
  apply List.ext_getElem?
  intro j
  rw [List.getElem?_set]
  split
  · next e =>
    subst e
    have l := (List.getElem?_eq_some_iff.mp h).1
    rw [if_pos l, h]
  · rfl
theorem ref_frz {K : PySem.W.Frag} (i : Nat) {t : TS} {T : TDS} (h : RefS K B T t) : RefS K B (dFrzS i T) t := fun ρ μ σ H G E Dn S q hd => by
  unfold dFrzS at q
  split at q
  · next a e =>
    split at q
    · next xs e2 =>
      obtain ⟨v, ev, rv⟩ := S.env.2 i _ e
      cases rv
      obtain ⟨ws, h1, rr⟩ := S.hold.lstAt e2
      have g : Gle G (G.frz a (.lst ws)) := Gle.frz (S.hold.cell a _ e2).1
      have S2 : Sat K B (G.frz a (.lst ws)) (ρ.set i (some (.lst xs))) (mdel μ a) σ H := by
        refine ⟨S.hold.freeze e2 h1, ?_⟩
        have := (S.env.mono g).set (v := .ref a) (d := .lst xs) (.lst (show upd G.fr a (.lst ws) a = some (.lst ws) from upd_same) rr.1 fun j v d x y => (rr.2 j v d x y).mono g) i
        rwa [St.set_self ev] at this
      exact h _ _ σ H _ E Dn S2 q (hd.mono g)
    · exact q.elim
  · exact q.elim
theorem dss_frz (i : Nat) {st : List Stmt} {t : TS} {T : TDS} (h : DSs X B st t T) : DSs X B st t (dFrzS i T) := ⟨h.pss, ref_frz i h.ref⟩
/-- an expression whose cell is frozen at once -/
@[simp] def frz (d : D) (μ : Mu) (Q : QD) : Prop := match d with
  | .ptr a => match μ a with
    | some (.lst xs) => Q (.lst xs) (mdel μ a)
    | some (.dic xs) => Q (.dic xs) (mdel μ a)
    | some (.ins C fs) => Q (.obj C fs) (mdel μ a)
    | _ => False
  | d => Q d μ
@[simp] def dFrz (T : TDE) : TDE := fun ρ μ Q => T ρ μ fun d μ1 => frz d μ1 Q
theorem de_frz {e : Expr} {te : TE} {T : TDE} (h : DE X B e te T) : DE X B e te (dFrz T) := ⟨h.pe, fun ρ μ σ H G Q Qn S q hd => h.ref ρ μ σ H G _ _ S q fun d μ1 v H1 G1 g1 S1 r1 q1 => by
  cases d with
  | ptr a =>
    cases r1
    have q2 : (match μ1 a with
      | some (.lst xs) => Q (.lst xs) (mdel μ1 a)
      | some (.dic xs) => Q (.dic xs) (mdel μ1 a)
      | some (.ins C fs) => Q (.obj C fs) (mdel μ1 a)
      | _ => False) := q1
    cases e : μ1 a with
    | none => rw [e] at q2; exact q2.elim
    | some c =>
      rw [e] at q2
      obtain ⟨f, o, h1, rr⟩ := S1.hold.cell a c e
      have g : Gle G1 (G1.frz a o) := Gle.frz f
      have S2 : Sat X.K B (G1.frz a o) ρ (mdel μ1 a) σ H1 := ⟨S1.hold.freeze e h1, S1.env.mono g⟩
      have up : upd G1.fr a o a = some o := upd_same
      cases c with
      | lst xs =>
        obtain ⟨ws, rfl, r9⟩ := cellR_lst rr
        exact hd _ _ _ _ _ (g1.trans g) S2 (.lst up r9.1 fun j v d x y => (r9.2 j v d x y).mono g) q2
      | dic xs =>
        obtain ⟨ws, rfl, r9⟩ := cellR_dic rr
        exact hd _ _ _ _ _ (g1.trans g) S2 (.dic up r9.1 fun j v d x y => (r9.2.2 j v d x y).mono g) q2
      | dicL _ _ xs => exact False.elim q2
      | ins C fs =>
        obtain ⟨dx, ws, rfl, r9⟩ := cellR_ins rr
        exact hd _ _ _ _ _ (g1.trans g) S2 (.obj up r9.1 fun j v d x y => (r9.2.2 j v d x y).mono g) q2
  | _ => exact (hd.mono g1) _ _ _ _ G1 (Gle.refl G1) S1 r1 q1⟩

/-! ### loops -/
/-- what is walked: the items, handed over as data -/
abbrev TDI := DR → Mu → (List D → Mu → Prop) → Prop
def loopL (g : TDG) (T : TDS) (E : DEnds) : List D → DR → Mu → Prop
  | [], ρ, μ => E.nx ρ μ
  | x :: r, ρ, μ => g x ρ μ fun ρ2 μ2 => T { E with nx := loopL g T E r, ct := loopL g T E r, bk := E.nx } ρ2 μ2
@[simp] def dFor (I : TDI) (g : TDG) (T : TDS) : TDS := fun E ρ μ => I ρ μ fun xs μ1 => loopL g T E xs ρ μ1
/-- the walk of iter at the layer's level yields these items -/
def RefI (K : PySem.W.Frag) (B : Gh) (I : TDI) (i : TI) : Prop := ∀ ρ μ σ H G (Q : List D → Mu → Prop) (R : It → Hp → Prop), Sat K B G ρ μ σ H → I ρ μ Q →
  (∀ xs μ1 J H1 G1, Gle G G1 → Sat K B G1 ρ μ1 σ H1 → Q xs μ1 →
    (∀ n H' G' μ', Gle G1 G' → Hold K G' μ' H' → (n < xs.length → J.go n H') ∧ (xs.length ≤ n → J.stop n H')) →
    (∀ n x v H' H2 G' μ', Gle G1 G' → Hold K G' μ' H' → xs[n]? = some x → J.yld n H' v H2 → ∃ G2, Gle G' G2 ∧ Hold K G2 μ' H2 ∧ Rep K G2 v x) → R J H1) → i σ H R
theorem ref_for {K : PySem.W.Frag} {I : TDI} {i : TI} {g : TDG} {gn : TG} {T : TDS} {t : TS} (hi : RefI K B I i) (hg : RefG K B g gn) (ht : RefS K B T t) : RefS K B (dFor I g T) (tFor i gn t) := fun ρ μ σ H G E Dn S h hd => by
  refine hi ρ μ σ H G _ _ S h fun xs μ1 J H1 G1 g1 S1 q1 hgo hy => ?_
  refine ⟨fun n m σ' H' => m = xs.length - n ∧ n ≤ xs.length ∧ ∃ G' ρ' μ', Gle G1 G' ∧ Sat K B G' ρ' μ' σ' H' ∧ loopL g T E (xs.drop n) ρ' μ', ⟨xs.length, by simp, Nat.zero_le _, G1, ρ, μ1, Gle.refl _, S1, by simpa using q1⟩, ?_⟩
  rintro n m σ' H' ⟨rfl, hn, G', ρ', μ', g2, S2, q2⟩
  by_cases hlt : n < xs.length
  · refine .inr ⟨(hgo n H' G' μ' g2 S2.hold).1 hlt, fun σ3 H3 => ∃ G3 ρ3 μ3, Gle G1 G3 ∧ Sat K B G3 ρ3 μ3 σ3 H3 ∧ loopL g T E (xs.drop (n + 1)) ρ3 μ3, ?_, ?_⟩
    · rintro σ3 H3 ⟨G3, ρ3, μ3, g3, S3, q3⟩
      exact ⟨xs.length - (n + 1), by omega, rfl, hlt, G3, ρ3, μ3, g3, S3, q3⟩
    · intro v H2 yv
      obtain ⟨G2, g3, h2, rv⟩ := hy n xs[n] v H' H2 G' μ' g2 S2.hold (List.getElem?_eq_getElem hlt) yv
      rw [List.drop_eq_getElem_cons hlt] at q2
      have S3 : Sat K B G2 ρ' μ' σ' H2 := ⟨h2, S2.env.mono g3⟩
      refine hg xs[n] v ρ' μ' σ' H2 G2 _ _ S3 rv q2 fun ρ4 μ4 σ4 H4 G4 g4 S4 q4 => ?_
      refine ht ρ4 μ4 σ4 H4 G4 _ _ S4 q4 ⟨?_, ?_, ?_, ?_⟩
      · exact fun ρ5 μ5 σ5 H5 G5 g5 S5 q5 => ⟨G5, ρ5, μ5, ((g2.trans g3).trans g4).trans g5, S5, q5⟩
      · exact fun d μ5 v5 H5 G5 g5 S5 r5 q5 => hd.rt d μ5 v5 H5 G5 ((((g1.trans g2).trans g3).trans g4).trans g5) S5 r5 q5
      · exact fun ρ5 μ5 σ5 H5 G5 g5 S5 q5 => hd.nx ρ5 μ5 σ5 H5 G5 ((((g1.trans g2).trans g3).trans g4).trans g5) S5 q5
      · exact fun ρ5 μ5 σ5 H5 G5 g5 S5 q5 => ⟨G5, ρ5, μ5, ((g2.trans g3).trans g4).trans g5, S5, q5⟩
  · have e : n = xs.length := by omega
    subst e
    rw [List.drop_length] at q2
    exact .inl ⟨(hgo _ H' G' μ' g2 S2.hold).2 (Nat.le_refl _), hd.nx ρ' μ' σ' H' G' (g1.trans g2) S2 q2⟩
structure DI (X : Cx) (B : Gh) (tg e : Expr) (i : TI) (I : TDI) : Prop where
  pi : PI X tg e i
  ref : RefI X.K B I i
theorem ds_for {tg iter : Expr} {body : List Stmt} {i : TI} {I : TDI} {g : TG} {U : TDG} {t : TS} {T : TDS} (hp : PassesOwn (model X.prog X.w) X.A X.env X.xe) (hc : X.calm = true) (hi : DI X B tg iter i I) (hg : DG X B tg g U) (hb : DSs X B body t T)
    (hs : ∀ x, foldedSetIterable iter X.env x = pure x := by intro _; rfl) : DS X B (.For tg iter body [] pos) (tFor i g t) (dFor I U T) := ⟨ps_for hp hc hi.pi hg.pg hb.pss hs, ref_for hi.ref hg.ref hb.ref⟩
/-- a frozen list, a tuple -/
@[simp] def iLst (T : TDE) : TDI := fun ρ μ Q => T ρ μ fun d μ1 => match d with | .lst xs => Q xs μ1 | _ => False
@[simp] def iTupD (T : TDE) : TDI := fun ρ μ Q => T ρ μ fun d μ1 => match d with | .tup xs => Q xs μ1 | _ => False
theorem di_list {tg e : Expr} {te : TE} {T : TDE} (h : DE X B e te T) : DI X B tg e (iList X.K te) (iLst T) := ⟨pi_list h.pe, fun ρ μ σ H G Q R S q hd => h.ref ρ μ σ H G _ _ S q fun d μ1 v H1 G1 g1 S1 r1 q1 => by
  cases d with
  | lst xs =>
    cases r1 with
    | lst hh l r =>
      rename_i a vs
      have at' : ∀ {H' : Hp} {G' : Gh} {μ' : Mu}, Gle G1 G' → Hold X.K G' μ' H' → H' a = some (.lst vs) := fun g hh' => hh'.fr _ _ (g.fr _ _ hh)
      refine ⟨a, rfl, ⟨vs, SqL.of (at' (Gle.refl _) S1.hold)⟩, hd xs μ1 _ H1 G1 g1 S1 q1 (fun n H' G' μ' g h' => ⟨fun hn => ?_, fun hn => ?_⟩) fun n x w H' H2 G' μ' g h' ex y => ?_⟩
      · exact ⟨vs, vs[n]'(by rw [l]; exact hn), SqL.of (at' g h'), List.getElem?_eq_getElem _⟩
      · exact ⟨vs, SqL.of (at' g h'), by rw [l]; exact hn⟩
      · obtain ⟨rfl, y⟩ := y
        have e1 := y vs (SqL.of (at' g h'))
        exact ⟨G', Gle.refl _, h', (r n w x e1 ex).mono g⟩
  | _ => exact False.elim q1⟩
theorem di_tup {tg e : Expr} {te : TE} {T : TDE} (h : DE X B e te T) : DI X B tg e (iTup X.K te) (iTupD T) := ⟨pi_tup h.pe, fun ρ μ σ H G Q R S q hd => h.ref ρ μ σ H G _ _ S q fun d μ1 v H1 G1 g1 S1 r1 q1 => by
  cases d with
  | tup xs =>
    cases r1 with
    | tup hh l r =>
      rename_i a vs
      have at' : ∀ {H' : Hp} {G' : Gh} {μ' : Mu}, Gle G1 G' → Hold X.K G' μ' H' → SqT X.K H' a vs := fun g hh' => hh'.fr.seqT (g.fr.seqT hh)
      refine ⟨a, rfl, ⟨vs, at' (Gle.refl _) S1.hold⟩, hd xs μ1 _ H1 G1 g1 S1 q1 (fun n H' G' μ' g h' => ⟨fun hn => ?_, fun hn => ?_⟩) fun n x w H' H2 G' μ' g h' ex y => ?_⟩
      · exact ⟨vs, vs[n]'(by rw [l]; exact hn), at' g h', List.getElem?_eq_getElem _⟩
      · exact ⟨vs, at' g h', by rw [l]; exact hn⟩
      · obtain ⟨rfl, y⟩ := y
        have e1 := y vs (at' g h')
        exact ⟨G', Gle.refl _, h', (r n w x e1 ex).mono g⟩
  | _ => exact False.elim q1⟩
/-- the script -/
@[simp] def iScr (T : TDE) : TDI := fun ρ μ Q => T ρ μ fun d μ1 => match d with | .scr ns => Q (ns.map .int) μ1 | _ => False
theorem di_scr {tg e : Expr} {te : TE} {T : TDE} (h : DE X B e te T) : DI X B tg e (iList X.K te) (iScr T) := ⟨pi_list h.pe, fun ρ μ σ H G Q R S q hd => h.ref ρ μ σ H G _ _ S q fun d μ1 v H1 G1 g1 S1 r1 q1 => by
  cases d with
  | scr ns =>
    cases r1 with
    | scr hh =>
      rename_i a
      have at' : ∀ {H' : Hp} {G' : Gh} {μ' : Mu}, Gle G1 G' → Hold X.K G' μ' H' → SqL X.K H' a (ns.map V.int) := fun g hh' => hh'.fr.seqL (g.fr.seqL hh)
      refine ⟨a, rfl, ⟨_, at' (Gle.refl _) S1.hold⟩, hd (ns.map .int) μ1 _ H1 G1 g1 S1 q1 (fun n H' G' μ' g h' => ⟨fun hn => ?_, fun hn => ?_⟩) fun n x w H' H2 G' μ' g h' ex y => ?_⟩
      · exact ⟨_, (ns.map V.int)[n]'(by simpa using hn), at' g h', List.getElem?_eq_getElem _⟩
      · exact ⟨_, at' g h', by simpa using hn⟩
      · obtain ⟨rfl, y⟩ := y
        have e1 := y _ (at' g h')
        exact ⟨G', Gle.refl _, h', (Reps.ofInts ns).2 n w x e1 ex⟩
  | _ => exact False.elim q1⟩
/-- range(n), range(a, b) -/
def rngD (lo hi : Int) : List D := (List.range (hi - lo).toNat).map fun (k : Nat) => .int (lo + (k : Int))
@[simp] def iRg1 (T : TDA) : TDI := fun ρ μ Q => T ρ μ fun ds μ1 => match ds with | [.int j] => (-(2 ^ 62) ≤ j ∧ j < 2 ^ 62) ∧ Q (rngD 0 j) μ1 | _ => False
@[simp] def iRg2 (T : TDA) : TDI := fun ρ μ Q => T ρ μ fun ds μ1 => match ds with | [.int i, .int j] => (-(2 ^ 62) ≤ i ∧ i < 2 ^ 62 ∧ -(2 ^ 62) ≤ j ∧ j < 2 ^ 62) ∧ Q (rngD i j) μ1 | _ => False
theorem rngD_get {lo hi : Int} {n : Nat} {x : D} (h : (rngD lo hi)[n]? = some x) : x = .int (lo + (n : Int)) := by
  unfold rngD at h
  rw [List.getElem?_map] at h
  cases q : (List.range (hi - lo).toNat)[n]? with
  | none => rw [q] at h; cases h
  | some k =>
    rw [q] at h
    have := (List.getElem?_eq_some_iff.mp q).2
    simp at this
    subst this
    cases h; rfl
theorem di_range1 {a : Expr} {ta : TA} {T : TDA} {tg : Expr} {p : Pos} (hg : Gl X "range") (hm : X.mg "range" = none) (ha : DA X B [a] ta T) (hs : starEach [a] X.env = [(false, eval a X.env)] := by rfl) : DI X B tg (.Call (.Name "range" p) [a] [] pos) (iRng1 ta) (iRg1 T) :=
  ⟨pi_range1 hg hm ha.pa hs, fun ρ μ σ H G Q R S q hd => ha.ref ρ μ σ H G _ _ S q fun ds μ1 vs H1 G1 g1 S1 r1 q1 => by
    split at q1
    · next j =>
      obtain ⟨v, rfl, rv⟩ := reps1 r1
      cases rv
      obtain ⟨⟨b1, b2⟩, q1⟩ := q1
      refine ⟨j, rfl, b1, b2, hd (rngD 0 j) μ1 _ H1 G1 g1 S1 q1 (fun n H' G' μ' g h' => ⟨fun hn => ?_, fun hn => ?_⟩) fun n x w H' H2 G' μ' g h' ex y => ?_⟩
      · simpa [rngD, Itr] using hn
      · simpa [rngD, Itr] using hn
      · obtain ⟨rfl, rfl⟩ := y
        rw [rngD_get ex]
        exact ⟨G', Gle.refl _, h', .int _⟩
    · exact q1.elim⟩
theorem di_range2 {a b : Expr} {ta : TA} {T : TDA} {tg : Expr} {p : Pos} (hg : Gl X "range") (hm : X.mg "range" = none) (ha : DA X B [a, b] ta T) (hs : starEach [a, b] X.env = [(false, eval a X.env), (false, eval b X.env)] := by rfl) (hs2 : starEach [b] X.env = [(false, eval b X.env)] := by rfl) :
    DI X B tg (.Call (.Name "range" p) [a, b] [] pos) (iRng2 ta) (iRg2 T) :=
  ⟨pi_range2 hg hm ha.pa hs hs2, fun ρ μ σ H G Q R S q hd => ha.ref ρ μ σ H G _ _ S q fun ds μ1 vs H1 G1 g1 S1 r1 q1 => by
    split at q1
    · next i j =>
      obtain ⟨v, w, rfl, rv, rw'⟩ := reps2 r1
      cases rv; cases rw'
      obtain ⟨⟨b1, b2, b3, b4⟩, q1⟩ := q1
      refine ⟨i, j, rfl, ⟨b1, b2, b3, b4⟩, hd (rngD i j) μ1 _ H1 G1 g1 S1 q1 (fun n H' G' μ' g h' => ⟨fun hn => ?_, fun hn => ?_⟩) fun n x w H' H2 G' μ' g h' ex y => ?_⟩
      · simpa [rngD, Itr] using hn
      · simpa [rngD, Itr] using hn
      · obtain ⟨rfl, rfl⟩ := y
        rw [rngD_get ex]
        exact ⟨G', Gle.refl _, h', .int _⟩
    · exact q1.elim⟩
/-- a text, sign by sign -/
@[simp] def iTxt (T : TDE) : TDI := fun ρ μ Q => T ρ μ fun d μ1 => match d with | .str s => Q (s.cps.toList.map fun c => .str (mk [c])) μ1 | _ => False
theorem di_str {tg e : Expr} {te : TE} {T : TDE} (h : DE X B e te T) : DI X B tg e (iStr te) (iTxt T) := ⟨pi_str h.pe, fun ρ μ σ H G Q R S q hd => h.ref ρ μ σ H G _ _ S q fun d μ1 v H1 G1 g1 S1 r1 q1 => by
  cases d with
  | str s =>
    cases r1
    refine ⟨s, rfl, hd _ μ1 _ H1 G1 g1 S1 q1 (fun n H' G' μ' g h' => ⟨fun hn => ?_, fun hn => ?_⟩) fun n x w H' H2 G' μ' g h' ex y => ?_⟩
    · simpa [Its] using hn
    · simpa [Its] using hn
    · obtain ⟨rfl, c, ec, rfl⟩ := y
      refine ⟨G', Gle.refl _, h', ?_⟩
      rw [List.getElem?_map] at ex
      have : s.cps.toList[n]? = some c := by simpa using ec
      rw [this] at ex
      cases ex
      exact .str _
  | _ => exact False.elim q1⟩
end

/-! ### while: an invariant, a measure -/
def dWhile (c : TDT) (T : TDS) : TDS := fun E ρ μ => ∃ W : Nat → DR → Mu → Prop, (∃ m, W m ρ μ) ∧ ∀ m ρ μ, W m ρ μ →
  c ρ μ fun b μ1 => if b = true then T { E with nx := fun ρ' μ' => ∃ m', m' < m ∧ W m' ρ' μ', ct := fun ρ' μ' => ∃ m', m' < m ∧ W m' ρ' μ', bk := E.nx } ρ μ1 else E.nx ρ μ1
section
variable {X : Cx} {pos : Pos}
theorem ds_while {c : Expr} {body : List Stmt} {tc : TT} {t : TS} {Tc : TDT} {T : TDS} (hp : PassesOwn (model X.prog X.w) X.A X.env X.xe) (hc : DT X B c tc Tc) (hb : DSs X B body t T) : DS X B (.While c body [] pos) (tWhile tc t) (dWhile Tc T) :=
  ⟨ps_while hp hc.pt hb.pss, fun ρ μ σ H G E Dn S h hd => by
    obtain ⟨W, ⟨m0, w0⟩, turn⟩ := h
    refine ⟨fun m σ' H' => ∃ G' ρ' μ', Gle G G' ∧ Sat X.K B G' ρ' μ' σ' H' ∧ W m ρ' μ', ⟨m0, G, ρ, μ, Gle.refl G, S, w0⟩, ?_⟩
    rintro m σ' H' ⟨G', ρ', μ', g, S', w⟩
    refine hc.ref ρ' μ' σ' H' G' _ _ S' (turn m ρ' μ' w) fun b μ1 H1 G1 g1 S1 q1 => ?_
    cases b with
    | true =>
      refine ⟨fun σ3 H3 => ∃ m', m' < m ∧ ∃ G3 ρ3 μ3, Gle G G3 ∧ Sat X.K B G3 ρ3 μ3 σ3 H3 ∧ W m' ρ3 μ3, fun σ3 H3 ⟨m', l, r⟩ => ⟨m', l, r⟩, ?_⟩
      refine hb.ref ρ' μ1 σ' H1 G1 _ _ S1 q1 ⟨?_, ?_, ?_, ?_⟩
      · exact fun ρ5 μ5 σ5 H5 G5 g5 S5 ⟨m', l, w5⟩ => ⟨m', l, G5, ρ5, μ5, (g.trans g1).trans g5, S5, w5⟩
      · exact fun d μ5 v5 H5 G5 g5 S5 r5 q5 => hd.rt d μ5 v5 H5 G5 ((g.trans g1).trans g5) S5 r5 q5
      · exact fun ρ5 μ5 σ5 H5 G5 g5 S5 q5 => hd.nx ρ5 μ5 σ5 H5 G5 ((g.trans g1).trans g5) S5 q5
      · exact fun ρ5 μ5 σ5 H5 G5 g5 S5 ⟨m', l, w5⟩ => ⟨m', l, G5, ρ5, μ5, (g.trans g1).trans g5, S5, w5⟩
    | false => exact hd.nx ρ' μ1 σ' H1 G1 (g.trans g1) S1 q1⟩
end
end DL

/-! DL5: comprehensions, calls, defs, the law's end. -/
namespace DL
open PySem PySem.Spec PyProof.Rows L2

/-! ### comprehensions -/
@[simp] def wipeD (ρ : DR) : List Nat → DR
  | [] => ρ
  | v :: vs => (wipeD ρ vs).set v none
theorem Envr.unset {K : PySem.W.Frag} {G : Gh} {σ : St} {ρ : DR} (h : Envr K B G σ ρ) (i : Nat) : Envr K B G (σ.set i none) (ρ.set i none) := by
  refine ⟨⟨by simp [h.1.1], h.1.2⟩, fun j d q => ?_⟩
  rw [List.getElem?_set] at q
  split at q
  · next e =>
    split at q
    · cases q
    · cases q
  · next e => obtain ⟨u, a, b⟩ := h.2 j d q; exact ⟨u, by rw [List.getElem?_set_ne e]; exact a, b⟩
theorem Envr.wipe {K : PySem.W.Frag} {G : Gh} {σ : St} {ρ : DR} (h : Envr K B G σ ρ) : ∀ vs : List Nat, Envr K B G (L2.wipe σ vs) (wipeD ρ vs)
  | [] => h
  | v :: vs => (Envr.wipe h vs).unset v
/-- the comprehension's names alone are stored by the target -/
def KeepG (t : TG) (vs : List Nat) : Prop := ∀ v σ H (Q : St → Hp → Prop), t v σ H Q → t v σ H fun σ' H' => L2.wipe σ' vs = L2.wipe σ vs ∧ Q σ' H'
theorem wipe_set {σ : St} {i : Nat} {x : Option V} : ∀ {vs : List Nat}, i ∈ vs → L2.wipe (σ.set i x) vs = L2.wipe σ vs
  | v :: vs, h => by
    show (L2.wipe (σ.set i x) vs).set v none = (L2.wipe σ vs).set v none
    by_cases hm : i ∈ vs
    · rw [wipe_set hm]
    · have e : i = v := by
        rcases List.mem_cons.mp h with e | e
        · exact e
        · exact absurd e hm
      subst e
      have aux : ∀ (ws : List Nat) (τ : St), i ∉ ws → (L2.wipe (τ.set i x) ws).set i none = (L2.wipe τ ws).set i none := by
        intro ws
        induction ws with
        | nil => intro τ _; show (τ.set i x).set i none = τ.set i none; rw [List.set_set]
        | cons w ws ih =>
          intro τ hn
          have n1 : i ≠ w := fun e => hn (e ▸ List.mem_cons_self)
          have n2 : i ∉ ws := fun e => hn (List.mem_cons_of_mem _ e)
          show ((L2.wipe (τ.set i x) ws).set w none).set i none = ((L2.wipe τ ws).set w none).set i none
          rw [List.set_comm _ _ n1.symm, ih τ n2, List.set_comm _ _ n1]
      exact aux vs σ hm
theorem keep_name {i : Nat} {vs : List Nat} (h : i ∈ vs) : KeepG (gName i) vs := fun v σ H Q q => ⟨wipe_set h, q⟩
def KeepGs (t : TGs) (vs : List Nat) : Prop := ∀ xs σ H (Q : St → Hp → Prop), t xs σ H Q → t xs σ H fun σ' H' => L2.wipe σ' vs = L2.wipe σ vs ∧ Q σ' H'
theorem keep_nil {vs : List Nat} : KeepGs gNil vs := fun xs σ H Q ⟨e, q⟩ => ⟨e, rfl, q⟩
theorem keep_cons {i : Nat} {t : TGs} {vs : List Nat} (h : i ∈ vs) (hs : KeepGs t vs) : KeepGs (gCons (gName i) t) vs := fun xs σ H Q ⟨v, r, e, q⟩ => ⟨v, r, e, by
  have q1 := hs r (σ.set i (some v)) H Q q
  rw [wipe_set h] at q1
  exact q1⟩
theorem keep_tup {K : PySem.W.Frag} {n : Nat} {t : TGs} {vs : List Nat} (h : KeepGs t vs) : KeepG (gTup K n t) vs := fun v σ H Q ⟨a, xs, e1, e2, e3, q⟩ => ⟨a, xs, e1, e2, e3, h xs σ H Q q⟩
theorem wipe_wipe (σ : St) (vs : List Nat) : L2.wipe (L2.wipe σ vs) vs = L2.wipe σ vs := by
  have aux : ∀ (ws vs : List Nat) (τ : St), (∀ w ∈ ws, w ∈ vs) → L2.wipe (L2.wipe τ ws) vs = L2.wipe τ vs := by
    intro ws
    induction ws with
    | nil => intro vs τ _; rfl
    | cons w ws ih =>
      intro vs τ hs
      show L2.wipe ((L2.wipe τ ws).set w none) vs = _
      rw [wipe_set (hs w List.mem_cons_self)]
      exact ih vs τ fun x hx => hs x (List.mem_cons_of_mem _ hx)
  exact aux vs vs σ fun _ h => h

def compL (g : TDG) (tt : TDT) (te : TDE) (p : Addr) (ρ0 : DR) (Q : Mu → Prop) : List D → Mu → Prop
  | [], μ => Q μ
  | x :: r, μ => g x ρ0 μ fun ρ2 μ2 => tt ρ2 μ2 fun b μ3 => if b = true then te ρ2 μ3 fun d μ4 => ∃ acc, μ4 p = some (.lst acc) ∧ acc.length < sizeLine ∧ compL g tt te p ρ0 Q r (mup μ4 p (.lst (acc ++ [d]))) else compL g tt te p ρ0 Q r μ3
/-- the made list: a cell, or frozen -/
@[simp] def endL (c : Bool) (p : Addr) (μ : Mu) (Q : QD) : Prop := match c with
  | true => Q (.ptr p) μ
  | false => ∃ acc, μ p = some (.lst acc) ∧ Q (.lst acc) (mdel μ p)
@[simp] def dLc (c : Bool) (I : TDI) (g : TDG) (tt : TDT) (te : TDE) (vs : List Nat) : TDE := fun ρ μ Q => I ρ μ fun xs μ1 => ∀ p, μ1 p = none → compL g tt te p (wipeD ρ vs) (fun μ2 => endL c p μ2 Q) xs (mup μ1 p (.lst []))
theorem endL_go {K : PySem.W.Frag} {c : Bool} {p : Addr} {μ : Mu} {Q : QD} {ρ : DR} {σ : St} {H : Hp} {G : Gh} {Qn : VK} (h : endL c p μ Q) (S : Sat K B G ρ μ σ H) (hd : Hand K B G ρ σ Q Qn) : Qn (.ref p) H := by
  cases c with
  | true => exact hd.now S (.ptr p) h
  | false =>
    obtain ⟨acc, e, q⟩ := h
    obtain ⟨ws, h1, rr⟩ := S.hold.lstAt e
    have g : Gle G (G.frz p (.lst ws)) := Gle.frz (S.hold.cell p _ e).1
    exact hd _ _ _ _ _ g ⟨S.hold.freeze e h1, S.env.mono g⟩ (.lst (show upd G.fr p (.lst ws) p = some (.lst ws) from upd_same) rr.1 fun j v d x y => (rr.2 j v d x y).mono g) q
theorem ref_lc {K : PySem.W.Frag} {c : Bool} {I : TDI} {i : TI} {g : TDG} {gn : TG} {tt : TDT} {ttn : TT} {te : TDE} {ten : TE} {vs : List Nat} (hi : RefI K B I i) (hg : RefG K B g gn) (hk : KeepG gn vs) (ht : RefT K B tt ttn) (he : RefE K B te ten) : RefE K B (dLc c I g tt te vs) (tLc i gn ttn ten vs) := fun ρ μ σ H G Q Qn S h hd => by
  refine hi ρ μ σ H G _ _ S h fun xs μ1 J H1 G1 g1 S1 q1 hgo hy => ?_
  intro p np
  have hc1 : Hold K G1 (mup μ1 p (.lst [])) (upd H1 p (.lst [])) := S1.hold.cellNew np (show CellR K G1 (.lst []) (.lst []) from Reps.nil)
  have q2 := q1 p (S1.hold.free np).2.1
  refine ⟨fun n m H' => m = xs.length - n ∧ n ≤ xs.length ∧ ∃ G' μ', Gle G1 G' ∧ Hold K G' μ' H' ∧ compL g tt te p (wipeD ρ vs) (fun μ2 => endL c p μ2 Q) (xs.drop n) μ', ⟨xs.length, by simp, Nat.zero_le _, G1, _, Gle.refl _, hc1, by simpa using q2⟩, ?_⟩
  rintro n m H' ⟨rfl, hn, G', μ', g2, S2, q3⟩
  by_cases hlt : n < xs.length
  · refine .inr ⟨(hgo n H' G' μ' g2 S2).1 hlt, fun H3 => ∃ G3 μ3, Gle G1 G3 ∧ Hold K G3 μ3 H3 ∧ compL g tt te p (wipeD ρ vs) (fun μ2 => endL c p μ2 Q) (xs.drop (n + 1)) μ3, ?_, ?_⟩
    · rintro H3 ⟨G3, μ3, g3, S3, q4⟩
      exact ⟨xs.length - (n + 1), by omega, rfl, hlt, G3, μ3, g3, S3, q4⟩
    · intro v H2 yv
      obtain ⟨G2, g3, h2, rv⟩ := hy n xs[n] v H' H2 G' μ' g2 S2 (List.getElem?_eq_getElem hlt) yv
      rw [List.drop_eq_getElem_cons hlt] at q3
      have S3 : Sat K B G2 (wipeD ρ vs) μ' (L2.wipe σ vs) H2 := ⟨h2, (((S1.env.mono g2).mono g3).wipe vs)⟩
      have q4 := hg xs[n] v (wipeD ρ vs) μ' (L2.wipe σ vs) H2 G2 _ (fun σ2 H3 => ttn σ2 H3 fun b H3 => if b = true then ten σ2 H3 fun y H4 => ∃ acc, H4 p = some (.lst acc) ∧ acc.length < sizeLine ∧ (∃ G3 μ3, Gle G1 G3 ∧ Hold K G3 μ3 (upd H4 p (.lst (acc ++ [y]))) ∧ compL g tt te p (wipeD ρ vs) (fun μ2 => endL c p μ2 Q) (xs.drop (n + 1)) μ3) else ∃ G3 μ3, Gle G1 G3 ∧ Hold K G3 μ3 H3 ∧ compL g tt te p (wipeD ρ vs) (fun μ2 => endL c p μ2 Q) (xs.drop (n + 1)) μ3) S3 rv q3 fun ρ4 μ4 σ4 H4 G4 g4 S4 q4 => by
        refine ht ρ4 μ4 σ4 H4 G4 _ _ S4 q4 fun b μ5 H5 G5 g5 S5 q5 => ?_
        cases b with
        | true =>
          refine he ρ4 μ5 σ4 H5 G5 _ _ S5 q5 fun d μ6 v6 H6 G6 g6 S6 r6 q6 => ?_
          obtain ⟨acc, e, l, q6⟩ := q6
          obtain ⟨ws, h1, rr⟩ := S6.hold.lstAt e
          exact ⟨ws, h1, by rw [rr.1]; exact l, G6, _, (((g2.trans g3).trans g4).trans g5).trans g6, S6.hold.cellSet e (show CellR K G6 (.lst (ws ++ [v6])) (.lst (acc ++ [d])) from rr.append (Reps.one r6)), q6⟩
        | false => exact ⟨G5, μ5, ((g2.trans g3).trans g4).trans g5, S5.hold, q5⟩
      have q5 := hk v (L2.wipe σ vs) H2 _ q4
      rw [wipe_wipe] at q5
      exact q5
  · have e : n = xs.length := by omega
    subst e
    rw [List.drop_length] at q3
    exact .inl ⟨(hgo _ H' G' μ' g2 S2).2 (Nat.le_refl _), endL_go q3 ⟨S2, S1.env.mono g2⟩ (hd.mono (g1.trans g2))⟩
structure DTs (X : Cx) (B : Gh) (ifs : List Expr) (t : TT) (T : TDT) : Prop where
  pts : PTs X ifs t
  ref : RefT X.K B T t
@[simp] def dYes : TDT := fun _ μ Q => Q true μ
theorem dts_nil {X : Cx} : DTs X B [] tYes dYes := ⟨pts_nil, fun ρ μ σ H G Q Qn S q hd => hd true μ H G (Gle.refl G) S q⟩
theorem dts_one {X : Cx} {c : Expr} {t : TT} {T : TDT} (h : DT X B c t T) : DTs X B [c] t T := ⟨pts_one h.pt, h.ref⟩
section
variable {X : Cx} {pos : Pos}
theorem de_lc (c : Bool) {elt tg iter : Expr} {ifs : List Expr} {scope : Scope} {own : List (Str × Nat)} {wi : TI} {I : TDI} {g : TG} {U : TDG} {tt : TT} {Tt : TDT} {te : TE} {Te : TDE} (hc : X.calm = true) (hN : X.N.Nodup) (hi : DI X B tg iter wi I) (ok : BlkOk X.N X.env.scope scope own)
    (hg : ∀ (s : Shared) (H : Hp) (C : Addr) (cl : List (Str × Addr)) (fp : List Addr), DG (X.blk s H scope (compEnvC scope cl C X.env) fp) B tg g U) (hk : KeepG g (own.map (·.2))) (ht : ∀ (s : Shared) (H : Hp) (C : Addr) (cl : List (Str × Addr)) (fp : List Addr), DTs (X.blk s H scope (compEnvC scope cl C X.env) fp) B ifs tt Tt)
    (he : ∀ (s : Shared) (H : Hp) (C : Addr) (cl : List (Str × Addr)) (fp : List Addr), DE (X.blk s H scope (compEnvC scope cl C X.env) fp) B elt te Te) (hs : ∀ x, foldedSetIterable iter X.env x = pure x := by intro _; rfl) :
    DE X B (.ListComp elt [⟨tg, iter, ifs, 0⟩] scope pos) (tLc wi g tt te (own.map (·.2))) (dLc c I U Tt Te (own.map (·.2))) :=
  ⟨pe_lc hc hN hi.pi ok (fun s H C cl fp => (hg s H C cl fp).pg) (fun s H C cl fp => (ht s H C cl fp).pts) (fun s H C cl fp => (he s H C cl fp).pe) hs,
    ref_lc hi.ref (hg X.s_0 X.H_0 0 [] []).ref hk (ht X.s_0 X.H_0 0 [] []).ref (he X.s_0 X.H_0 0 [] []).ref⟩
/-- name = [..] on one line -/
theorem ds_setLc (c : Bool) (i : Nat) {y : Str} {py : Pos} {elt tg iter : Expr} {ifs : List Expr} {scope : Scope} {own : List (Str × Nat)} {spos : Pos} {wi : TI} {I : TDI} {g : TG} {U : TDG} {tt : TT} {Tt : TDT} {te : TE} {Te : TDE} (hc : X.calm = true) (hN : X.N.Nodup) (hy : X.N[i]? = some y) (hyl : X.env.scope.names.lookup y = some .local)
    (hsw : swapsWith (.ListComp elt [⟨tg, iter, ifs, 0⟩] scope pos) (some (.Name y py)) spos.line X.env = pure true) (hi : DI X B tg iter wi I) (ok : BlkOk X.N X.env.scope scope own)
    (hg : ∀ (s : Shared) (H : Hp) (C : Addr) (cl : List (Str × Addr)) (fp : List Addr), DG (X.blk s H scope (compEnvC scope cl C X.env) fp) B tg g U) (hk : KeepG g (own.map (·.2))) (ht : ∀ (s : Shared) (H : Hp) (C : Addr) (cl : List (Str × Addr)) (fp : List Addr), DTs (X.blk s H scope (compEnvC scope cl C X.env) fp) B ifs tt Tt)
    (he : ∀ (s : Shared) (H : Hp) (C : Addr) (cl : List (Str × Addr)) (fp : List Addr), DE (X.blk s H scope (compEnvC scope cl C X.env) fp) B elt te Te) (hs : ∀ x, foldedSetIterable iter X.env x = pure x := by intro _; rfl) :
    DS X B (.Assign [.Name y py] (.ListComp elt [⟨tg, iter, ifs, 0⟩] scope pos) spos) (tAsg (tLc wi g tt te (own.map (·.2))) (gName i)) (dAsg (dLc c I U Tt Te (own.map (·.2))) (dgName i)) :=
  ⟨ps_setLc hc hN hy hyl hsw hi.pi ok (fun s H C cl fp => (hg s H C cl fp).pg) (fun s H C cl fp => (ht s H C cl fp).pts) (fun s H C cl fp => (he s H C cl fp).pe) hs,
    ref_asg (ref_lc hi.ref (hg X.s_0 X.H_0 0 [] []).ref hk (ht X.s_0 X.H_0 0 [] []).ref (he X.s_0 X.H_0 0 [] []).ref) (fun d v ρ μ σ H G Q Qn S r h hd => hd _ μ _ H G (Gle.refl G) ⟨S.hold, S.env.set r i⟩ h)⟩
end

/-! ### calls of own defs -/
abbrev XDt := Value → List (Str × D) → Mu → Prop
abbrev DSp := List D → Mu → QD → XDt → Prop
/-- the dict of what is raised: frozen -/
def XRep (K : PySem.W.Frag) (G : Gh) (fs : List (Str × D)) : Option Addr → Prop
  | none => fs = []
  | some a => ∃ fvs, G.fr a = some (.xd fvs) ∧ FReps K G fvs fs
theorem XRep.mono {K : PySem.W.Frag} {G G' : Gh} {fs : List (Str × D)} {od : Option Addr} (h : XRep K G fs od) (g : Gle G G') : XRep K G' fs od := by
  cases od with
  | none => exact h
  | some a => obtain ⟨fvs, e, r⟩ := h; exact ⟨fvs, g.fr _ _ e, r.mono g⟩
def toSp (K : PySem.W.Frag) (S : DSp) : Sp := fun vs H Q E => ∃ G ds μ QQ EE, Hold K G μ H ∧ Reps K G vs ds ∧ S ds μ QQ EE ∧ (∀ d μ' v H' G', Gle G G' → Hold K G' μ' H' → Rep K G' v d → QQ d μ' → Q v H') ∧
  (∀ cls fs μ' od H' G', Gle G G' → Hold K G' μ' H' → XRep K G' fs od → EE cls fs μ' → E cls od H')
@[simp] def noX : XDt := fun _ _ _ => False
@[simp] def dCall (S : DSp) (T : TDA) : TDE := fun ρ μ Q => T ρ μ fun ds μ1 => S ds μ1 Q noX
section
variable {X : Cx} {pos : Pos} {CX : CXT} {k : Nat} {f : Addr} {fd : FuncData} {ps : List Str} {S : DSp} {x : Str} {p : Pos} {e : Expr} {es : List Expr} {t : TA} {T : TDA}
theorem ref_call {K : PySem.W.Frag} (h : RefA K B T t) : RefE K B (dCall S T) (tCall (toSp K S) [] E0 t) := fun ρ μ σ H G Q Qn St q hd => h ρ μ σ H G _ _ St q fun ds μ1 vs H1 G1 g1 S1 r1 q1 => by
  refine ⟨G1, ds, μ1, Q, noX, S1.hold, by rw [List.append_nil]; exact r1, q1, fun d μ' v H' G' g' h' r' q' => hd d μ' v H' G' (g1.trans g') ⟨h', S1.env.mono g'⟩ r' q', fun _ _ _ _ _ _ _ _ _ z => z.elim⟩
theorem de_call (F : FnOk X.prog X.w X.K X.mg X.base CX0 k f fd ps (toSp X.K S)) (hr : Room k X.A) (hm : X.mg x = some (.ref f)) (hk : PySem.W.keepIn X.K (.ref f) = true) (hb : Binds X.K fd ps []) (ha : DA X B (e :: es) t T) (hg : Gl X x := by rfl)
    (hdb : (x == ("__debug__" : Str)) = false := by decide) (he : starEach (e :: es) X.env = (false, eval e X.env) :: starEach es X.env := by rfl) (hpl : (backTo pos (starEach es X.env)).any (·.1) = false := by rfl) :
    DE X B (.Call (.Name x p) (e :: es) [] pos) (tCall (toSp X.K S) [] E0 t) (dCall S T) := ⟨pe_call F hr hg hm hk hb .nil pass0 ha.pa hdb he hpl, ref_call ha.ref⟩
theorem de_call0 (F : FnOk X.prog X.w X.K X.mg X.base CX0 k f fd ps (toSp X.K S)) (hr : Room k X.A) (hm : X.mg x = some (.ref f)) (hk : PySem.W.keepIn X.K (.ref f) = true) (hb : Binds X.K fd ps []) (hg : Gl X x := by rfl)
    (hdb : (x == ("__debug__" : Str)) = false := by decide) : DE X B (.Call (.Name x p) [] [] pos) (tCall (toSp X.K S) [] E0 tNil) (dCall S dNil) := ⟨pe_call0 F hr hg hm hk hb .nil pass0 hdb, ref_call da_nil.ref⟩
theorem RefA.nil' {K : PySem.W.Frag} : RefA K B dNil tNil := fun ρ μ σ H G Q Qn S h hd => hd [] μ [] H G (Gle.refl G) S Reps.nil h
end

/-! ### a def keeps its promise -/
@[simp] def startD (N : List Str) (ds : List D) : DR := ds.map some ++ List.replicate (N.length - ds.length) none
theorem envr_start {K : PySem.W.Frag} {G : Gh} {vs : List V} {ds : List D} (N : List Str) (r : Reps K G vs ds) (b : Gle B G) : Envr K B G (start N vs) (startD N ds) := by
  refine ⟨⟨by simp [L2.start, startD, r.1], b⟩, fun i d q => ?_⟩
  unfold startD at q
  unfold L2.start
  by_cases h : i < ds.length
  · rw [List.getElem?_append_left (by simpa using h)] at q
    rw [List.getElem?_append_left (by simpa [r.1] using h)]
    rw [List.getElem?_map] at q ⊢
    cases e : ds[i]? with
    | none => rw [e] at q; cases q
    | some d' =>
      rw [e] at q
      cases q
      obtain ⟨v, a, b⟩ := r.get e
      exact ⟨v, by rw [a]; rfl, b⟩
  · rw [List.getElem?_append_right (by simpa using Nat.le_of_not_lt h)] at q
    rw [List.getElem?_replicate] at q
    split at q <;> cases q
section
variable {P : Program} {w : World} {K : PySem.W.Frag} {mg : Str → Option Value} {base : Heap}
theorem fn_ok {x qual : Str} {st : Stmt} {f : Addr} {fd : FuncData} {N ps : List Str} {k : Nat} {S : DSp} (F : Fun K x qual st f fd) (SC : FnScope N ps (defScope st)) (len : ∀ ds μ Q E, S ds μ Q E → ds.length = ps.length)
    (hb : ∀ (B : Gh) (cdv : Value) (A : Around) (outer : List Env) (s : Shared) (H : Hp) (E : XK), Room k (A.deeper (envOfC qual (defScope st) s.heap.objs.size f cdv)) →
      ∃ t T, DSs (cxOf CX0 P w K mg base N qual (defScope st) f cdv A outer s H E).nox B (defBody st) t T ∧ ∀ ds μ Q EE, S ds μ Q EE → T { nx := fun _ μ' => Q .non μ', rt := Q } (startD N ds) μ) : FnOk P w K mg base CX0 (k + 1) f fd ps (toSp K S) :=
  F.ok SC (fun vs H Q E ⟨G, ds, μ, QQ, EE, _, r, s, _⟩ => r.1.trans (len ds μ QQ EE s)) fun cdv A outer s H vs Q E hr ⟨G, ds, μ, QQ, EE, hh, r, sp, q, _⟩ => by
    obtain ⟨t, T, h, b⟩ := hb G cdv A outer s H E hr
    refine ⟨t, h.pss, h.ref (startD N ds) μ (start N vs) H G _ _ ⟨hh, envr_start N r (Gle.refl G)⟩ (b ds μ QQ EE sp) ⟨?_, ?_, ?_, ?_⟩⟩
    · exact fun ρ' μ' σ' H' G' g S' z => q .non μ' .non H' G' g S'.hold .non z
    · exact fun d μ' v H' G' g S' rv z => q d μ' v H' G' g S' rv z
    · exact fun _ _ _ _ _ _ _ z => z.elim
    · exact fun _ _ _ _ _ _ _ z => z.elim
/-- a store with less in it -/
def Sub (μ μ' : Mu) : Prop := ∀ a c, μ a = some c → μ' a = some c
theorem Sub.refl (μ : Mu) : Sub μ μ := fun _ _ h => h
theorem Sub.mup {μ μ' : Mu} {p : Addr} {c : Cell} (h : Sub μ μ') (n : μ p = none) : Sub μ (mup μ' p c) := fun a d e => by
  rw [mup_ne (fun x => by rw [x, n] at e; cases e)]; exact h a d e
theorem Sub.mdel {μ μ' : Mu} {p : Addr} (h : Sub μ μ') (n : μ p = none) : Sub μ (mdel μ' p) := fun a d e => by
  rw [mdel_ne (fun x => by rw [x, n] at e; cases e)]; exact h a d e
theorem Hold.sub {G : Gh} {μ μ' : Mu} {H : Hp} (h : Hold K G μ' H) (s : Sub μ μ') : Hold K G μ H :=
  ⟨h.fr, fun a c q => h.cell a c (s a c q), fun a q => let ⟨x, y, z⟩ := h.src a q; ⟨x, (by cases e : μ a with | none => rfl | some c => rw [s a c e] at y; cases y), z⟩,
    fun a q => let ⟨x, y, z⟩ := h.rooms a q; ⟨x, (by cases e : μ a with | none => rfl | some c => rw [s a c e] at y; cases y), z⟩⟩
/-- what is made and not handed back is forgotten -/
def Fg (P : Mu → Prop) (μ : Mu) : Prop := ∃ μ0, Sub μ0 μ ∧ P μ0
theorem Fg.here {P : Mu → Prop} {μ : Mu} (h : P μ) : Fg P μ := ⟨μ, Sub.refl μ, h⟩
theorem Fg.to {P : Mu → Prop} {μ μ0 : Mu} (h : P μ0) (s : Sub μ0 μ) : Fg P μ := ⟨μ0, s, h⟩
/-- as fn_ok; the def's own cells may be left behind -/
theorem fn_okF {x qual : Str} {st : Stmt} {f : Addr} {fd : FuncData} {N ps : List Str} {k : Nat} {S : DSp} (F : Fun K x qual st f fd) (SC : FnScope N ps (defScope st)) (len : ∀ ds μ Q E, S ds μ Q E → ds.length = ps.length)
    (hb : ∀ (B : Gh) (cdv : Value) (A : Around) (outer : List Env) (s : Shared) (H : Hp) (E : XK), Room k (A.deeper (envOfC qual (defScope st) s.heap.objs.size f cdv)) →
      ∃ t T, DSs (cxOf CX0 P w K mg base N qual (defScope st) f cdv A outer s H E).nox B (defBody st) t T ∧ ∀ ds μ Q EE, S ds μ Q EE → T { nx := fun _ μ' => Fg (Q .non) μ', rt := fun d μ' => Fg (Q d) μ' } (startD N ds) μ) : FnOk P w K mg base CX0 (k + 1) f fd ps (toSp K S) :=
  F.ok SC (fun vs H Q E ⟨G, ds, μ, QQ, EE, _, r, s, _⟩ => r.1.trans (len ds μ QQ EE s)) fun cdv A outer s H vs Q E hr ⟨G, ds, μ, QQ, EE, hh, r, sp, q, _⟩ => by
    obtain ⟨t, T, h, b⟩ := hb G cdv A outer s H E hr
    refine ⟨t, h.pss, h.ref (startD N ds) μ (start N vs) H G _ _ ⟨hh, envr_start N r (Gle.refl G)⟩ (b ds μ QQ EE sp) ⟨?_, ?_, ?_, ?_⟩⟩
    · exact fun ρ' μ' σ' H' G' g S' ⟨μ0, s0, z⟩ => q .non μ0 .non H' G' g (S'.hold.sub s0) .non z
    · exact fun d μ' v H' G' g S' rv ⟨μ0, s0, z⟩ => q d μ0 v H' G' g (S'.sub s0) rv z
    · exact fun _ _ _ _ _ _ _ z => z.elim
    · exact fun _ _ _ _ _ _ _ z => z.elim
end
/-- the law's promise -/
def spLaw : DSp := fun ds μ Q _ => ∃ ns, ds = [.scr ns] ∧ ns.length ≤ 63 ∧ ∀ μ', Q (.bl true) μ'
def g0 (H : Hp) : Gh := ⟨H, [], []⟩
theorem hold0 (K : PySem.W.Frag) (H : Hp) : Hold K (g0 H) (fun _ => none) H := ⟨Ext.refl _, (fun _ _ h => by cases h), (fun _ h => by cases h), (fun _ h => by cases h)⟩
theorem spLaw_of {K : PySem.W.Frag} {H : Hp} {a : Addr} {ns : List Int} {Q : VK} {E : XK} (h : SqL K H a (ns.map V.int)) (l : ns.length ≤ 63) (q : ∀ H', Q (.bl true) H') : toSp K spLaw [.ref a] H Q E :=
  ⟨g0 H, [.scr ns], _, fun d _ => d = .bl true, noX, hold0 K H, Reps.one (.scr h), ⟨ns, rfl, l, fun _ => rfl⟩, fun d μ' v H' G' _ _ r e => by
    subst e
    rw [r.ofBl]; exact q H', fun _ _ _ _ _ _ _ _ _ z => z.elim⟩
theorem walk {l : PySem.W.OpenLaw} {q : Program} {loose : List Str} {XP : (Str → Option Value) → Heap → Prop} {YP : World → Heap → Prop} {d : DefRec} {K : Params → PySem.W.Frag} {k : Nat} (hr : Room k callerA) (hn : l.most = some 63) (hdf : d.params.defaults = [])
    (hY : ∀ (w : World) (h : Heap), YP w h → (K w.params).In h)
    (F : ∀ (w : World) (mg : Str → Option Value) (fa : Addr) (h : Heap), (K w.params).In h → h.Ns mainGlobals mg → mg d.name = some (.ref fa) →
      ∃ fd : FuncData, (∀ (s : Shared) (u : Value), BindsTo s fd ⟨[u], []⟩ [("script", u)]) ∧ ∀ base : Heap, (K w.params).In base → base.Ns mainGlobals mg → FnOk l.prog w (K w.params) mg base CX0 k fa fd ["script"] (toSp (K w.params) spLaw)) :
    PySem.W.WalkO q loose XP YP l.row.toRowW d [] (fun f vs => PySem.call f vs) :=
  L2.walk_of (n := 63) (k := k) (x := "script") (CX := fun _ => CX0) (sp := fun w => toSp (K w.params) spLaw) hn (by decide) hdf hr hY F (fun _ _ a ns hl _ hS => spLaw_of hS hl fun _ => rfl) fun _ _ _ _ _ z => z
end DL

/-! DL6: dicts, join, insert, truth, isinstance. -/
namespace DL
open PySem PySem.Spec PyProof.Rows L2

/-! ### dicts -/
def keyD : D → Option Key
  | .int i => some (.inl i)
  | .str s => some (.inr s)
  | _ => none
def unkey : Key → D
  | .inl i => .int i
  | .inr s => .str s
@[simp] theorem unkey_l {i : Int} : unkey (.inl i) = .int i := rfl
@[simp] theorem unkey_r {i : Str} : unkey (.inr i) = .str i := rfl
@[simp] theorem keyD_int {i : Int} : keyD (.int i) = some (.inl i) := rfl
@[simp] theorem keyD_str {i : Str} : keyD (.str i) = some (.inr i) := rfl
theorem rep_key {K : PySem.W.Frag} {G : Gh} {v : V} {d : D} {k : Key} (r : Rep K G v d) (h : keyD d = some k) : v = kV k := by
  cases d with
  | int i => cases h; exact r.ofInt
  | str s => cases h; exact r.ofStr
  | _ => cases h
theorem rep_unkey {K : PySem.W.Frag} {G : Gh} (k : Key) : Rep K G (kV k) (unkey k) := by
  cases k with
  | inl i => exact .int i
  | inr s => exact .str s
def valD {κ : Type} [DecidableEq κ] (kvs : List (κ × D)) (k : κ) : Option D := (kvs.find? fun kv => decide (kv.1 = k)).map (·.2)
def putD {κ : Type} [DecidableEq κ] (kvs : List (κ × D)) (k : κ) (d : D) : List (κ × D) :=
  if (kvs.any fun kv => decide (kv.1 = k)) = true then kvs.map (fun kv => if kv.1 = k then (kv.1, d) else kv) else kvs ++ [(k, d)]
section
variable {κ : Type} [DecidableEq κ] {K : PySem.W.Frag} {G : Gh}
theorem FReps.cons_inv {kv : List (κ × V)} {k : κ} {d : D} {ds : List (κ × D)} (h : FReps K G kv ((k, d) :: ds)) : ∃ v r, kv = (k, v) :: r ∧ Rep K G v d ∧ FReps K G r ds := by
  obtain ⟨h1, h2⟩ := h
  cases kv with
  | nil => simp at h1
  | cons p r =>
    obtain ⟨k', v⟩ := p
    simp at h1
    obtain ⟨rfl, h1⟩ := h1
    obtain ⟨v', w, e, a, b⟩ := h2.cons_inv
    simp at e
    obtain ⟨rfl, rfl⟩ := e
    exact ⟨v, r, rfl, a, h1, b⟩
theorem FReps.nil_inv {kv : List (κ × V)} (h : FReps K G kv ([] : List (κ × D))) : kv = [] := by
  have := h.1
  simpa using this
theorem FReps.nil : FReps K G ([] : List (κ × V)) ([] : List (κ × D)) := ⟨rfl, Reps.nil⟩
theorem FReps.cons {k : κ} {v : V} {d : D} {kv : List (κ × V)} {ds : List (κ × D)} (r : Rep K G v d) (h : FReps K G kv ds) : FReps K G ((k, v) :: kv) ((k, d) :: ds) := ⟨by simp [h.1], Reps.cons r h.2⟩
theorem FReps.append {kv kw : List (κ × V)} {ds es : List (κ × D)} (h : FReps K G kv ds) (g : FReps K G kw es) : FReps K G (kv ++ kw) (ds ++ es) := ⟨by simp [h.1, g.1], by rw [List.map_append, List.map_append]; exact h.2.append g.2⟩
theorem FReps.len {kv : List (κ × V)} {ds : List (κ × D)} (h : FReps K G kv ds) : kv.length = ds.length := by simpa using congrArg List.length h.1
theorem FReps.val {ds : List (κ × D)} (k : κ) : ∀ {kv : List (κ × V)}, FReps K G kv ds → (∀ d, valD ds k = some d → ∃ v, valV kv k = some v ∧ Rep K G v d) ∧ (valD ds k = none → valV kv k = none) := by
  induction ds with
  | nil => intro kv h; rw [h.nil_inv]; exact ⟨fun d e => by simp [valD] at e, fun _ => rfl⟩
  | cons p ds ih =>
    intro kv h
    obtain ⟨k', d⟩ := p
    obtain ⟨v, r, rfl, a, b⟩ := h.cons_inv
    by_cases e : k' = k
    · subst e
      refine ⟨fun d' q => ?_, fun q => ?_⟩
      · simp [valD] at q; subst q; exact ⟨v, by simp [valV], a⟩
      · simp [valD] at q
    · have e1 : valD ((k', d) :: ds) k = valD ds k := by simp [valD, List.find?_cons, e]
      have e2 : valV ((k', v) :: r) k = valV r k := by simp [valV, List.find?_cons, e]
      rw [e1, e2]
      exact ih b
theorem FReps.any {ds : List (κ × D)} (k : κ) : ∀ {kv : List (κ × V)}, FReps K G kv ds → (kv.any fun kv => decide (kv.1 = k)) = (ds.any fun kv => decide (kv.1 = k)) := by
  induction ds with
  | nil => intro kv h; rw [h.nil_inv]; rfl
  | cons p ds ih =>
    intro kv h
    obtain ⟨k', d⟩ := p
    obtain ⟨v, r, rfl, a, b⟩ := h.cons_inv
    simp only [List.any_cons, ih b]
theorem FReps.mapPut {ds : List (κ × D)} {v : V} {d : D} (k : κ) (r : Rep K G v d) : ∀ {kv : List (κ × V)}, FReps K G kv ds → FReps K G (kv.map (fun kv => if kv.1 = k then (kv.1, v) else kv)) (ds.map (fun kv => if kv.1 = k then (kv.1, d) else kv)) := by
  induction ds with
  | nil => intro kv h; rw [h.nil_inv]; exact FReps.nil
  | cons p ds ih =>
    intro kv h
    obtain ⟨k', d'⟩ := p
    obtain ⟨v', kr, rfl, a, b⟩ := h.cons_inv
    by_cases e : k' = k
    · subst e
      simp only [List.map_cons, if_true]
      exact FReps.cons r (ih b)
    · simp only [List.map_cons, if_neg e]
      exact FReps.cons a (ih b)
theorem FReps.put {ds : List (κ × D)} {kv : List (κ × V)} {v : V} {d : D} (h : FReps K G kv ds) (k : κ) (r : Rep K G v d) : FReps K G (putK kv k v) (putD ds k d) := by
  unfold putK putD
  rw [h.any k]
  split
  · exact FReps.mapPut k r h
  · exact h.append (FReps.cons r FReps.nil)
end
section
variable {X : Cx} {pos : Pos}
/-- d[k] -/
@[simp] def dDGet (Td Tk : TDE) : TDE := fun ρ μ Q => Td ρ μ fun x μ1 => Tk ρ μ1 fun y μ2 => ∃ kvs k d, vw μ2 x = .dic kvs ∧ keyD y = some k ∧ valD kvs k = some d ∧ Q d μ2
theorem de_dget {k : Nat} (hr : Room k X.A) {o i : Expr} {td tk : TE} {Td Tk : TDE} (ho : DE X B o td Td) (hi : DE X B i tk Tk) (hs : NoSl i := by exact fun _ _ => rfl) : DE X B (.Subscript o i pos) (tDGet td tk) (dDGet Td Tk) :=
  ⟨pe_dget (hu_of hr) ho.pe hi.pe hs, fun ρ μ σ H G Q Qn S h hd => ho.ref ρ μ σ H G _ _ S h fun x μ1 v H1 G1 g1 S1 r1 q1 => hi.ref ρ μ1 σ H1 G1 _ _ S1 q1 fun y μ2 w H2 G2 g2 S2 r2 ⟨kvs, k, d, e1, e2, e3, q2⟩ => by
    obtain ⟨a, vs, rfl, h1, rr⟩ := S2.hold.dic (r1.mono g2) e1
    obtain ⟨u, eu, ru⟩ := (rr.val k).1 d e3
    exact ⟨a, u, rfl, .inl ⟨vs, k, h1, rep_key r2 e2, eu.symm⟩, (hd.mono (g1.trans g2)).now S2 ru q2⟩⟩
/-- k in d -/
@[simp] def dDIn (neg : Bool) (Tk Td : TDE) : TDE := fun ρ μ Q => Tk ρ μ fun y μ1 => Td ρ μ1 fun x μ2 => ∃ kvs k, vw μ2 x = .dic kvs ∧ keyD y = some k ∧ Q (.bl (neg ^^ (valD kvs k).isSome)) μ2
theorem dic_get {K : PySem.W.Frag} {G : Gh} {H : Hp} {a : Addr} {vs : List (Key × V)} {kvs : List (Key × D)} {k : Key} {v : V} (h1 : Rd H a (.dK vs)) (rr : FReps K G vs kvs) (e : v = kV k) : ∃ o, DGet H a v o ∧ o.isSome = (valD kvs k).isSome := by
  refine ⟨valV vs k, .inl ⟨vs, k, h1, e, rfl⟩, ?_⟩
  cases q : valD kvs k with
  | none => rw [(rr.val k).2 q]; rfl
  | some d => obtain ⟨u, eu, _⟩ := (rr.val k).1 d q; rw [eu]; rfl
theorem de_din {k : Nat} (hr : Room k X.A) {o i : Expr} {td tk : TE} {Td Tk : TDE} (hi : DE X B i tk Tk) (ho : DE X B o td Td) (hm : behindInMarks .In o = false := by rfl) : DE X B (.Compare i [.In] [o] pos) (tDIn tk td) (dDIn false Tk Td) :=
  ⟨pe_cmp (pc_din (hu_of hr) hi.pe ho.pe) hm, fun ρ μ σ H G Q Qn S h hd => hi.ref ρ μ σ H G _ _ S h fun y μ1 w H1 G1 g1 S1 r1 q1 => ho.ref ρ μ1 σ H1 G1 _ _ S1 q1 fun x μ2 v H2 G2 g2 S2 r2 ⟨kvs, k, e1, e2, q2⟩ => by
    obtain ⟨a, vs, rfl, h1, rr⟩ := S2.hold.dic r2 e1
    obtain ⟨ov, g, es⟩ := dic_get h1 rr (rep_key (r1.mono g2) e2)
    exact ⟨a, ov, rfl, g, (hd.mono (g1.trans g2)).now S2 (.bl _) (by rw [es]; simpa using q2)⟩⟩
theorem de_dnin {k : Nat} (hr : Room k X.A) {o i : Expr} {td tk : TE} {Td Tk : TDE} (hi : DE X B i tk Tk) (ho : DE X B o td Td) (hm : behindInMarks .NotIn o = false := by rfl) : DE X B (.Compare i [.NotIn] [o] pos) (tDNotIn tk td) (dDIn true Tk Td) :=
  ⟨pe_cmp (pc_dnotin (hu_of hr) hi.pe ho.pe) hm, fun ρ μ σ H G Q Qn S h hd => hi.ref ρ μ σ H G _ _ S h fun y μ1 w H1 G1 g1 S1 r1 q1 => ho.ref ρ μ1 σ H1 G1 _ _ S1 q1 fun x μ2 v H2 G2 g2 S2 r2 ⟨kvs, k, e1, e2, q2⟩ => by
    obtain ⟨a, vs, rfl, h1, rr⟩ := S2.hold.dic r2 e1
    obtain ⟨ov, g, es⟩ := dic_get h1 rr (rep_key (r1.mono g2) e2)
    exact ⟨a, ov, rfl, g, (hd.mono (g1.trans g2)).now S2 (.bl _) (by rw [es]; simpa using q2)⟩⟩
theorem dt_din {k : Nat} (hr : Room k X.A) {o i : Expr} {td tk : TE} {Td Tk : TDE} (hi : DE X B i tk Tk) (ho : DE X B o td Td) (hm : behindInMarks .In o = false := by rfl) : DT X B (.Compare i [.In] [o] pos) (tB (tDIn tk td)) (dB (dDIn false Tk Td)) := ⟨pt_cmp (pc_din (hu_of hr) hi.pe ho.pe) hm, ref_B (de_din (pos := pos) hr hi ho hm).ref⟩
theorem dt_dnin {k : Nat} (hr : Room k X.A) {o i : Expr} {td tk : TE} {Td Tk : TDE} (hi : DE X B i tk Tk) (ho : DE X B o td Td) (hm : behindInMarks .NotIn o = false := by rfl) : DT X B (.Compare i [.NotIn] [o] pos) (tB (tDNotIn tk td)) (dB (dDIn true Tk Td)) := ⟨pt_cmp (pc_dnotin (hu_of hr) hi.pe ho.pe) hm, ref_B (de_dnin (pos := pos) hr hi ho hm).ref⟩
/-- d[k] = v, a cell -/
@[simp] def dsDPut (Td Tk Tv : TDE) : TDS := fun E ρ μ => Tv ρ μ fun v μ1 => Td ρ μ1 fun x μ2 => Tk ρ μ2 fun y μ3 => ∃ a kvs k, x = .ptr a ∧ μ3 a = some (.dic kvs) ∧ keyD y = some k ∧ kvs.length < sizeLine ∧ E.nx ρ (mup μ3 a (.dic (putD kvs k v)))
theorem ds_dput {k : Nat} (hr : Room k X.A) {o i value : Expr} {td tk tv : TE} {Td Tk Tv : TDE} {pos' : Pos} (ho : DE X B o td Td) (hi : DE X B i tk Tk) (hv : DE X B value tv Tv) (hs : swapsWith value (some (.Subscript o i pos')) pos.line X.env = pure false := by rfl) :
    DS X B (.Assign [.Subscript o i pos'] value pos) (sDPut td tk tv) (dsDPut Td Tk Tv) :=
  ⟨ps_dput (hu_of hr) ho.pe hi.pe hv.pe hs, fun ρ μ σ H G E Dn S h hd => hv.ref ρ μ σ H G _ _ S h fun dv μ1 v H1 G1 g1 S1 r1 q1 => ho.ref ρ μ1 σ H1 G1 _ _ S1 q1 fun x μ2 xv H2 G2 g2 S2 r2 q2 => hi.ref ρ μ2 σ H2 G2 _ _ S2 q2 fun y μ3 yv H3 G3 g3 S3 r3 ⟨a, kvs, k, e1, e2, e3, l, q3⟩ => by
    subst e1
    cases r2
    obtain ⟨_, o, y, z⟩ := S3.hold.cell a _ e2
    obtain ⟨vs, rfl, z2⟩ := cellR_dic z
    refine ⟨a, _, rfl, .inl ⟨vs, k, y, rep_key r3 e3, by rw [z2.len]; exact l, rfl⟩, ?_⟩
    exact hd.nx ρ _ σ _ G3 ((g1.trans g2).trans g3) (S3.cellSet e2 (show CellR X.K G3 (.dK (putK vs k v)) (.dic (putD kvs k dv)) from z2.put k (r1.mono (g2.trans g3)))) q3⟩
/-- {k: v, ..}: c a cell -/
def mkDc (c : Bool) (kvs : List (Key × D)) (μ : Mu) (Q : QD) : Prop := match c with
  | true => ∀ a, μ a = none → Q (.ptr a) (mup μ a (.dic kvs))
  | false => Q (.dic kvs) μ
@[simp] theorem mkDc_t {kvs : List (Key × D)} {μ : Mu} {Q : QD} : mkDc true kvs μ Q = ∀ a, μ a = none → Q (.ptr a) (mup μ a (.dic kvs)) := rfl
@[simp] theorem mkDc_f {kvs : List (Key × D)} {μ : Mu} {Q : QD} : mkDc false kvs μ Q = Q (.dic kvs) μ := rfl
theorem mkDc_go {K : PySem.W.Frag} {c : Bool} {xs : List (Key × D)} {μ : Mu} {Q : QD} {ρ : DR} {σ : St} {H : Hp} {G : Gh} {vs : List (Key × V)} {Qn : VK} {p : Addr} (h : mkDc c xs μ Q) (S : Sat K B G ρ μ σ H) (r : FReps K G vs xs) (hd : Hand K B G ρ σ Q Qn) (n : H p = none) : Qn (.ref p) (upd H p (.dK vs)) := by
  cases c with
  | true => exact hd (.ptr p) _ _ _ G (Gle.refl G) (S.cellNew n (show CellR K G (.dK vs) (.dic xs) from r)) (.ptr p) (h p (S.hold.free n).2.1)
  | false => exact dic_go h S r hd n
@[simp] def dDNew (c : Bool) : TDE := fun _ μ Q => mkDc c [] μ Q
theorem de_dnew (c : Bool) : DE X B (.Dict [] [] pos) tDNewK (dDNew c) := ⟨pe_dnewK, fun ρ μ σ H G Q Qn S h hd p n => mkDc_go h S FReps.nil hd n⟩
/-- the pairs: written keys and values that only read (constants, names) -/
@[simp] def dPairs : List (TDE × TDE) → DR → Mu → (List (D × D) → Mu → Prop) → Prop
  | [], _, μ, Q => Q [] μ
  | (tk, tv) :: r, ρ, μ, Q => tk ρ μ fun x μ1 => tv ρ μ1 fun y μ2 => dPairs r ρ μ2 fun ps μ3 => Q ((x, y) :: ps) μ3
structure DPs (X : Cx) (B : Gh) (pos : Pos) (keys : List (Option Expr)) (values : List Expr) (trs : List (TE × TE)) (Trs : List (TDE × TDE)) : Prop where
  pps : PPs X pos keys values trs
  ref : ∀ ρ μ σ H G (Q : List (D × D) → Mu → Prop) (Qn : List (V × V) → Hp → Prop), Sat X.K B G ρ μ σ H → dPairs Trs ρ μ Q →
    (∀ ps μ' vs H' G', Gle G G' → Sat X.K B G' ρ μ' σ H' → Reps X.K G' (vs.map (·.1)) (ps.map (·.1)) → Reps X.K G' (vs.map (·.2)) (ps.map (·.2)) → Q ps μ' → Qn vs H') → tPairs trs σ H Qn
theorem dps_nil : DPs X B pos [] [] [] [] := ⟨pps_nil, fun ρ μ σ H G Q Qn S h hd => hd [] μ [] H G (Gle.refl G) S Reps.nil Reps.nil h⟩
theorem dps_cons {k v : Expr} {ks : List (Option Expr)} {vs : List Expr} {tk tv : TE} {trs : List (TE × TE)} {Tk Tv : TDE} {Trs : List (TDE × TDE)} (hk : DE X B k tk Tk) (hv : DE X B v tv Tv) (hr : DPs X B pos ks vs trs Trs) : DPs X B pos (some k :: ks) (v :: vs) ((tk, tv) :: trs) ((Tk, Tv) :: Trs) :=
  ⟨pps_cons hk.pe hv.pe hr.pps, fun ρ μ σ H G Q Qn S h hd => hk.ref ρ μ σ H G _ _ S h fun x μ1 xv H1 G1 g1 S1 r1 q1 => hv.ref ρ μ1 σ H1 G1 _ _ S1 q1 fun y μ2 yv H2 G2 g2 S2 r2 q2 => hr.ref ρ μ2 σ H2 G2 _ _ S2 q2 fun ps μ3 ws H3 G3 g3 S3 r3 r4 q3 =>
    hd ((x, y) :: ps) μ3 ((xv, yv) :: ws) H3 G3 ((g1.trans g2).trans g3) S3 (Reps.cons (r1.mono (g2.trans g3)) r3) (Reps.cons (r2.mono g3) r4) q3⟩
@[simp] def keysD : List (D × D) → Option (List (Key × D))
  | [] => some []
  | (k, d) :: r => match keyD k, keysD r with
    | some k', some r' => some ((k', d) :: r')
    | _, _ => none
def mergeD (more : List (Key × D)) : List (Key × D) := more.foldl (fun acc kv => putD acc kv.1 kv.2) []
@[simp] def dDisp (c : Bool) (Trs : List (TDE × TDE)) : TDE := fun ρ μ Q => ∀ p, μ p = none → dPairs Trs ρ (mup μ p (.dic [])) fun ps μ2 => μ2 p = some (.dic []) ∧ ∃ kvs, keysD ps = some kvs ∧ kvs.length ≤ 15 ∧ (match c with
  | true => Q (.ptr p) (mup μ2 p (.dic (mergeD kvs)))
  | false => Q (.dic (mergeD kvs)) (mdel μ2 p))
theorem keys_go {K : PySem.W.Frag} {G : Gh} : ∀ {ps : List (D × D)} {kvs : List (Key × D)} {vs : List (V × V)}, keysD ps = some kvs → Reps K G (vs.map (·.1)) (ps.map (·.1)) → Reps K G (vs.map (·.2)) (ps.map (·.2)) → ∃ ws : List (Key × V), vs = ws.map (fun kv => (kV kv.1, kv.2)) ∧ FReps K G ws kvs
  | [], kvs, vs, h, r1, _ => by
    cases h
    have : vs = [] := by simpa using r1.nil_inv
    subst this
    exact ⟨[], rfl, FReps.nil⟩
  | (k, d) :: ps, kvs, vs, h, r1, r2 => by
    rw [keysD] at h
    cases q1 : keyD k with
    | none => simp [q1] at h
    | some k' =>
      cases q2 : keysD ps with
      | none => simp [q1, q2] at h
      | some r' =>
        simp [q1, q2] at h
        subst h
        cases vs with
        | nil => have := r1.1; simp at this
        | cons p vs =>
          obtain ⟨v1, w1, e1, a1, b1⟩ := r1.cons_inv
          obtain ⟨v2, w2, e2, a2, b2⟩ := r2.cons_inv
          simp at e1 e2
          obtain ⟨rfl, rfl⟩ := e1
          obtain ⟨rfl, rfl⟩ := e2
          obtain ⟨ws, e, rr⟩ := keys_go q2 b1 b2
          refine ⟨(k', p.2) :: ws, ?_, FReps.cons a2 rr⟩
          rw [List.map_cons, ← e, ← rep_key a1 q1]
theorem merge_go {K : PySem.W.Frag} {G : Gh} {ws : List (Key × V)} {kvs : List (Key × D)} (h : FReps K G ws kvs) : FReps K G (mergeK [] ws) (mergeD kvs) := by
  unfold mergeK mergeD
  have aux : ∀ (kvs : List (Key × D)) (ws : List (Key × V)) (a : List (Key × V)) (b : List (Key × D)), FReps K G ws kvs → FReps K G a b → FReps K G (ws.foldl (fun acc kv => putK acc kv.1 kv.2) a) (kvs.foldl (fun acc kv => putD acc kv.1 kv.2) b) := by
    intro kvs
    induction kvs with
    | nil => intro ws a b h h2; rw [h.nil_inv]; exact h2
    | cons p kvs ih =>
      intro ws a b h h2
      obtain ⟨k, d⟩ := p
      obtain ⟨v, r, rfl, x, y⟩ := h.cons_inv
      exact ih r _ _ y (h2.put k x)
  exact aux kvs ws [] [] h FReps.nil
theorem de_disp (c : Bool) {keys : List (Option Expr)} {values : List Expr} {trs : List (TE × TE)} {Trs : List (TDE × TDE)} (h : DPs X B pos keys values trs Trs) (hall : keys.all (·.isSome) = true := by rfl) (hl : keys.length = values.length := by rfl) (h0 : keys ≠ [] := by exact fun z => nomatch z)
    (h15 : keys.length ≤ 15 := by decide) : DE X B (.Dict keys values pos) (tDisp trs) (dDisp c Trs) :=
  ⟨pe_disp h.pps hall hl h0 h15, fun ρ μ σ H G Q Qn S q hd p n => by
    refine h.ref ρ _ σ _ G _ _ (S.cellNew n (show CellR X.K G (.dK []) (.dic []) from FReps.nil)) (q p (S.hold.free n).2.1) fun ps μ2 vs H2 G2 g2 S2 r1 r2 ⟨e, kvs, ek, l, q2⟩ => ?_
    obtain ⟨f1, o, y, z⟩ := S2.hold.cell p _ e
    obtain ⟨ws0, rfl, z2⟩ := cellR_dic z
    obtain rfl := z2.nil_inv
    obtain ⟨ws, rfl, rr⟩ := keys_go ek r1 r2
    refine ⟨y, ws, rfl, by rw [rr.len]; exact l, ?_⟩
    have rm := merge_go rr
    have S3 := S2.cellSet e (show CellR X.K G2 (.dK (mergeK [] ws)) (.dic (mergeD kvs)) from rm)
    cases c with
    | true => exact (hd.mono g2).now S3 (.ptr p) q2
    | false =>
      have e3 : (mup μ2 p (.dic (mergeD kvs))) p = some (.dic (mergeD kvs)) := mup_same
      have g : Gle G2 (G2.frz p (.dK (mergeK [] ws))) := Gle.frz f1
      have ed : mdel (mup μ2 p (.dic (mergeD kvs))) p = mdel μ2 p := by
        funext b; unfold mdel mup; split <;> simp_all
      have hf := S3.hold.freeze e3 upd_same
      rw [ed] at hf
      exact hd _ _ _ _ _ (g2.trans g) ⟨hf, S3.env.mono g⟩ (.dic (show upd G2.fr p _ p = _ from upd_same) rm.1 fun j v d x y => (rm.2.2 j v d x y).mono g) q2⟩

/-! ### for k in d: d a cell, locked while the loop runs -/
@[simp] def lockE (E : DEnds) (a : Addr) (kvs : List (Key × D)) (od : Obj) (vs : List (Key × V)) : DEnds :=
  { nx := fun ρ' μ' => μ' a = some (.dicL od vs kvs) ∧ E.nx ρ' (mup μ' a (.dic kvs)), rt := fun d μ' => μ' a = some (.dicL od vs kvs) ∧ E.rt d (mup μ' a (.dic kvs)), bk := fun ρ' μ' => μ' a = some (.dicL od vs kvs) ∧ E.bk ρ' (mup μ' a (.dic kvs)), ct := fun ρ' μ' => μ' a = some (.dicL od vs kvs) ∧ E.ct ρ' (mup μ' a (.dic kvs)) }
@[simp] def dLock (i : Nat) (T : TDS) : TDS := fun E ρ μ => match ρ[i]? with
  | some (some (.ptr a)) => match μ a with
    | some (.dic kvs) => ∀ od vs, T (lockE E a kvs od vs) ρ (mup μ a (.dicL od vs kvs))
    | _ => False
  | _ => False
theorem unlock_go {K : PySem.W.Frag} {G : Gh} {μ : Mu} {H : Hp} {a : Addr} {kvs : List (Key × D)} {od : Obj} {vs : List (Key × V)} (S : Hold K G μ H) (e : μ a = some (.dicL od vs kvs)) : H a = some (.frz od (.dK vs)) ∧ Hold K G (mup μ a (.dic kvs)) (upd H a (.dK vs)) := by
  obtain ⟨_, o, y, z⟩ := S.cell a _ e
  obtain ⟨rfl, z2⟩ := cellR_dicL z
  exact ⟨y, S.cellSet e (show CellR K G (.dK vs) (.dic kvs) from z2)⟩
theorem ds_lock (i : Nat) {st : Stmt} {t : TS} {T : TDS} (h : DS X B st t T) : DS X B st (tLock t) (dLock i T) := ⟨ps_lock h.ps, fun ρ μ σ H G E Dn S q hd => by
  unfold dLock at q
  split at q
  · next a e =>
    split at q
    · next kvs e2 =>
      obtain ⟨v, ev, rv⟩ := S.env.2 i _ e
      cases rv
      obtain ⟨_, o, y, z⟩ := S.hold.cell a _ e2
      obtain ⟨vs, rfl, z2⟩ := cellR_dic z
      refine ⟨a, _, y, trivial, fun od => ?_⟩
      refine h.ref ρ _ σ _ G _ _ (S.cellSet e2 (show CellR X.K G (.frz od (.dK vs)) (.dicL od vs kvs) from ⟨rfl, rfl, z2⟩)) (q od vs) ⟨?_, ?_, ?_, ?_⟩
      · rintro ρ' μ' σ' H' G' g S' ⟨e3, q'⟩
        obtain ⟨h1, h2⟩ := unlock_go S'.hold e3
        exact ⟨h1, hd.nx ρ' _ σ' _ G' g ⟨h2, S'.env⟩ q'⟩
      · rintro d μ' v H' G' g S' rv ⟨e3, q'⟩
        obtain ⟨h1, h2⟩ := unlock_go S' e3
        exact ⟨h1, hd.rt d _ v _ G' g h2 rv q'⟩
      · rintro ρ' μ' σ' H' G' g S' ⟨e3, q'⟩
        obtain ⟨h1, h2⟩ := unlock_go S'.hold e3
        exact ⟨h1, hd.bk ρ' _ σ' _ G' g ⟨h2, S'.env⟩ q'⟩
      · rintro ρ' μ' σ' H' G' g S' ⟨e3, q'⟩
        obtain ⟨h1, h2⟩ := unlock_go S'.hold e3
        exact ⟨h1, hd.ct ρ' _ σ' _ G' g ⟨h2, S'.env⟩ q'⟩
    · exact q.elim
  · exact q.elim⟩
/-! a walk that leans on the store: Kp holds at each turn -/
abbrev TDIK := DR → Mu → (List D → (Mu → Prop) → Mu → Prop) → Prop
def loopK (g : TDG) (T : TDS) (E : DEnds) (Kp : Mu → Prop) : List D → DR → Mu → Prop
  | [], ρ, μ => Kp μ ∧ E.nx ρ μ
  | x :: r, ρ, μ => Kp μ ∧ g x ρ μ fun ρ2 μ2 => T { E with nx := loopK g T E Kp r, ct := loopK g T E Kp r, bk := E.nx } ρ2 μ2
theorem loopK_kp {g : TDG} {T : TDS} {E : DEnds} {Kp : Mu → Prop} {xs : List D} {ρ : DR} {μ : Mu} (h : loopK g T E Kp xs ρ μ) : Kp μ := by
  cases xs with
  | nil => exact h.1
  | cons x r => exact h.1
@[simp] def dForK (I : TDIK) (g : TDG) (T : TDS) : TDS := fun E ρ μ => I ρ μ fun xs Kp μ1 => loopK g T E Kp xs ρ μ1
def RefIK (K : PySem.W.Frag) (B : Gh) (I : TDIK) (i : TI) : Prop := ∀ ρ μ σ H G (Q : List D → (Mu → Prop) → Mu → Prop) (R : It → Hp → Prop), Sat K B G ρ μ σ H → I ρ μ Q →
  (∀ xs Kp μ1 J H1 G1, Gle G G1 → Sat K B G1 ρ μ1 σ H1 → Q xs Kp μ1 →
    (∀ n H' G' μ', Gle G1 G' → Hold K G' μ' H' → Kp μ' → (n < xs.length → J.go n H') ∧ (xs.length ≤ n → J.stop n H')) →
    (∀ n x v H' H2 G' μ', Gle G1 G' → Hold K G' μ' H' → Kp μ' → xs[n]? = some x → J.yld n H' v H2 → ∃ G2, Gle G' G2 ∧ Hold K G2 μ' H2 ∧ Rep K G2 v x) → R J H1) → i σ H R
theorem ref_forK {K : PySem.W.Frag} {I : TDIK} {i : TI} {g : TDG} {gn : TG} {T : TDS} {t : TS} (hi : RefIK K B I i) (hg : RefG K B g gn) (ht : RefS K B T t) : RefS K B (dForK I g T) (tFor i gn t) := fun ρ μ σ H G E Dn S h hd => by
  refine hi ρ μ σ H G _ _ S h fun xs Kp μ1 J H1 G1 g1 S1 q1 hgo hy => ?_
  refine ⟨fun n m σ' H' => m = xs.length - n ∧ n ≤ xs.length ∧ ∃ G' ρ' μ', Gle G1 G' ∧ Sat K B G' ρ' μ' σ' H' ∧ loopK g T E Kp (xs.drop n) ρ' μ', ⟨xs.length, by simp, Nat.zero_le _, G1, ρ, μ1, Gle.refl _, S1, by simpa using q1⟩, ?_⟩
  rintro n m σ' H' ⟨rfl, hn, G', ρ', μ', g2, S2, q2⟩
  have kp := loopK_kp q2
  by_cases hlt : n < xs.length
  · refine .inr ⟨(hgo n H' G' μ' g2 S2.hold kp).1 hlt, fun σ3 H3 => ∃ G3 ρ3 μ3, Gle G1 G3 ∧ Sat K B G3 ρ3 μ3 σ3 H3 ∧ loopK g T E Kp (xs.drop (n + 1)) ρ3 μ3, ?_, ?_⟩
    · rintro σ3 H3 ⟨G3, ρ3, μ3, g3, S3, q3⟩
      exact ⟨xs.length - (n + 1), by omega, rfl, hlt, G3, ρ3, μ3, g3, S3, q3⟩
    · intro v H2 yv
      obtain ⟨G2, g3, h2, rv⟩ := hy n xs[n] v H' H2 G' μ' g2 S2.hold kp (List.getElem?_eq_getElem hlt) yv
      rw [List.drop_eq_getElem_cons hlt] at q2
      have S3 : Sat K B G2 ρ' μ' σ' H2 := ⟨h2, S2.env.mono g3⟩
      refine hg xs[n] v ρ' μ' σ' H2 G2 _ _ S3 rv q2.2 fun ρ4 μ4 σ4 H4 G4 g4 S4 q4 => ?_
      refine ht ρ4 μ4 σ4 H4 G4 _ _ S4 q4 ⟨?_, ?_, ?_, ?_⟩
      · exact fun ρ5 μ5 σ5 H5 G5 g5 S5 q5 => ⟨G5, ρ5, μ5, ((g2.trans g3).trans g4).trans g5, S5, q5⟩
      · exact fun d μ5 v5 H5 G5 g5 S5 r5 q5 => hd.rt d μ5 v5 H5 G5 ((((g1.trans g2).trans g3).trans g4).trans g5) S5 r5 q5
      · exact fun ρ5 μ5 σ5 H5 G5 g5 S5 q5 => hd.nx ρ5 μ5 σ5 H5 G5 ((((g1.trans g2).trans g3).trans g4).trans g5) S5 q5
      · exact fun ρ5 μ5 σ5 H5 G5 g5 S5 q5 => ⟨G5, ρ5, μ5, ((g2.trans g3).trans g4).trans g5, S5, q5⟩
  · have e : n = xs.length := by omega
    subst e
    rw [List.drop_length] at q2
    exact .inl ⟨(hgo _ H' G' μ' g2 S2.hold kp).2 (Nat.le_refl _), hd.nx ρ' μ' σ' H' G' (g1.trans g2) S2 q2.2⟩
structure DIK (X : Cx) (B : Gh) (tg e : Expr) (i : TI) (I : TDIK) : Prop where
  pi : PI X tg e i
  ref : RefIK X.K B I i
theorem ds_forK {tg iter : Expr} {body : List Stmt} {i : TI} {I : TDIK} {g : TG} {U : TDG} {t : TS} {T : TDS} (hp : PassesOwn (model X.prog X.w) X.A X.env X.xe) (hc : X.calm = true) (hi : DIK X B tg iter i I) (hg : DG X B tg g U) (hb : DSs X B body t T)
    (hs : ∀ x, foldedSetIterable iter X.env x = pure x := by intro _; rfl) : DS X B (.For tg iter body [] pos) (tFor i g t) (dForK I U T) := ⟨ps_for hp hc hi.pi hg.pg hb.pss hs, ref_forK hi.ref hg.ref hb.ref⟩
/-- the keys of a locked cell -/
@[simp] def iKey (T : TDE) : TDIK := fun ρ μ Q => T ρ μ fun d μ1 => match d with
  | .ptr a => match μ1 a with
    | some (.dicL od vs kvs) => Q (kvs.map fun kv => unkey kv.1) (fun μ' => μ' a = some (.dicL od vs kvs)) μ1
    | _ => False
  | _ => False
theorem di_key {tg e : Expr} {te : TE} {T : TDE} (h : DE X B e te T) : DIK X B tg e (iKeys te) (iKey T) := ⟨pi_keys h.pe, fun ρ μ σ H G Q R S q hd => h.ref ρ μ σ H G _ _ S q fun d μ1 v H1 G1 g1 S1 r1 q1 => by
  cases d with
  | ptr a =>
    cases r1
    have q2 : (match μ1 a with
      | some (.dicL od vs kvs) => Q (kvs.map fun kv => unkey kv.1) (fun μ' => μ' a = some (.dicL od vs kvs)) μ1
      | _ => False) := q1
    split at q2
    · next od vs kvs e =>
      have at' : ∀ {H' : Hp} {G' : Gh} {μ' : Mu}, Hold X.K G' μ' H' → μ' a = some (.dicL od vs kvs) → H' a = some (.frz od (.dK vs)) ∧ FReps X.K G' vs kvs := fun hh e => by
        obtain ⟨_, o, y, z⟩ := hh.cell a _ e
        obtain ⟨rfl, z2⟩ := cellR_dicL z
        exact ⟨y, z2⟩
      obtain ⟨h1, rr⟩ := at' S1.hold e
      refine ⟨a, od, rfl, .inl ⟨vs, h1, hd _ _ μ1 _ H1 G1 g1 S1 q2 (fun n H' G' μ' g h' kp => ⟨fun hn => ?_, fun hn => ?_⟩) fun n x w H' H2 G' μ' g h' kp ex y => ?_⟩⟩
      · exact ⟨(at' h' kp).1, by rw [rr.len]; simpa using hn⟩
      · exact ⟨(at' h' kp).1, by rw [rr.len]; simpa using hn⟩
      · obtain ⟨rfl, k, v, ek, rfl⟩ := y
        refine ⟨G', Gle.refl _, h', ?_⟩
        rw [List.getElem?_map] at ex
        have e3 : (vs.map (·.1))[n]? = some k := by rw [List.getElem?_map, ek]; rfl
        rw [rr.1, List.getElem?_map] at e3
        cases q : kvs[n]? with
        | none => rw [q] at e3; cases e3
        | some p =>
          rw [q] at e3 ex
          cases e3; cases ex
          exact rep_unkey _
    · exact q2.elim
  | _ => exact False.elim q1⟩
end
/-! join, insert -/
section
variable {X : Cx} {pos : Pos}
@[simp] def mJoin : RMD := fun x ds μ Q => match x, ds with
  | .str a, [d] => ∃ xs ss, vw μ d = .lst xs ∧ strsOf xs = some ss ∧ (ss.map (·.length)).sum + ss.length * a.length ≤ 16777216 ∧ Q (.str (Txt.join a ss)) μ
  | _, _ => False
theorem dm_join : MtR X "str.join" (fun x xs H Q => ∃ a p, ∃ ys : List Str, x = .str a ∧ xs = [.ref p] ∧ (SqL X.K H p (ys.map V.str) ∨ SqT X.K H p (ys.map V.str)) ∧
    (ys.map (·.length)).sum + ys.length * a.length ≤ 16777216 ∧ Q (.str (Txt.join a ys)) H) ∧ RefM X.K B "str" mJoin (fun x xs H Q => ∃ a p, ∃ ys : List Str, x = .str a ∧ xs = [.ref p] ∧ (SqL X.K H p (ys.map V.str) ∨ SqT X.K H p (ys.map V.str)) ∧
    (ys.map (·.length)).sum + ys.length * a.length ≤ 16777216 ∧ Q (.str (Txt.join a ys)) H) := by
  refine ⟨mt_join, ?_⟩
  intro ρ μ σ H G x dx vs ds Q Qn S r1 r2 h hd
  unfold mJoin at h
  split at h
  · next a d =>
    cases r1
    obtain ⟨v, rfl, rv⟩ := reps1 r2
    obtain ⟨xs, ss, e, es, l, q⟩ := h
    obtain ⟨p, ws, rfl, h1, rr⟩ := S.hold.lst rv e
    have e' := strsOf_eq es
    subst e'
    have ev := rr.strs
    subst ev
    exact ⟨a, p, ss, rfl, rfl, .inl (SqL.of h1), l, hd.now S (.str _) q⟩
  · exact h.elim
theorem dm_insert : MtR X "list.insert" (fun x vs H Q => ∃ (l : Addr) (xs : List V) (i : Int) (y : V), x = .ref l ∧ vs = [.int i, y] ∧ H l = some (.lst xs) ∧ xs.length < sizeLine ∧ 0 ≤ i ∧ i < 2 ^ 63 ∧
    Q .non (upd H l (.lst (xs.take i.toNat ++ [y] ++ xs.drop i.toNat)))) ∧ RefM X.K B "list" mInsert (fun x vs H Q => ∃ (l : Addr) (xs : List V) (i : Int) (y : V), x = .ref l ∧ vs = [.int i, y] ∧ H l = some (.lst xs) ∧ xs.length < sizeLine ∧ 0 ≤ i ∧ i < 2 ^ 63 ∧
    Q .non (upd H l (.lst (xs.take i.toNat ++ [y] ++ xs.drop i.toNat)))) := by
  refine ⟨mt_insert, ?_⟩
  intro ρ μ σ H G x dx vs ds Q Qn S r1 r2 h hd
  unfold mInsert at h
  split at h
  · next a i d =>
    cases r1
    obtain ⟨v, w, rfl, rv, rw'⟩ := reps2 r2
    cases rv
    obtain ⟨xs, e, l, b1, b2, q⟩ := h
    obtain ⟨ws, h1, rr⟩ := S.hold.lstAt e
    refine ⟨a, ws, i, w, rfl, rfl, h1, by rw [rr.1]; exact l, b1, b2, ?_⟩
    rw [List.append_assoc]
    exact hd.now (S.cellSet e (show CellR X.K G (.lst (ws.take i.toNat ++ ([w] ++ ws.drop i.toNat))) (.lst (xs.take i.toNat ++ d :: xs.drop i.toNat)) from (rr.take _).append (Reps.cons rw' (rr.drop _)))) .non q
  · exact h.elim

/-! truth of any value -/
theorem truV_go {K : PySem.W.Frag} {G : Gh} {μ : Mu} {H : Hp} {v : V} {d : D} {b : Bool} (S : Hold K G μ H) (r : Rep K G v d) (h : truD (vw μ d) = some b) : TruV K v H b := by
  cases e : vw μ d with
  | non => cases vw_non' e; cases r; rw [e] at h; cases h; rfl
  | bl c => cases vw_bl' e; cases r; rw [e] at h; cases h; rfl
  | int c => cases vw_int' e; cases r; rw [e] at h; cases h; rfl
  | str s =>
    cases vw_str' e; cases r; rw [e] at h
    simp only [truD] at h
    split at h
    · next l => cases h; exact ⟨l, rfl⟩
    · cases h
  | lst xs =>
    rw [e] at h; cases h
    obtain ⟨a, vs, rfl, h1, rr⟩ := S.lst r e
    refine .inl ⟨vs, SqL.of h1, ?_⟩
    cases vs with
    | nil => rw [rr.nil_inv']; rfl
    | cons v vs => obtain ⟨d, r, rfl, _⟩ := rr.cons_inv'; rfl
  | tup xs =>
    rw [e] at h; cases h
    obtain ⟨a, vs, rfl, h1, rr⟩ := S.tup r e
    refine .inr (.inl ⟨vs, h1, ?_⟩)
    cases vs with
    | nil => rw [rr.nil_inv']; rfl
    | cons v vs => obtain ⟨d, r, rfl, _⟩ := rr.cons_inv'; rfl
  | _ => rw [e] at h; cases h
theorem dt_tru {e : Expr} {te : TE} {T : TDE} (h : DE X B e te T) (he : ∀ whole, isTrue e X.env whole = (do let v ← whole; standAt e.pos; holding [v] (truthy v)) := by intro _; rfl) : DT X B e (fun σ H Q => te σ H fun x H' => ∃ k, TruV X.K x H' k ∧ Q k H') (dTru T) :=
  ⟨pt_truth h.pe he, fun ρ μ σ H G Q Qn S q hd => h.ref ρ μ σ H G _ _ S q fun d μ1 v H1 G1 g1 S1 r1 ⟨b, e1, q1⟩ => ⟨b, truV_go S1.hold r1 e1, hd b μ1 H1 G1 g1 S1 q1⟩⟩

/-! isinstance(x, T), T a built-in type -/
def tyNames : List String := ["NoneType", "bool", "int", "str", "list", "tuple", "dict"]
theorem kit_tbl : ∀ n ∈ tyNames, ∀ T ∈ tyNames, kitB n T = some (n == T || (n == "bool" && T == "int")) := by decide +kernel
/-- the answer -/
@[simp] def isiD (T : String) (d : D) : Option Bool := match d with
  | .non => some (decide ("NoneType" = T)) | .bl _ => some (decide ("bool" = T) || decide ("int" = T)) | .int _ => some (decide ("int" = T)) | .str _ => some (decide ("str" = T)) | .lst _ => some (decide ("list" = T)) | .tup _ => some (decide ("tuple" = T)) | .dic _ => some (decide ("dict" = T)) | _ => none
theorem isi_kit {T : String} {d : D} {b : Bool} (hT : T ∈ tyNames) (h : isiD T d = some b) : ∃ n, tyN d = some n ∧ kitB n T = some b := by
  cases d with
  | non => cases h; exact ⟨_, rfl, by rw [kit_tbl _ (by decide) T hT]; simp [BEq.beq]⟩
  | bl c => cases h; exact ⟨_, rfl, by rw [kit_tbl _ (by decide) T hT]; simp [Bool.beq_eq_decide_eq, eq_comm]⟩
  | int c => cases h; exact ⟨_, rfl, by rw [kit_tbl _ (by decide) T hT]; simp [BEq.beq]⟩
  | str c => cases h; exact ⟨_, rfl, by rw [kit_tbl _ (by decide) T hT]; simp [BEq.beq]⟩
  | lst c => cases h; exact ⟨_, rfl, by rw [kit_tbl _ (by decide) T hT]; simp [BEq.beq]⟩
  | tup c => cases h; exact ⟨_, rfl, by rw [kit_tbl _ (by decide) T hT]; simp [BEq.beq]⟩
  | dic c => cases h; exact ⟨_, rfl, by rw [kit_tbl _ (by decide) T hT]; simp [BEq.beq]⟩
  | _ => cases h
@[simp] def dIsi (T : String) (Tx : TDE) : TDE := fun ρ μ Q => Tx ρ μ fun d μ1 => ∃ b, isiD T (vw μ1 d) = some b ∧ Q (.bl b) μ1
theorem sqT_ty {K : PySem.W.Frag} {H : Hp} {a : Addr} {vs : List V} (h : SqT K H a vs) : TyX K H (.ref a) (.type "tuple") := by
  rcases h with (h | ⟨o, h⟩) | ⟨o, its, n, h1, h2, _⟩
  · exact .base (.tup h)
  · exact .fTuple h
  · exact .kTuple h1 h2
theorem ty_go {K : PySem.W.Frag} {G : Gh} {μ : Mu} {H : Hp} {v : V} {d : D} {n : String} (S : Hold K G μ H) (r : Rep K G v d) (h : tyN (vw μ d) = some n) : TyX K H v (.type n) := by
  cases e : vw μ d with
  | non => cases vw_non' e; cases r; rw [e] at h; cases h; exact .base .non
  | bl c => cases vw_bl' e; cases r; rw [e] at h; cases h; exact .base (.bl _)
  | int c => cases vw_int' e; cases r; rw [e] at h; cases h; exact .base (.int _)
  | str s => cases vw_str' e; cases r; rw [e] at h; cases h; exact .base (.str _)
  | lst xs =>
    rw [e] at h; cases h
    obtain ⟨a, vs, rfl, h1, rr⟩ := S.lst r e
    exact .base (.lst h1)
  | tup xs =>
    rw [e] at h; cases h
    obtain ⟨a, vs, rfl, h1, rr⟩ := S.tup r e
    exact sqT_ty h1
  | dic xs =>
    rw [e] at h; cases h
    obtain ⟨a, vs, rfl, h1, rr⟩ := S.dic r e
    rcases h1 with h1 | ⟨o, h1⟩
    · exact .base (.dK h1)
    · exact .fDict h1
  | _ => rw [e] at h; cases h
theorem de_isi (T : String) (hT : T ∈ tyNames) {x : Str} {e : Expr} {te : TE} {Tx : TDE} {p p2 : Pos} (he : DE X B e te Tx) (hm : X.mg "isinstance" = none) (hm2 : X.mg x = none) (hv2 : bootBuiltins x = some (.type T)) (hg : Gl X "isinstance" := by rfl) (hg2 : Gl X x := by rfl) (hn : x ≠ "__name__" := by decide) (hdb : (x == ("__debug__" : Str)) = false := by decide)
    (h1 : starEach [e, .Name x p2] X.env = (false, eval e X.env) :: starEach [.Name x p2] X.env := by rfl) (h1' : starEach [.Name x p2] X.env = (false, eval (.Name x p2) X.env) :: starEach [] X.env := by rfl) (h2 : (backTo pos (starEach [.Name x p2] X.env)).any (·.1) = false := by rfl) :
    DE X B (.Call (.Name "isinstance" p) [e, .Name x p2] [] pos) (tCB (rIsi X.K) (tCons te (tCons (tC (.ty T)) tNil))) (dIsi T Tx) :=
  ⟨pe_callB call_isi hg hm (by decide +kernel) (pa_cons he.pe (pa_cons (pe_bltn hg2 hm2 hv2 rfl hn hdb) pa_nil h1') h1) (by decide) (by decide) h1 h2, fun ρ μ σ H G Q Qn S h hd => he.ref ρ μ σ H G _ _ S h fun d μ1 v H1 G1 g1 S1 r1 ⟨b, e, q⟩ => by
    obtain ⟨n, e1, e2⟩ := isi_kit hT e
    exact ⟨v, .ty T, .type n, .type T, b, rfl, .ty T, ty_go S1.hold r1 e1, kit_ty e2, (hd.mono g1).now S1 (.bl b) q⟩⟩
/-- a dict of the module's own, keys and values texts -/
@[simp] def dKd (tbl : Str → Option Str) (Ti : TDE) : TDE := fun ρ μ Q => Ti ρ μ fun d μ1 => ∃ s v, d = .str s ∧ tbl s = some v ∧ Q (.str v) μ1
theorem de_kd (tbl : Str → Option Str) {x : Str} {p : Pos} {a : Addr} {i : Expr} {ti : TE} {Ti : TDE} (hm : X.mg x = some (.ref a)) (ht : ∀ s v, tbl s = some v → KDct X.K X.w a s (.str v)) (hi : DE X B i ti Ti) (hg : Gl X x := by rfl) (hs : PlainIx i := by exact fun _ _ => rfl) (hdb : (x == ("__debug__" : Str)) = false := by decide) :
    DE X B (.Subscript (.Name x p) i pos) (tOp (rIxD X.K X.w) (tC (.ref a)) ti) (dKd tbl Ti) :=
  ⟨pe_ix ix_kdict (pe_glob hg hm rfl hdb) hi.pe hs, fun ρ μ σ H G Q Qn S h hd => hi.ref ρ μ σ H G _ _ S h fun d μ1 v H1 G1 g1 S1 r1 ⟨s, v', e1, e2, q⟩ => by
    subst e1
    cases r1
    exact ⟨a, s, .str v', rfl, rfl, ht s v' e2, (hd.mono g1).now S1 (.str _) q⟩⟩
end
end DL

/-! DL7: defs by name. -/
namespace DL
open PySem PySem.Spec PyProof.Rows L2
structure DefAt (K : PySem.W.Frag) (mg : Str → Option Value) (x : Str) (st : Stmt) (ps : List Str) (f : Addr) (fd : FuncData) : Prop where
  F : Fun K x x st f fd
  m : mg x = some (.ref f)
  b : Binds K fd ps []
def Called (P : Program) (w : World) (K : PySem.W.Frag) (mg : Str → Option Value) (base : Heap) (k : Nat) (x : Str) (ps : List Str) (S : DSp) : Prop :=
  ∃ f fd, mg x = some (.ref f) ∧ PySem.W.keepIn K (.ref f) = true ∧ Binds K fd ps [] ∧ FnOk P w K mg base CX0 k f fd ps (toSp K S)
theorem DefAt.called {P : Program} {w : World} {K : PySem.W.Frag} {mg : Str → Option Value} {base : Heap} {k : Nat} {x : Str} {st : Stmt} {ps : List Str} {f : Addr} {fd : FuncData} {S : DSp} (D : DefAt K mg x st ps f fd) (F : FnOk P w K mg base CX0 k f fd ps (toSp K S)) : Called P w K mg base k x ps S := ⟨f, fd, D.m, D.F.kp, D.b, F⟩
theorem defAt_of {K : PySem.W.Frag} {h : Heap} {mg : Str → Option Value} {x : Str} {st : Stmt} {ps : List Str} {f : Addr} {oc : Value} {od an : Option Addr} {osl : Array (Option Value)} {kV doc pm cdv ct : Value} (X : K.In h) (G : h.Ns mainGlobals mg)
    (a : PySem.W.nsIn K mainGlobals x = some (some (.ref f))) (l : K.lookup f = some ⟨oc, od, .func (PySem.W.fnOf x x (defArgs st) (defBody st) (defScope st) .none kV doc pm an cdv ct), osl⟩) (c : PySem.W.codeIn K cdv x = true) (k : PySem.W.keepIn K (.ref f) = true)
    (hb : ∀ (kV doc pm : Value) (an : Option Addr) (cdv ct : Value) (us : List Value), us.length = ps.length → bindArgs (PySem.W.fnOf x x (defArgs st) (defBody st) (defScope st) .none kV doc pm an cdv ct) ⟨us, []⟩ = pure (ps.zip us)) :
    DefAt K mg x st ps f (PySem.W.fnOf x x (defArgs st) (defBody st) (defScope st) .none kV doc pm an cdv ct) :=
  ⟨fun_mk l c k, PySem.W.mg_of X G a, (fun_mk l c k).binds hb⟩
/-- a text constant of the module -/
def GlobS (s : Str) (x : Str) (mg : Str → Option Value) : Prop := ∃ t, mg x = some (.str s t)
/-- a tuple of texts of the module -/
def GlobT (K : PySem.W.Frag) (ss : List Str) (x : Str) (mg : Str → Option Value) : Prop := ∃ a, mg x = some (.ref a) ∧ ∀ G, Rep K G (.ref a) (.tup (ss.map .str))
/-- a dict of texts of the module -/
def GlobD (K : PySem.W.Frag) (w : World) (tbl : Str → Option Str) (x : Str) (mg : Str → Option Value) : Prop := ∃ a, mg x = some (.ref a) ∧ ∀ s v, tbl s = some v → KDct K w a s (.str v)
theorem called_recL {P : Program} {w : World} {K : PySem.W.Frag} {mg : Str → Option Value} {base : Heap} {j k : Nat} {x : Str} {ps : List Str} {S : DSp} (h : Called P w K mg base j x ps S) (l : j ≤ k) : Called P w K mg base k x ps S := by
  obtain ⟨f, fd, a, b, c, d⟩ := h
  exact ⟨f, fd, a, b, c, d.mono l⟩
end DL

/-! DL8: plain lemmas: texts, items, slices, sizes; loops by induction. -/
namespace DL
open PySem PySem.Spec PyProof.Rows L2
theorem szl : sizeLine = 16777216 := sizeLine_eq
theorem sz_le {n : Nat} (h : n ≤ 16000000) : n ≤ sizeLine := by rw [szl]; omega
theorem sz_lt {n : Nat} (h : n ≤ 16000000) : n < sizeLine := by rw [szl]; omega
@[simp] theorem loopL_nil {g : TDG} {T : TDS} {E : DEnds} {ρ : DR} {μ : Mu} : loopL g T E [] ρ μ = E.nx ρ μ := rfl
@[simp] theorem loopL_cons {g : TDG} {T : TDS} {E : DEnds} {x : D} {r : List D} {ρ : DR} {μ : Mu} : loopL g T E (x :: r) ρ μ = g x ρ μ fun ρ2 μ2 => T { E with nx := loopL g T E r, ct := loopL g T E r, bk := E.nx } ρ2 μ2 := rfl
@[simp] theorem loopK_nil {g : TDG} {T : TDS} {E : DEnds} {Kp : Mu → Prop} {ρ : DR} {μ : Mu} : loopK g T E Kp [] ρ μ = (Kp μ ∧ E.nx ρ μ) := rfl
@[simp] theorem loopK_cons {g : TDG} {T : TDS} {E : DEnds} {Kp : Mu → Prop} {x : D} {r : List D} {ρ : DR} {μ : Mu} : loopK g T E Kp (x :: r) ρ μ = (Kp μ ∧ g x ρ μ fun ρ2 μ2 => T { E with nx := loopK g T E Kp r, ct := loopK g T E Kp r, bk := E.nx } ρ2 μ2) := rfl
@[simp] theorem compL_nil {g : TDG} {tt : TDT} {te : TDE} {p : Addr} {ρ0 : DR} {Q : Mu → Prop} {μ : Mu} : compL g tt te p ρ0 Q [] μ = Q μ := rfl
@[simp] theorem compL_cons {g : TDG} {tt : TDT} {te : TDE} {p : Addr} {ρ0 : DR} {Q : Mu → Prop} {x : D} {r : List D} {μ : Mu} : compL g tt te p ρ0 Q (x :: r) μ = g x ρ0 μ fun ρ2 μ2 => tt ρ2 μ2 fun b μ3 => if b = true then te ρ2 μ3 fun d μ4 => ∃ acc, μ4 p = some (.lst acc) ∧ acc.length < sizeLine ∧ compL g tt te p ρ0 Q r (mup μ4 p (.lst (acc ++ [d]))) else compL g tt te p ρ0 Q r μ3 := rfl
/-- a loop by what holds ahead of the items that are left -/
theorem loop_ind {g : TDG} {T : TDS} {E : DEnds} (I : List D → DR → Mu → Prop) {xs : List D} {ρ : DR} {μ : Mu} (h : I xs ρ μ) (hn : ∀ ρ μ, I [] ρ μ → E.nx ρ μ)
    (hc : ∀ x r ρ μ (N : DR → Mu → Prop), I (x :: r) ρ μ → (∀ ρ' μ', I r ρ' μ' → N ρ' μ') → g x ρ μ fun ρ2 μ2 => T { E with nx := N, ct := N, bk := E.nx } ρ2 μ2) : loopL g T E xs ρ μ := by
  induction xs generalizing ρ μ with
  | nil => exact hn ρ μ h
  | cons x r ih => exact hc x r ρ μ _ h fun ρ' μ' h' => ih h'
theorem loopK_ind {g : TDG} {T : TDS} {E : DEnds} {Kp : Mu → Prop} (I : List D → DR → Mu → Prop) {xs : List D} {ρ : DR} {μ : Mu} (h : I xs ρ μ) (hk : ∀ r ρ μ, I r ρ μ → Kp μ) (hn : ∀ ρ μ, I [] ρ μ → E.nx ρ μ)
    (hc : ∀ x r ρ μ (N : DR → Mu → Prop), I (x :: r) ρ μ → (∀ ρ' μ', I r ρ' μ' → N ρ' μ') → g x ρ μ fun ρ2 μ2 => T { E with nx := N, ct := N, bk := E.nx } ρ2 μ2) : loopK g T E Kp xs ρ μ := by
  induction xs generalizing ρ μ with
  | nil => exact ⟨hk _ _ _ h, hn ρ μ h⟩
  | cons x r ih => exact ⟨hk _ _ _ h, hc x r ρ μ _ h fun ρ' μ' h' => ih h'⟩
/-- a comprehension by what holds of the items left, the list made, the store without it -/
theorem comp_ind {g : TDG} {tt : TDT} {te : TDE} {p : Addr} {ρ0 : DR} {Q : Mu → Prop} (I : List D → List D → Mu → Prop) {xs acc : List D} {μ : Mu} (hp : μ p = none) (h : I xs acc μ) (hl : acc.length + xs.length < sizeLine)
    (hn : ∀ acc μ, μ p = none → I [] acc μ → Q (mup μ p (.lst acc)))
    (hc : ∀ x r acc μ (N : Mu → Prop), μ p = none → I (x :: r) acc μ → (∀ μ', N μ' ↔ (∃ acc' μ'', μ' = mup μ'' p (.lst acc') ∧ μ'' p = none ∧ I r acc' μ'' ∧ acc'.length + r.length < sizeLine)) → acc.length < sizeLine → acc.length + 1 + r.length < sizeLine → g x ρ0 (mup μ p (.lst acc)) fun ρ2 μ2 => tt ρ2 μ2 fun b μ3 => if b = true then te ρ2 μ3 fun d μ4 => ∃ acc, μ4 p = some (.lst acc) ∧ acc.length < sizeLine ∧ N (mup μ4 p (.lst (acc ++ [d]))) else N μ3)
    (mono : ∀ x μ (N N' : Mu → Prop), (∀ μ, N μ → N' μ) → (g x ρ0 μ fun ρ2 μ2 => tt ρ2 μ2 fun b μ3 => if b = true then te ρ2 μ3 fun d μ4 => ∃ acc, μ4 p = some (.lst acc) ∧ acc.length < sizeLine ∧ N (mup μ4 p (.lst (acc ++ [d]))) else N μ3) → (g x ρ0 μ fun ρ2 μ2 => tt ρ2 μ2 fun b μ3 => if b = true then te ρ2 μ3 fun d μ4 => ∃ acc, μ4 p = some (.lst acc) ∧ acc.length < sizeLine ∧ N' (mup μ4 p (.lst (acc ++ [d]))) else N' μ3)) : compL g tt te p ρ0 Q xs (mup μ p (.lst acc)) := by
  induction xs generalizing acc μ with
  | nil => exact hn acc μ hp h
  | cons x r ih =>
    rw [List.length_cons] at hl
    rw [compL_cons]
    refine mono x _ _ _ ?_ (hc x r acc μ (fun μ' => ∃ acc' μ'', μ' = mup μ'' p (.lst acc') ∧ μ'' p = none ∧ I r acc' μ'' ∧ acc'.length + r.length < sizeLine) hp h (fun _ => Iff.rfl) (by omega) (by omega))
    rintro μ' ⟨acc', μ'', rfl, h1, h2, h3⟩
    exact ih h1 h2 h3
/-- .. the simple way: N is what is wanted behind the turn -/
theorem comp_ind' {g : TDG} {tt : TDT} {te : TDE} {p : Addr} {ρ0 : DR} {Q : Mu → Prop} (I : List D → List D → Mu → Prop) {xs acc : List D} {μ : Mu} (hp : μ p = none) (h : I xs acc μ) (hl : acc.length + xs.length < sizeLine)
    (hn : ∀ acc μ, μ p = none → I [] acc μ → Q (mup μ p (.lst acc)))
    (hc : ∀ x r acc μ (N : Mu → Prop), μ p = none → I (x :: r) acc μ → (∀ acc' μ'', μ'' p = none → I r acc' μ'' → acc'.length ≤ acc.length + 1 → N (mup μ'' p (.lst acc'))) → acc.length < sizeLine → g x ρ0 (mup μ p (.lst acc)) fun ρ2 μ2 => tt ρ2 μ2 fun b μ3 => if b = true then te ρ2 μ3 fun d μ4 => ∃ acc, μ4 p = some (.lst acc) ∧ acc.length < sizeLine ∧ N (mup μ4 p (.lst (acc ++ [d]))) else N μ3) : compL g tt te p ρ0 Q xs (mup μ p (.lst acc)) := by
  induction xs generalizing acc μ with
  | nil => exact hn acc μ hp h
  | cons x r ih =>
    rw [List.length_cons] at hl
    rw [compL_cons]
    exact hc x r acc μ (compL g tt te p ρ0 Q r) hp h (fun acc' μ'' h1 h2 h3 => ih h1 h2 (by omega)) (by omega)

/-! texts -/
theorem startswith_mk (a b : List Nat) : Txt.startswith (mk a) (mk b) = b.isPrefixOf a := by
  unfold Txt.startswith
  rw [PySem.StrLaws.subAt_eq]
  simp only [mk_length, mk_cps, List.drop_zero]
  rw [Bool.eq_iff_iff]
  simp only [Bool.and_eq_true, decide_eq_true_eq, beq_iff_eq, List.isPrefixOf_iff_prefix]
  constructor
  · rintro ⟨_, h⟩
    exact ⟨a.drop b.length, by rw [← h, List.length_take, Nat.min_eq_left (by omega)]; exact List.take_append_drop _ _⟩
  · rintro ⟨t, rfl⟩
    simp
theorem atI_nat' {α : Type} {xs : List α} {j : Nat} : atI xs (j : Int) = xs[j]? := by
  unfold atI ixN
  by_cases h : j < xs.length
  · have h1 : (0 : Int) ≤ (j : Int) := by omega
    have h2 : (j : Int) < (xs.length : Int) := by omega
    simp [h1, h2]
  · have h1 : (0 : Int) ≤ (j : Int) := by omega
    have h2 : ¬ (j : Int) < (xs.length : Int) := by omega
    simp [h1, h2]
    omega
theorem atI_0 {α : Type} {x : α} {xs : List α} : atI (x :: xs) 0 = some x := atI_nat (j := 0) rfl
theorem atI_lit {α : Type} {xs : List α} (j : Nat) {v : α} (h : xs[j]? = some v) : atI xs (OfNat.ofNat j : Int) = some v := atI_nat (j := j) h
theorem atI_m1 {α : Type} {xs : List α} (x : α) : atI (xs ++ [x]) (-1) = some x := atI_last xs x
theorem atI_int {α : Type} {xs : List α} {i : Int} (h0 : 0 ≤ i) : atI xs i = xs[i.toNat]? := by
  obtain ⟨j, rfl⟩ := Int.eq_ofNat_of_zero_le h0
  rw [atI_nat']; simp
theorem cutD_from {α : Type} (xs : List α) (k : Nat) : cutD xs (some (k : Int)) none = xs.drop k := by
  unfold cutD
  rw [HT.sIx_nat, HT.sIx_none]
  by_cases h : k ≤ xs.length
  · rw [Nat.min_eq_left h]
    exact List.take_of_length_le (by rw [List.length_drop]; omega)
  · have h' : xs.length ≤ k := by omega
    rw [Nat.min_eq_right h', List.drop_eq_nil_of_le (Nat.le_refl _), List.drop_eq_nil_of_le h']
    simp
theorem cutD_to {α : Type} (xs : List α) (k : Nat) : cutD xs none (some (k : Int)) = xs.take k := by
  unfold cutD
  rw [HT.sIx_nat, HT.sIx_none]
  simp only [List.drop_zero, Nat.sub_zero]
  by_cases h : k ≤ xs.length
  · rw [Nat.min_eq_left h]
  · rw [Nat.min_eq_right (by omega), List.take_of_length_le (Nat.le_refl _), List.take_of_length_le (by omega)]
theorem cutD_m1 {α : Type} (xs : List α) : cutD xs none (some (-1)) = xs.dropLast := by
  unfold cutD
  rw [HT.sIx_none]
  have e : HT.sIx xs.length xs.length (some (-1)) = xs.length - 1 := by
    unfold HT.sIx
    simp
    omega
  rw [e, List.drop_zero, List.dropLast_eq_take, Nat.sub_zero]
theorem cutD_len {α : Type} (xs : List α) (lo hi : Option Int) : (cutD xs lo hi).length ≤ xs.length := by
  unfold cutD; rw [List.length_take, List.length_drop]; omega
theorem ixN_m1 {n : Nat} (h : 0 < n) : ixN n (-1) = some (n - 1) := by
  unfold ixN
  rw [if_neg (by omega), if_pos (by omega)]
  congr 1; omega
theorem ixN_nat {n j : Nat} (h : j < n) : ixN n (j : Int) = some j := by
  unfold ixN
  rw [if_pos (by omega), if_pos (by omega)]; simp
theorem ixN_int {n : Nat} {i : Int} (h0 : 0 ≤ i) (h : i < n) : ixN n i = some i.toNat := by
  unfold ixN
  rw [if_pos h0, if_pos h]
@[simp] theorem atI_c0 {α : Type} {x : α} {r : List α} : atI (x :: r) 0 = some x := atI_nat (j := 0) rfl
@[simp] theorem atI_c1 {α : Type} {x y : α} {r : List α} : atI (x :: y :: r) 1 = some y := atI_nat (j := 1) rfl
@[simp] theorem atI_c2 {α : Type} {x y z : α} {r : List α} : atI (x :: y :: z :: r) 2 = some z := atI_nat (j := 2) rfl
@[simp] theorem atI_c3 {α : Type} {x y z u : α} {r : List α} : atI (x :: y :: z :: u :: r) 3 = some u := atI_nat (j := 3) rfl
@[simp] theorem atI_c4 {α : Type} {x y z u v : α} {r : List α} : atI (x :: y :: z :: u :: v :: r) 4 = some v := atI_nat (j := 4) rfl
@[simp] theorem atI_m1s {α : Type} {x : α} : atI [x] (-1) = some x := atI_last [] x
@[simp] theorem atI_m1a {α : Type} {x : α} {xs : List α} : atI (xs ++ [x]) (-1) = some x := atI_last xs x
end DL

/-! DL9: the source of draws, counters: cells made ghosts. -/
namespace DL
open PySem PySem.Spec PyProof.Rows L2
/-- what a source's cell holds: the list of its numbers at l -/
abbrev srcC (l : Addr) (p r c : Int) : Cell := .lst [.ptr l, .int p, .int r, .int c]
def sp_draw_p : DSp := fun ds μ Q _ => ∃ (a l : Addr) (ns : List Int) (p r c sz : Int), ds = [.ptr a, .int sz] ∧ a ≠ l ∧ μ a = some (srcC l p r c) ∧ μ l = some (.lst (ns.map .int)) ∧ 0 ≤ p ∧ 0 < sz ∧ sz < 1073741824 ∧
  ∀ n p' r' c', 0 ≤ n → n < sz → 0 ≤ p' → Q (.int n) (mup μ a (srcC l p' r' c'))
def sp_draw : DSp := fun ds μ Q _ => ∃ sz, ds = [.src, .int sz] ∧ 0 < sz ∧ sz < 1073741824 ∧ ∀ n, 0 ≤ n → n < sz → Q (.int n) μ
section
variable {K : PySem.W.Frag} {G : Gh} {μ : Mu} {H H' : Hp} {a l : Addr}
theorem cellR_src {G' : Gh} {o : HO} {p r c : Int} (h : CellR K G' o (srcC l p r c)) : o = .lst [.ref l, .int p, .int r, .int c] := by
  obtain ⟨vs, rfl, h⟩ := cellR_lst h
  obtain ⟨v1, w1, rfl, a1, h⟩ := h.cons_inv
  obtain ⟨v2, w2, rfl, a2, h⟩ := h.cons_inv
  obtain ⟨v3, w3, rfl, a3, h⟩ := h.cons_inv
  obtain ⟨v4, w4, rfl, a4, h⟩ := h.cons_inv
  rw [h.nil_inv, a2.ofInt, a3.ofInt, a4.ofInt]
  cases a1; rfl
/-- the source at a is written, nothing else -/
theorem Hold.srcSet (h : Hold K G μ H) (m : a ∈ G.src) {p r c : Int} {ns : List Int} (hl : G.fr l = some (.lst (ns.map V.int))) (h0 : 0 ≤ p) (k : ∀ b o, b ≠ a → H b = some o → H' b = some o) (e : H' a = some (.lst [.ref l, .int p, .int r, .int c])) : Hold K G μ H' := by
  obtain ⟨f1, f2, _⟩ := h.src a m
  refine ⟨fun b o q => k b o (ne_of_none q f1) (h.fr b o q), fun b c' q => ?_, fun b q => ?_, fun b q => ?_⟩
  · obtain ⟨x, o, y, z⟩ := h.cell b c' q
    have ne : b ≠ a := fun w => by rw [w, f2] at q; cases q
    exact ⟨x, o, k b o ne y, z⟩
  · obtain ⟨x, y, l', ns', p', r', c', z1, z2, z3⟩ := h.src b q
    by_cases w : b = a
    · subst w; exact ⟨x, y, l, ns, p, r, c, e, hl, h0⟩
    · exact ⟨x, y, l', ns', p', r', c', k b _ w z1, z2, z3⟩
  · obtain ⟨x, y, n, z, w⟩ := h.rooms b q
    exact ⟨x, y, n, z, k b _ (fun u => n (u ▸ m)) w⟩
/-- all but two objects frozen -/
def gBut (H : Hp) (a l : Addr) : Gh := ⟨fun b => if b = a ∨ b = l then none else H b, [], []⟩
def mTwo (a l : Addr) (c d : Cell) : Mu := fun b => if b = a then some c else if b = l then some d else none
theorem src_imp {vs : List V} {Q : VK} {E : XK} (h : toSp K sp_draw vs H Q E) : toSp K sp_draw_p vs H Q E := by
  obtain ⟨G, ds, μ, QQ, EE, hh, r, ⟨sz, rfl, s1, s2, q⟩, hq, _⟩ := h
  obtain ⟨v, w, rfl, rv, rw'⟩ := reps2 r
  rw [rw'.ofInt]
  cases rv with
  | src m =>
    rename_i a
    obtain ⟨f1, f2, l, ns, p, rr, c, h1, h2, h3⟩ := hh.src a m
    have hl := hh.fr _ _ h2
    have ne : a ≠ l := fun e => by rw [e, h2] at f1; cases f1
    refine ⟨gBut H a l, [.ptr a, .int sz], mTwo a l (srcC l p rr c) (.lst (ns.map .int)), fun d μ' => ∃ n p' r' c', d = .int n ∧ 0 ≤ n ∧ n < sz ∧ 0 ≤ p' ∧ μ' = mup (mTwo a l (srcC l p rr c) (.lst (ns.map .int))) a (srcC l p' r' c'), noX, ?_, Reps.cons (.ptr a) (Reps.cons (.int sz) Reps.nil), ?_, ?_, fun _ _ _ _ _ _ _ _ _ z => z.elim⟩
    · refine ⟨fun b o e => ?_, fun b c' e => ?_, (fun _ z => by cases z), (fun _ z => by cases z)⟩
      · unfold gBut at e
        simp only at e
        split at e
        · cases e
        · exact e
      · unfold mTwo at e
        split at e
        · next w =>
          subst w
          cases e
          have rs : Reps K (gBut H b l) [.ref l, .int p, .int rr, .int c] [.ptr l, .int p, .int rr, .int c] := Reps.cons (.ptr l) (Reps.cons (.int _) (Reps.cons (.int _) (Reps.cons (.int _) Reps.nil)))
          exact ⟨by simp [gBut], _, h1, rs⟩
        · split at e
          · next w =>
            subst w
            cases e
            have rs : Reps K (gBut H a b) (ns.map V.int) (ns.map .int) := Reps.ofInts ns
            exact ⟨by simp [gBut], _, hl, rs⟩
          · cases e
    · refine ⟨a, l, ns, p, rr, c, sz, rfl, ne, by simp [mTwo], by simp [mTwo, ne.symm], h3, s1, s2, fun n p' r' c' n0 n1 n2 => ⟨n, p', r', c', rfl, n0, n1, n2, rfl⟩⟩
    · rintro d μ' v H' G' g h' r' ⟨n, p', r2, c', rfl, n0, n1, n2, rfl⟩
      have ka : H' a = some (.lst [.ref l, .int p', .int r2, .int c']) := by
        obtain ⟨_, o, y, z⟩ := h'.cell a _ mup_same
        rw [cellR_src z] at y; exact y
      have kl : H' l = some (.lst (ns.map V.int)) := by
        obtain ⟨_, o, y, z⟩ := h'.cell l (.lst (ns.map .int)) (by rw [mup_ne ne.symm]; simp [mTwo, ne.symm])
        obtain ⟨vs, rfl, z2⟩ := cellR_lst z
        rw [z2.ints] at y; exact y
      refine hq (.int n) μ v H' G (Gle.refl G) (hh.srcSet m h2 n2 (fun b o nb e => ?_) ka) (by rw [r'.ofInt]; exact .int n) (q n n0 n1)
      by_cases w : b = l
      · subst w; rw [hl] at e; cases e; exact kl
      · exact h'.fr b o (g.fr b o (by simp [gBut, nb, w]; exact e))
/-- [list(script), 0, -1, 0], made a ghost -/
def sp_begin_p : DSp := fun ds μ Q _ => ∃ ns : List Int, (ds = [.scr ns] ∨ ds = [.lst (ns.map .int)]) ∧ ∀ a l, μ l = none → a ≠ l → μ a = none → Q (.ptr a) (mup (mup μ l (.lst (ns.map .int))) a (srcC l 0 (-1) 0))
def sp_begin : DSp := fun ds μ Q _ => ∃ ns : List Int, (ds = [.scr ns] ∨ ds = [.lst (ns.map .int)]) ∧ Q .src μ
theorem begin_imp {vs : List V} {Q : VK} {E : XK} (h : toSp K sp_begin vs H Q E) : toSp K sp_begin_p vs H Q E := by
  obtain ⟨G, ds, μ, QQ, EE, hh, r, ⟨ns, hd, q⟩, hq, _⟩ := h
  refine ⟨G, ds, μ, fun d μ' => ∃ a l, μ l = none ∧ a ≠ l ∧ μ a = none ∧ d = .ptr a ∧ μ' = mup (mup μ l (.lst (ns.map .int))) a (srcC l 0 (-1) 0), noX, hh, r, ⟨ns, hd, fun a l h1 h2 h3 => ⟨a, l, h1, h2, h3, rfl, rfl⟩⟩, ?_, fun _ _ _ _ _ _ _ _ _ z => z.elim⟩
  rintro d μ' v H' G' g h' r' ⟨a, l, h1, h2, h3, rfl, rfl⟩
  cases r'
  obtain ⟨_, o, ya, za⟩ := h'.cell a _ mup_same
  rw [cellR_src za] at ya
  have el : mup (mup μ l (.lst (ns.map .int))) a (srcC l 0 (-1) 0) l = some (.lst (ns.map .int)) := by rw [mup_ne h2.symm]; exact mup_same
  obtain ⟨fl, o2, yl, zl⟩ := h'.cell l _ el
  obtain ⟨vs2, rfl, z2⟩ := cellR_lst zl
  rw [z2.ints] at yl
  have h2' := h'.freeze el yl
  have em : mdel (mup (mup μ l (.lst (ns.map .int))) a (srcC l 0 (-1) 0)) l = mup μ a (srcC l 0 (-1) 0) := by
    funext b
    unfold mdel mup
    by_cases e : b = l
    · subst e; simp [h2.symm, h1]
    · simp [e]
  rw [em] at h2'
  have g2 : Gle G' (G'.frz l (.lst (ns.map V.int))) := Gle.frz fl
  have g3 : Gle (G'.frz l (.lst (ns.map V.int))) { G'.frz l (.lst (ns.map V.int)) with src := a :: (G'.frz l (.lst (ns.map V.int))).src } := ⟨Ext.refl _, fun b m => List.mem_cons_of_mem _ m, fun _ m => m⟩
  obtain ⟨fa, _⟩ := h2'.cell a _ mup_same
  refine hq .src μ (.ref a) H' _ (g.trans (g2.trans g3)) ⟨h2'.fr, fun b c' qb => ?_, fun b m => ?_, fun b m => ?_⟩ (.src List.mem_cons_self) q
  · have e : b ≠ a := fun e => by rw [e, h3] at qb; cases qb
    obtain ⟨x, o, y, z⟩ := h2'.cell b c' ((mup_ne e).trans qb)
    exact ⟨x, o, y, z.mono g3⟩
  · by_cases e : b = a
    · subst e
      exact ⟨fa, h3, l, ns, 0, -1, 0, ya, upd_same, by omega⟩
    · obtain ⟨x, y, z⟩ := h2'.src b ((List.mem_cons.mp m).resolve_left e)
      rw [mup_ne e] at y
      exact ⟨x, y, z⟩
  · obtain ⟨x, y, n, z, w⟩ := h2'.rooms b m
    have e : b ≠ a := fun e => by rw [e, mup_same] at y; cases y
    rw [mup_ne e] at y
    exact ⟨x, y, fun m2 => (List.mem_cons.mp m2).elim e n, z, w⟩
end
end DL

/-! DLA: readings over data, step by step (introduction rules). -/
namespace DL
open PySem PySem.Spec PyProof.Rows L2
section
variable {ρ : DR} {μ : Mu} {Q : QD} {E : DEnds} {T U : TDS} {Ta Tb Te : TDE} {TA : TDA} {c t u : TDT} {R : R2D} {d x y : D} {xs ys : List D} {i j : Int} {g : TDG} {Qb : Bool → Mu → Prop} {Ql : List D → Mu → Prop} {a : Addr}
theorem i_seq (h : T { E with nx := fun ρ' μ' => U E ρ' μ' } ρ μ) : dSeq T U E ρ μ := h
theorem i_next (h : E.nx ρ μ) : dNext E ρ μ := h
theorem i_asg (h : Te ρ μ fun d μ1 => g d ρ μ1 E.nx) : dAsg Te g E ρ μ := h
theorem i_ret (h : Te ρ μ E.rt) : dRet Te E ρ μ := h
theorem i_retN (h : E.rt .non μ) : dRetN E ρ μ := h
theorem i_drop (h : Te ρ μ fun _ μ1 => E.nx ρ μ1) : dDrop Te E ρ μ := h
theorem i_brk (h : E.bk ρ μ) : dBreak E ρ μ := h
theorem i_cont (h : E.ct ρ μ) : dCont E ρ μ := h
theorem i_ifS (h : c ρ μ fun b μ1 => if b = true then T E ρ μ1 else U E ρ μ1) : dIfS c T U E ρ μ := h
theorem i_aug {n : Nat} {z : D} (e : ρ[n]? = some (some z)) (h : Te ρ μ fun y μ1 => R z y μ1 fun w μ2 => E.nx (ρ.set n (some w)) μ2) : dAug n R Te E ρ μ := by
  unfold dAug; rw [e]; exact h
theorem i_frzS {n : Nat} (e : ρ[n]? = some (some (.ptr a))) (e2 : μ a = some (.lst xs)) (h : T E (ρ.set n (some (.lst xs))) (mdel μ a)) : dFrzS n T E ρ μ := by
  unfold dFrzS; rw [e]; simp only; rw [e2]; exact h
theorem i_for {I : TDI} (h : I ρ μ fun xs μ1 => loopL g T E xs ρ μ1) : dFor I g T E ρ μ := h
theorem i_forK {I : TDIK} (h : I ρ μ fun xs Kp μ1 => loopK g T E Kp xs ρ μ1) : dForK I g T E ρ μ := h
theorem i_iLst (h : Te ρ μ fun d μ1 => match d with | .lst xs => Ql xs μ1 | _ => False) : iLst Te ρ μ Ql := h
theorem i_mLst (h : Ql xs μ) : (match (D.lst xs) with | .lst xs => Ql xs μ | _ => False) := h
theorem i_iTup (h : Te ρ μ fun d μ1 => match d with | .tup xs => Ql xs μ1 | _ => False) : iTupD Te ρ μ Ql := h
theorem i_iScr (h : Te ρ μ fun d μ1 => match d with | .scr ns => Ql (ns.map .int) μ1 | _ => False) : iScr Te ρ μ Ql := h
theorem i_iTxt (h : Te ρ μ fun d μ1 => match d with | .str s => Ql (s.cps.toList.map fun c => .str (mk [c])) μ1 | _ => False) : iTxt Te ρ μ Ql := h
theorem i_dgName {n : Nat} {Qr : DR → Mu → Prop} (h : Qr (ρ.set n (some d)) μ) : dgName n d ρ μ Qr := h
theorem i_dgTup {n : Nat} {V : TDGs} {Qr : DR → Mu → Prop} (e : vw μ d = .tup xs) (l : xs.length = n) (h : V xs ρ μ Qr) : dgTup n V d ρ μ Qr := ⟨xs, e, l, h⟩
theorem i_dgCons {V : TDGs} {Qr : DR → Mu → Prop} (h : g d ρ μ fun ρ' μ' => V xs ρ' μ' Qr) : dgCons g V (d :: xs) ρ μ Qr := h
theorem i_dgNil {Qr : DR → Mu → Prop} (h : Qr ρ μ) : dgNil [] ρ μ Qr := ⟨rfl, h⟩
theorem i_dgSub {To Ti : TDE} {Qr : DR → Mu → Prop} (h : To ρ μ fun o μ1 => Ti ρ μ1 fun i μ2 => setD o i d μ2 fun μ3 => Qr ρ μ3) : dgSub To Ti d ρ μ Qr := h
theorem i_setD {n : Nat} {Qm : Mu → Prop} (e : μ a = some (.lst xs)) (l : ixN xs.length i = some n) (h : Qm (mup μ a (.lst (xs.set n d)))) : setD (.ptr a) (.int i) d μ Qm := ⟨xs, n, e, l, h⟩
theorem i_setDm {n : Nat} {Qm : Mu → Prop} (l : ixN xs.length i = some n) (h : Qm (mup μ a (.lst (xs.set n d)))) : setD (.ptr a) (.int i) d (mup μ a (.lst xs)) Qm := ⟨xs, n, mup_same, l, by rw [mup_mup]; exact h⟩
theorem i_appendm (l : xs.length ≤ 16000000) (h : Q .non (mup μ a (.lst (xs ++ [d])))) : mAppend (.ptr a) [d] (mup μ a (.lst xs)) Q := ⟨xs, mup_same, sz_lt l, by rw [mup_mup]; exact h⟩
theorem ixN_c0 {α : Type} {x : α} {r : List α} : ixN (x :: r).length 0 = some 0 := ixN_nat (j := 0) (by simp)
theorem ixN_c1 {α : Type} {x y : α} {r : List α} : ixN (x :: y :: r).length 1 = some 1 := ixN_nat (j := 1) (by simp)
theorem ixN_c2 {α : Type} {x y z : α} {r : List α} : ixN (x :: y :: z :: r).length 2 = some 2 := ixN_nat (j := 2) (by simp)
theorem ixN_c3 {α : Type} {x y z u : α} {r : List α} : ixN (x :: y :: z :: u :: r).length 3 = some 3 := ixN_nat (j := 3) (by simp)
-- expressions
theorem i_var {n : Nat} (e : ρ[n]? = some (some d)) (h : Q d μ) : dVar n ρ μ Q := by unfold dVar; rw [e]; exact h
theorem i_c (h : Q d μ) : dC d ρ μ Q := h
theorem i_op (h : Ta ρ μ fun x μ1 => Tb ρ μ1 fun y μ2 => R x y μ2 Q) : dOp R Ta Tb ρ μ Q := h
theorem i_B (h : Te ρ μ fun d μ1 => match d with | .bl b => Qb b μ1 | _ => False) : dB Te ρ μ Qb := h
theorem i_mB {b : Bool} (h : Qb b μ) : (match (D.bl b) with | .bl b => Qb b μ | _ => False) := h
theorem i_CB {S : RCD} (h : TA ρ μ fun ds μ1 => S ds μ1 Q) : dCB S TA ρ μ Q := h
theorem i_cons (h : Te ρ μ fun d μ1 => TA ρ μ1 fun ds μ2 => Ql (d :: ds) μ2) : dCons Te TA ρ μ Ql := h
theorem i_nil (h : Ql [] μ) : dNil ρ μ Ql := h
theorem i_lst {k : Bool} (h : TA ρ μ fun ds μ1 => ds.length ≤ sizeLine ∧ mkL k ds μ1 Q) : dLst k TA ρ μ Q := h
theorem i_tup (h : TA ρ μ fun ds μ1 => ds.length ≤ sizeLine ∧ Q (.tup ds) μ1) : dTup TA ρ μ Q := h
theorem i_few {k : Bool} (l : xs.length ≤ 1000) (h : mkL k xs μ Q) : xs.length ≤ sizeLine ∧ mkL k xs μ Q := ⟨sz_le (by omega), h⟩
theorem i_fewT (l : xs.length ≤ 1000) (h : Q (.tup xs) μ) : xs.length ≤ sizeLine ∧ Q (.tup xs) μ := ⟨sz_le (by omega), h⟩
theorem i_mkF (h : Q (.lst xs) μ) : mkL false xs μ Q := h
theorem i_mkT (h : ∀ a, μ a = none → Q (.ptr a) (mup μ a (.lst xs))) : mkL true xs μ Q := h
theorem i_sl {k : Bool} {Tl Th : TDO} (h : Te ρ μ fun x μ1 => Tl ρ μ1 fun l μ2 => Th ρ μ2 fun u μ3 => slW k x l u μ3 Q) : dSl k Te Tl Th ρ μ Q := h
theorem i_noPart {Qo : Option Int → Mu → Prop} (h : Qo none μ) : dNoPart ρ μ Qo := h
theorem i_part {Qo : Option Int → Mu → Prop} (h : Te ρ μ fun d μ1 => match d with | .int i => Qo (some i) μ1 | _ => False) : dPart Te ρ μ Qo := h
theorem i_mInt {Qi : Int → Mu → Prop} (h : Qi i μ) : (match (D.int i) with | .int i => Qi i μ | _ => False) := h
theorem i_slL {k : Bool} {lo hi : Option Int} (e : vw μ x = .lst xs) (h : mkL k (cutD xs lo hi) μ Q) : slW k x lo hi μ Q := by unfold slW; rw [e]; exact h
theorem i_slS {k : Bool} {lo hi : Option Int} {s : List Nat} (l : s.length ≤ 16000000) (h : Q (.str (mk (cutD s lo hi))) μ) : slW k (.str (mk s)) lo hi μ Q := by
  unfold slW; simp only [vw_str]; exact ⟨by rw [mk_length]; exact sz_le l, by rw [cutS_mk]; exact h⟩
theorem i_BM {Ty : String} {S : RMD} {To : TDE} (h : To ρ μ fun x μ1 => isTyD Ty (vw μ1 x) ∧ TA ρ μ1 fun ds μ2 => S x ds μ2 Q) : dBM Ty S To TA ρ μ Q := h
theorem i_and (h : t ρ μ fun c μ1 => if c = true then u ρ μ1 Qb else Qb false μ1) : dAnd t u ρ μ Qb := h
theorem i_or (h : t ρ μ fun c μ1 => if c = true then Qb true μ1 else u ρ μ1 Qb) : dOr t u ρ μ Qb := h
theorem i_not (h : t ρ μ fun c μ1 => Qb (!c) μ1) : dNot t ρ μ Qb := h
theorem i_andV (h : Ta ρ μ fun x μ1 => match x with | .bl c => if c = true then Tb ρ μ1 Q else Q (.bl false) μ1 | _ => False) : dAndV Ta Tb ρ μ Q := h
theorem i_orV (h : Ta ρ μ fun x μ1 => match x with | .bl c => if c = true then Q (.bl true) μ1 else Tb ρ μ1 Q | _ => False) : dOrV Ta Tb ρ μ Q := h
theorem i_notV (h : Ta ρ μ fun x μ1 => match x with | .bl c => Q (.bl (!c)) μ1 | _ => False) : dNotV Ta ρ μ Q := h
theorem i_if (h : t ρ μ fun c μ1 => if c = true then Ta ρ μ1 Q else Tb ρ μ1 Q) : dIf t Ta Tb ρ μ Q := h
theorem i_neg (h : Te ρ μ fun d μ1 => match d with | .int i => Q (.int (-i)) μ1 | _ => False) : dNeg Te ρ μ Q := h
theorem i_tru (h : Te ρ μ fun d μ1 => ∃ b, truD (vw μ1 d) = some b ∧ Qb b μ1) : dTru Te ρ μ Qb := h
theorem i_truB {b : Bool} (h : Qb b μ) : ∃ c, truD (vw μ (.bl b)) = some c ∧ Qb c μ := ⟨b, rfl, h⟩
theorem i_truL (e : vw μ x = .lst xs) (h : Qb (!xs.isEmpty) μ) : ∃ c, truD (vw μ x) = some c ∧ Qb c μ := ⟨_, by rw [e]; rfl, h⟩
theorem i_truI (h : Qb (i != 0) μ) : ∃ c, truD (vw μ (.int i)) = some c ∧ Qb c μ := ⟨_, rfl, h⟩
theorem i_truN (h : Qb false μ) : ∃ c, truD (vw μ .non) = some c ∧ Qb c μ := ⟨_, rfl, h⟩
theorem i_frz (h : Te ρ μ fun d μ1 => frz d μ1 Q) : dFrz Te ρ μ Q := h
theorem i_frzL (e : μ a = some (.lst xs)) (h : Q (.lst xs) (mdel μ a)) : frz (.ptr a) μ Q := by unfold frz; simp only; rw [e]; exact h
theorem i_lc {k : Bool} {I : TDI} {vs : List Nat} (h : I ρ μ fun xs μ1 => ∀ p, μ1 p = none → compL g t Te p (wipeD ρ vs) (fun μ2 => endL k p μ2 Q) xs (mup μ1 p (.lst []))) : dLc k I g t Te vs ρ μ Q := h
theorem i_call {S : DSp} (h : TA ρ μ fun ds μ1 => S ds μ1 Q noX) : dCall S TA ρ μ Q := h
theorem i_isi {Ty : String} {b : Bool} (h : Te ρ μ fun d μ1 => ∃ b, isiD Ty (vw μ1 d) = some b ∧ Q (.bl b) μ1) : dIsi Ty Te ρ μ Q := h
theorem i_kd {tbl : Str → Option Str} (h : Te ρ μ fun d μ1 => ∃ s v, d = .str s ∧ tbl s = some v ∧ Q (.str v) μ1) : dKd tbl Te ρ μ Q := h
theorem i_yes (h : Qb true μ) : dYes ρ μ Qb := h
-- operators on values
theorem i_addI (h : Q (.int (i + j)) μ) : opAdd (.int i) (.int j) μ Q := h
theorem i_addS {s r : List Nat} (l : s.length + r.length ≤ 16000000) (h : Q (.str (mk (s ++ r))) μ) : opAdd (.str (mk s)) (.str (mk r)) μ Q := by
  unfold opAdd; simp only [vw_str]; exact ⟨by rw [mk_length, mk_length]; exact sz_le l, by rw [mk_append]; exact h⟩
theorem i_addL (e1 : vw μ x = .lst xs) (e2 : vw μ y = .lst ys) (l : xs.length + ys.length ≤ 16000000) (h : Q (.lst (xs ++ ys)) μ) : opAdd x y μ Q := by
  unfold opAdd; rw [e1, e2]; exact ⟨sz_le l, h⟩
theorem i_z0 {f : Int → Int → D} (h : Q (f i j) μ) : opZ0 f (.int i) (.int j) μ Q := h
theorem i_z {C : Int → Int → Prop} {f : Int → Int → D} (hc : C i j) (h : Q (f i j) μ) : opZ C f (.int i) (.int j) μ Q := ⟨hc, h⟩
theorem i_eqI {n : Bool} (h : Q (.bl (n ^^ decide (i = j))) μ) : eqW n (.int i) (.int j) μ Q := h
theorem i_eqS {n : Bool} {s r : Str} (h : Q (.bl (n ^^ decide (s = r))) μ) : eqW n (.str s) (.str r) μ Q := h
theorem i_eqB {n : Bool} {s r : Bool} (h : Q (.bl (n ^^ decide (s = r))) μ) : eqW n (.bl s) (.bl r) μ Q := h
theorem i_isN {n : Bool} (h : Q (.bl (n ^^ isNonD d)) μ) : opIs n d .non μ Q := h
theorem i_ixL (e : vw μ x = .lst xs) (l : atI xs i = some d) (h : Q d μ) : opIx x (.int i) μ Q := by unfold opIx; rw [e]; exact ⟨d, l, h⟩
theorem i_ixT (e : vw μ x = .tup xs) (l : atI xs i = some d) (h : Q d μ) : opIx x (.int i) μ Q := by unfold opIx; rw [e]; exact ⟨d, l, h⟩
theorem i_ixS {s : List Nat} {n : Nat} (b : s.length ≤ 16000000) (l : atI s i = some n) (h : Q (.str (mk [n])) μ) : opIx (.str (mk s)) (.int i) μ Q := by
  unfold opIx; simp only [vw_str]; exact ⟨by rw [mk_length]; exact sz_le b, n, by rw [mk_cps]; exact l, h⟩
theorem i_lenL (e : vw μ x = .lst xs) (h : Q (.int xs.length) μ) : cLen [x] μ Q := by unfold cLen; simp only; rw [e]; exact h
theorem i_lenT (e : vw μ x = .tup xs) (h : Q (.int xs.length) μ) : cLen [x] μ Q := by unfold cLen; simp only; rw [e]; exact h
theorem i_lenS {s : List Nat} (b : s.length ≤ 16000000) (h : Q (.int s.length) μ) : cLen [.str (mk s)] μ Q := by
  unfold cLen; simp only [vw_str]; exact ⟨by rw [mk_length]; exact sz_le b, by rw [mk_length]; exact h⟩
theorem i_int (h : Q (.int i) μ) : cInt [.int i] μ Q := h
theorem i_listL {k : Bool} (e : vw μ x = .lst xs) (h : mkL k xs μ Q) : cList k [x] μ Q := by unfold cList; simp only; rw [e]; exact h
theorem i_listT {k : Bool} (e : vw μ x = .tup xs) (h : mkL k xs μ Q) : cList k [x] μ Q := by unfold cList; simp only; rw [e]; exact h
theorem i_append (e : μ a = some (.lst xs)) (l : xs.length ≤ 16000000) (h : Q .non (mup μ a (.lst (xs ++ [d])))) : mAppend (.ptr a) [d] μ Q := ⟨xs, e, sz_lt l, h⟩
theorem i_rng1 (h : TA ρ μ fun ds μ1 => match ds with | [.int j] => (-(2 ^ 62) ≤ j ∧ j < 2 ^ 62) ∧ Ql (rngD 0 j) μ1 | _ => False) : iRg1 TA ρ μ Ql := h
theorem i_rng2 (h : TA ρ μ fun ds μ1 => match ds with | [.int i, .int j] => (-(2 ^ 62) ≤ i ∧ i < 2 ^ 62 ∧ -(2 ^ 62) ≤ j ∧ j < 2 ^ 62) ∧ Ql (rngD i j) μ1 | _ => False) : iRg2 TA ρ μ Ql := h
theorem i_endF (e : μ a = some (.lst xs)) (h : Q (.lst xs) (mdel μ a)) : endL false a μ Q := ⟨xs, e, h⟩
theorem i_endT (h : Q (.ptr a) μ) : endL true a μ Q := h
theorem ite_b {b : Bool} {A B : Prop} (h1 : b = true → A) (h2 : b = false → B) : if b = true then A else B := by
  cases b with
  | true => exact h1 rfl
  | false => exact h2 rfl
theorem ite_d {p A B : Prop} [Decidable p] (h1 : p → A) (h2 : ¬ p → B) : if decide p = true then A else B := by
  by_cases h : p
  · rw [decide_eq_true h]; exact h1 h
  · rw [decide_eq_false h]; exact h2 h
theorem ite_nd {p A B : Prop} [Decidable p] (h1 : ¬ p → A) (h2 : p → B) : if (!decide p) = true then A else B := by
  by_cases h : p
  · rw [decide_eq_true h]; exact h2 h
  · rw [decide_eq_false h]; exact h1 h
theorem ite_xd {p A B : Prop} [Decidable p] (h1 : p → A) (h2 : ¬ p → B) : if (false ^^ decide p) = true then A else B := by
  rw [Bool.false_xor]; exact ite_d h1 h2
theorem ite_xn {p A B : Prop} [Decidable p] (h1 : ¬ p → A) (h2 : p → B) : if (true ^^ decide p) = true then A else B := by
  rw [Bool.true_xor]; exact ite_nd h1 h2
-- a whole expression at once
theorem v_asg {μ' : Mu} (h : ∀ Q : QD, Q d μ' → Te ρ μ Q) (k : g d ρ μ' E.nx) : dAsg Te g E ρ μ := h _ k
theorem v_ret {μ' : Mu} (h : ∀ Q : QD, Q d μ' → Te ρ μ Q) (k : E.rt d μ') : dRet Te E ρ μ := h _ k
theorem v_drop {μ' : Mu} (h : ∀ Q : QD, Q d μ' → Te ρ μ Q) (k : E.nx ρ μ') : dDrop Te E ρ μ := h _ k
theorem v_if {μ' : Mu} {b : Bool} (h : ∀ Q : Bool → Mu → Prop, Q b μ' → c ρ μ Q) (k : if b = true then T E ρ μ' else U E ρ μ') : dIfS c T U E ρ μ := h _ k
theorem v_for {μ' : Mu} {I : TDI} (h : ∀ Q : List D → Mu → Prop, Q xs μ' → I ρ μ Q) (k : loopL g T E xs ρ μ') : dFor I g T E ρ μ := h _ k
theorem v_sub {μ' μ2 : Mu} {To Ti : TDE} {o i' : D} {Qr : DR → Mu → Prop} (h1 : ∀ Q : QD, Q o μ' → To ρ μ Q) (h2 : ∀ Q : QD, Q i' μ2 → Ti ρ μ' Q) (k : setD o i' d μ2 fun μ3 => Qr ρ μ3) : dgSub To Ti d ρ μ Qr := h1 _ (h2 _ k)
theorem ite_Qb {p b : Bool} : (if p = true then Qb b μ else Qb false μ) = Qb (p && b) μ := by cases p <;> rfl
theorem ite_Qo {p b : Bool} : (if p = true then Qb true μ else Qb b μ) = Qb (p || b) μ := by cases p <;> rfl
theorem ite_Vb {p b : Bool} : (if p = true then Q (.bl b) μ else Q (.bl false) μ) = Q (.bl (p && b)) μ := by cases p <;> rfl
theorem ite_Vo {p b : Bool} : (if p = true then Q (.bl true) μ else Q (.bl b) μ) = Q (.bl (p || b)) μ := by cases p <;> rfl
end
end DL

/-! DLB: plain lemmas more. -/
namespace DL
open PySem PySem.Spec PyProof.Rows L2
@[simp] theorem rngD_len (lo hi : Int) : (rngD lo hi).length = (hi - lo).toNat := by simp [rngD]
theorem rngD_mem {lo hi : Int} {x : D} (h : x ∈ rngD lo hi) : ∃ i, x = .int i ∧ lo ≤ i ∧ i < hi := by
  unfold rngD at h
  obtain ⟨k, hk, rfl⟩ := List.mem_map.mp h
  rw [List.mem_range] at hk
  exact ⟨_, rfl, by omega, by omega⟩
@[simp] theorem rngD_02 : rngD 0 2 = [.int 0, .int 1] := rfl
@[simp] theorem rngD_03 : rngD 0 3 = [.int 0, .int 1, .int 2] := rfl
theorem ofString_nil : (Str.ofString "") = mk [] := rfl
theorem glue_nil : ∀ (ps : List (List Nat)) (acc : Array Nat), (ps.map mk).foldl (fun acc p => acc ++ (mk []).cps ++ p.cps) acc = acc ++ ps.flatten.toArray
  | [], acc => by simp
  | a :: r, acc => by
    simp only [List.map_cons, List.foldl_cons]
    rw [glue_nil r]
    simp
theorem joinE (ps : List (List Nat)) : Txt.join (mk []) (ps.map mk) = mk ps.flatten := by
  cases ps with
  | nil => rfl
  | cons a r =>
    show Builtin.Str.glued (mk []) (mk a :: r.map mk) = _
    unfold Builtin.Str.glued
    simp only [List.drop_succ_cons, List.drop_zero, List.headD_cons]
    rw [glue_nil r]
    simp [mk]
theorem sum_mk (ps : List (List Nat)) : ((ps.map mk).map (·.length)).sum = ps.flatten.length := by
  induction ps with
  | nil => rfl
  | cons a r ih => simp only [List.map_cons, List.sum_cons, ih, List.flatten_cons, List.length_append, mk_length]
theorem strsOf_mk (ps : List (List Nat)) : strsOf (ps.map fun p => D.str (mk p)) = some (ps.map mk) := by
  rw [show (ps.map fun p => D.str (mk p)) = (ps.map mk).map D.str by rw [List.map_map]; rfl]; exact strsOf_map _
theorem set_last {α : Type} (xs : List α) (x y : α) : (xs ++ [x]).set xs.length y = xs ++ [y] := by
  rw [List.set_append_right _ _ (Nat.le_refl _), Nat.sub_self]; rfl
theorem ixN_last {α : Type} (xs : List α) (x : α) : ixN (xs ++ [x]).length (-1) = some xs.length := by
  rw [ixN_m1 (by simp)]; simp
theorem cutD_map {α β : Type} (f : α → β) (xs : List α) (lo hi : Option Int) : cutD (xs.map f) lo hi = (cutD xs lo hi).map f := by
  unfold cutD; simp
theorem cutD_upto {α : Type} (xs : List α) {i : Int} (h : 0 ≤ i) : cutD xs none (some i) = xs.take i.toNat := by
  obtain ⟨j, rfl⟩ := Int.eq_ofNat_of_zero_le h; rw [cutD_to]; simp
theorem cutD_behind {α : Type} (xs : List α) {i : Int} (h : 0 ≤ i) : cutD xs (some i) none = xs.drop i.toNat := by
  obtain ⟨j, rfl⟩ := Int.eq_ofNat_of_zero_le h; rw [cutD_from]; simp

/-! comprehensions: what the turn reads told after the frame is known -/
section
variable {X : Cx} {pos : Pos}
abbrev Fam (α : Type) := Shared → Hp → Addr → List (Str × Addr) → List Addr → α
theorem de_lcA (c : Bool) {elt tg iter : Expr} {ifs : List Expr} {scope : Scope} {own : List (Str × Nat)} {wi : TI} {I : TDI} {g : TG} {U : TDG} {tt : TT} {tt' : Fam TT} {Tt : TDT} {te : TE} {te' : Fam TE} {Te : TDE} (hc : X.calm = true) (hN : X.N.Nodup) (hi : DI X B tg iter wi I) (ok : BlkOk X.N X.env.scope scope own)
    (hg : ∀ (s : Shared) (H : Hp) (C : Addr) (cl : List (Str × Addr)) (fp : List Addr), DG (X.blk s H scope (compEnvC scope cl C X.env) fp) B tg g U) (hk : KeepG g (own.map (·.2))) (ht : ∀ (s : Shared) (H : Hp) (C : Addr) (cl : List (Str × Addr)) (fp : List Addr), DTs (X.blk s H scope (compEnvC scope cl C X.env) fp) B ifs (tt' s H C cl fp) Tt)
    (he : ∀ (s : Shared) (H : Hp) (C : Addr) (cl : List (Str × Addr)) (fp : List Addr), DE (X.blk s H scope (compEnvC scope cl C X.env) fp) B elt (te' s H C cl fp) Te)
    (et : tt' = fun _ _ _ _ _ => tt := by (first | rfl | (simp only [Cx.blk]; rfl))) (ee : te' = fun _ _ _ _ _ => te := by (first | rfl | (simp only [Cx.blk]; rfl))) (hs : ∀ x, foldedSetIterable iter X.env x = pure x := by intro _; rfl) :
    DE X B (.ListComp elt [⟨tg, iter, ifs, 0⟩] scope pos) (tLc wi g tt te (own.map (·.2))) (dLc c I U Tt Te (own.map (·.2))) := by
  subst et; subst ee
  exact de_lc c hc hN hi ok hg hk ht he hs
theorem ds_setLcA (c : Bool) (i : Nat) {y : Str} {py : Pos} {elt tg iter : Expr} {ifs : List Expr} {scope : Scope} {own : List (Str × Nat)} {spos : Pos} {wi : TI} {I : TDI} {g : TG} {U : TDG} {tt : TT} {tt' : Fam TT} {Tt : TDT} {te : TE} {te' : Fam TE} {Te : TDE} (hc : X.calm = true) (hN : X.N.Nodup) (hy : X.N[i]? = some y) (hyl : X.env.scope.names.lookup y = some .local)
    (hsw : swapsWith (.ListComp elt [⟨tg, iter, ifs, 0⟩] scope pos) (some (.Name y py)) spos.line X.env = pure true) (hi : DI X B tg iter wi I) (ok : BlkOk X.N X.env.scope scope own)
    (hg : ∀ (s : Shared) (H : Hp) (C : Addr) (cl : List (Str × Addr)) (fp : List Addr), DG (X.blk s H scope (compEnvC scope cl C X.env) fp) B tg g U) (hk : KeepG g (own.map (·.2))) (ht : ∀ (s : Shared) (H : Hp) (C : Addr) (cl : List (Str × Addr)) (fp : List Addr), DTs (X.blk s H scope (compEnvC scope cl C X.env) fp) B ifs (tt' s H C cl fp) Tt)
    (he : ∀ (s : Shared) (H : Hp) (C : Addr) (cl : List (Str × Addr)) (fp : List Addr), DE (X.blk s H scope (compEnvC scope cl C X.env) fp) B elt (te' s H C cl fp) Te)
    (et : tt' = fun _ _ _ _ _ => tt := by (first | rfl | (simp only [Cx.blk]; rfl))) (ee : te' = fun _ _ _ _ _ => te := by (first | rfl | (simp only [Cx.blk]; rfl))) (hs : ∀ x, foldedSetIterable iter X.env x = pure x := by intro _; rfl) :
    DS X B (.Assign [.Name y py] (.ListComp elt [⟨tg, iter, ifs, 0⟩] scope pos) spos) (tAsg (tLc wi g tt te (own.map (·.2))) (gName i)) (dAsg (dLc c I U Tt Te (own.map (·.2))) (dgName i)) := by
  subst et; subst ee
  exact ds_setLc c i hc hN hy hyl hsw hi ok hg hk ht he hs
end
end DL

/-! DLC: readings unfold before their parts are looked at. -/
namespace DL
open PySem PySem.Spec PyProof.Rows L2
def oS {α : Type} (o : Option α) (P : α → Prop) : Prop := match o with | some d => P d | none => False
@[simp ↓] theorem oS_p {α : Type} {o : Option α} {P : α → Prop} : oS o P = (match o with | some d => P d | none => False) := id rfl
theorem oS_eq {α : Type} {o : Option α} {P : α → Prop} : oS o P = (∃ d, o = some d ∧ P d) := by cases o <;> simp [oS]
def lS (v : D) (P : List D → Prop) : Prop := match v with | .lst xs => P xs | _ => False
@[simp ↓] theorem lS_p {v : D} {P : List D → Prop} : lS v P = (match v with | .lst xs => P xs | _ => False) := id rfl
theorem lS_eq {v : D} {P : List D → Prop} : lS v P = (∃ xs, v = .lst xs ∧ P xs) := by cases v <;> simp [lS]
def tS (v : D) (P : List D → Prop) : Prop := match v with | .tup xs => P xs | _ => False
@[simp ↓] theorem tS_p {v : D} {P : List D → Prop} : tS v P = (match v with | .tup xs => P xs | _ => False) := id rfl
theorem tS_eq {v : D} {P : List D → Prop} : tS v P = (∃ xs, v = .tup xs ∧ P xs) := by cases v <;> simp [tS]
def dS (v : D) (P : List (Key × D) → Prop) : Prop := match v with | .dic xs => P xs | _ => False
@[simp ↓] theorem dS_p {v : D} {P : List (Key × D) → Prop} : dS v P = (match v with | .dic xs => P xs | _ => False) := id rfl
theorem dS_eq {v : D} {P : List (Key × D) → Prop} : dS v P = (∃ xs, v = .dic xs ∧ P xs) := by cases v <;> simp [dS]
def sS (v : D) (P : Str → Prop) : Prop := match v with | .str xs => P xs | _ => False
@[simp ↓] theorem sS_p {v : D} {P : Str → Prop} : sS v P = (match v with | .str xs => P xs | _ => False) := id rfl
theorem sS_eq {v : D} {P : Str → Prop} : sS v P = (∃ xs, v = .str xs ∧ P xs) := by cases v <;> simp [sS]
def pS (v : D) (P : Addr → Prop) : Prop := match v with | .ptr xs => P xs | _ => False
@[simp ↓] theorem pS_p {v : D} {P : Addr → Prop} : pS v P = (match v with | .ptr xs => P xs | _ => False) := id rfl
theorem pS_eq {v : D} {P : Addr → Prop} : pS v P = (∃ xs, v = .ptr xs ∧ P xs) := by cases v <;> simp [pS]
def cS (v : Option Cell) (P : List D → Prop) : Prop := match v with | some (.lst xs) => P xs | _ => False
@[simp ↓] theorem cS_p {v : Option Cell} {P : List D → Prop} : cS v P = (match v with | some (.lst xs) => P xs | _ => False) := id rfl
theorem cS_eq {v : Option Cell} {P : List D → Prop} : cS v P = (∃ xs, v = some (.lst xs) ∧ P xs) := by
  cases v with
  | none => simp [cS]
  | some c => cases c <;> simp [cS]
def cdS (v : Option Cell) (P : List (Key × D) → Prop) : Prop := match v with | some (.dic xs) => P xs | _ => False
@[simp ↓] theorem cdS_p {v : Option Cell} {P : List (Key × D) → Prop} : cdS v P = (match v with | some (.dic xs) => P xs | _ => False) := id rfl
theorem cdS_eq {v : Option Cell} {P : List (Key × D) → Prop} : cdS v P = (∃ xs, v = some (.dic xs) ∧ P xs) := by
  cases v with
  | none => simp [cdS]
  | some c => cases c <;> simp [cdS]
def oneC (s : Str) : Option Nat := match s.cps.toList with | [c] => some c | _ => none
@[simp] theorem oneC_mk (c : Nat) : oneC (mk [c]) = some c := id rfl
theorem oneC_eq {s : Str} {P : Nat → Prop} : oS (oneC s) P = (∃ c, s = mk [c] ∧ P c) := by
  rw [oS_eq]
  refine propext ⟨fun ⟨c, h, q⟩ => ⟨c, ?_, q⟩, fun ⟨c, h, q⟩ => ⟨c, by rw [h]; rfl, q⟩⟩
  unfold oneC at h
  split at h
  · next d e => cases h; rw [← DL.mk_of s, e]
  · cases h
@[simp ↓] theorem compL_cons_p {g : TDG} {tt : TDT} {te : TDE} {p : Addr} {ρ0 : DR} {Q : Mu → Prop} {x : D} {r : List D} {μ : Mu} : compL g tt te p ρ0 Q (x :: r) μ = (g x ρ0 μ fun ρ2 μ2 => tt ρ2 μ2 fun b μ3 => if b = true then te ρ2 μ3 fun d μ4 => cS (μ4 p) fun acc => acc.length < sizeLine ∧ compL g tt te p ρ0 Q r (mup μ4 p (.lst (acc ++ [d]))) else compL g tt te p ρ0 Q r μ3) := by
  simp only [cS_eq]; rfl
@[simp ↓] theorem compL_nil_p {g : TDG} {tt : TDT} {te : TDE} {p : Addr} {ρ0 : DR} {Q : Mu → Prop} {μ : Mu} : compL g tt te p ρ0 Q [] μ = Q μ := id rfl
@[simp ↓] theorem loopL_nil_p {g : TDG} {T : TDS} {E : DEnds} {ρ : DR} {μ : Mu} : loopL g T E [] ρ μ = E.nx ρ μ := id rfl
/-- the ends of a first statement, of a turn -/
def sqE (E : DEnds) (N : DR → Mu → Prop) : DEnds := { E with nx := N }
def lpE (E : DEnds) (N : DR → Mu → Prop) : DEnds := { E with nx := N, ct := N, bk := E.nx }
section
variable {E : DEnds} {N : DR → Mu → Prop} {ρ : DR} {μ : Mu} {d : D}
@[simp ↓] theorem sqE_nx : (sqE E N).nx ρ μ = N ρ μ := id rfl
@[simp ↓] theorem sqE_rt : (sqE E N).rt d μ = E.rt d μ := id rfl
@[simp ↓] theorem sqE_bk : (sqE E N).bk ρ μ = E.bk ρ μ := id rfl
@[simp ↓] theorem sqE_ct : (sqE E N).ct ρ μ = E.ct ρ μ := id rfl
@[simp ↓] theorem lpE_nx : (lpE E N).nx ρ μ = N ρ μ := id rfl
@[simp ↓] theorem lpE_rt : (lpE E N).rt d μ = E.rt d μ := id rfl
@[simp ↓] theorem lpE_bk : (lpE E N).bk ρ μ = E.nx ρ μ := id rfl
@[simp ↓] theorem lpE_ct : (lpE E N).ct ρ μ = N ρ μ := id rfl
@[simp ↓] theorem dSeq_p {T U : TDS} : dSeq T U E ρ μ = T (sqE E (U E)) ρ μ := id rfl
@[simp ↓] theorem dRet_p {T : TDE} : dRet T E ρ μ = T ρ μ fun d μ1 => E.rt d μ1 := id rfl
end
@[simp ↓] theorem loopL_cons_p {g : TDG} {T : TDS} {E : DEnds} {x : D} {r : List D} {ρ : DR} {μ : Mu} : loopL g T E (x :: r) ρ μ = g x ρ μ fun ρ2 μ2 => T (lpE E (loopL g T E r)) ρ2 μ2 := id rfl
@[simp ↓] theorem dVar_p {i : Nat} {ρ} {μ} {Q} : dVar i ρ μ Q = (match ρ[i]? with | some (some d) => Q d μ | _ => False) := id rfl
@[simp ↓] theorem dC_p {d : D} {z0} {μ} {Q} : dC d z0 μ Q = (Q d μ) := id rfl
@[simp ↓] theorem dNil_p {z0} {μ} {Q} : dNil  z0 μ Q = (Q [] μ) := id rfl
@[simp ↓] theorem dCons_p {Ta : TDE} {Tr : TDA} {ρ} {μ} {Q} : dCons Ta Tr ρ μ Q = (Ta ρ μ fun d μ1 => Tr ρ μ1 fun ds μ2 => Q (d :: ds) μ2) := id rfl
@[simp ↓] theorem dLst_p {c : Bool} {T : TDA} {ρ} {μ} {Q} : dLst c T ρ μ Q = (T ρ μ fun ds μ1 => ds.length ≤ sizeLine ∧ mkL c ds μ1 Q) := id rfl
@[simp ↓] theorem dTup_p {T : TDA} {ρ} {μ} {Q} : dTup T ρ μ Q = (T ρ μ fun ds μ1 => ds.length ≤ sizeLine ∧ Q (.tup ds) μ1) := id rfl
@[simp ↓] theorem dOp_p {R : R2D} {Ta Tb : TDE} {ρ} {μ} {Q} : dOp R Ta Tb ρ μ Q = (Ta ρ μ fun x μ1 => Tb ρ μ1 fun y μ2 => R x y μ2 Q) := id rfl
@[simp ↓] theorem dB_p {T : TDE} {ρ} {μ} {Q} : dB T ρ μ Q = (T ρ μ fun d μ1 => match d with | .bl b => Q b μ1 | _ => False) := id rfl
@[simp ↓] theorem opAdd_p {x} {y} {μ} {Q} : opAdd  x y μ Q = (match vw μ x, vw μ y with
  | .int i, .int j => Q (.int (i + j)) μ
  | .str s, .str t => s.length + t.length ≤ sizeLine ∧ Q (.str (s ++ t)) μ
  | .lst xs, .lst ys => xs.length + ys.length ≤ sizeLine ∧ Q (.lst (xs ++ ys)) μ
  | _, _ => False) := id rfl
@[simp ↓] theorem opAddC_p {x} {y} {μ} {Q} : opAddC  x y μ Q = (match vw μ x, vw μ y with
  | .lst xs, .lst ys => xs.length + ys.length ≤ sizeLine ∧ mkL true (xs ++ ys) μ Q
  | _, _ => False) := id rfl
@[simp ↓] theorem opZ_p {C : Int → Int → Prop} {g : Int → Int → D} {x} {y} {μ} {Q} : opZ C g x y μ Q = (match x, y with
  | .int i, .int j => C i j ∧ Q (g i j) μ
  | _, _ => False) := id rfl
@[simp ↓] theorem opZ0_p {g : Int → Int → D} {x} {y} {μ} {Q} : opZ0 g x y μ Q = (match x, y with
  | .int i, .int j => Q (g i j) μ
  | _, _ => False) := id rfl
@[simp ↓] theorem eqW_p {neg : Bool} {x} {y} {μ} {Q} : eqW neg x y μ Q = (match vw μ x, vw μ y with
  | .int i, .int j => Q (.bl (neg ^^ decide (i = j))) μ
  | .str i, .str j => Q (.bl (neg ^^ decide (i = j))) μ
  | .bl i, .bl j => Q (.bl (neg ^^ decide (i = j))) μ
  | .non, .non => Q (.bl (neg ^^ true)) μ
  | .non, .str _ => Q (.bl (neg ^^ false)) μ
  | .str _, .non => Q (.bl (neg ^^ false)) μ
  | .non, .int _ => Q (.bl (neg ^^ false)) μ
  | .int _, .non => Q (.bl (neg ^^ false)) μ
  | .lst xs, .lst ys => oS (pyL xs) fun ds => oS (pyL ys) fun es => SeqAt.shaped (.list ds) = true ∧ SeqAt.shaped (.list es) = true ∧ Q (.bl (neg ^^ PyData.eqvAll ds es)) μ
  | .tup xs, .tup ys => oS (pyL xs) fun ds => oS (pyL ys) fun es => SeqAt.shaped (.tuple ds) = true ∧ SeqAt.shaped (.tuple es) = true ∧ Q (.bl (neg ^^ PyData.eqvAll ds es)) μ
  | _, _ => False) := by
  first | (simp only [oS_eq, lS_eq, tS_eq, dS_eq, sS_eq, pS_eq, cS_eq, cdS_eq]; rfl) | (simp only [oS_eq, lS_eq, tS_eq, dS_eq, sS_eq, pS_eq, cS_eq, cdS_eq, oneC_eq, ← exists_and_left]; rfl)
@[simp ↓] theorem opIs_p {neg : Bool} {x} {y} {μ} {Q} : opIs neg x y μ Q = (match y with
  | .non => Q (.bl (neg ^^ isNonD x)) μ
  | _ => False) := id rfl
@[simp ↓] theorem inSeq_p {neg : Bool} {x : D} {xs : List D} {μ : Mu} {Q : QD} : inSeq neg x xs μ Q  = (match x with
  | .str s => oS (strsOf xs) fun ss => Q (.bl (neg ^^ decide (s ∈ ss))) μ
  | .int s => oS (intsOf xs) fun ss => Q (.bl (neg ^^ decide (s ∈ ss))) μ
  | _ => False) := by
  first | (simp only [oS_eq, lS_eq, tS_eq, dS_eq, sS_eq, pS_eq, cS_eq, cdS_eq]; rfl) | (simp only [oS_eq, lS_eq, tS_eq, dS_eq, sS_eq, pS_eq, cS_eq, cdS_eq, oneC_eq, ← exists_and_left]; rfl)
@[simp ↓] theorem inW_p {neg : Bool} {x} {y} {μ} {Q} : inW neg x y μ Q = (match vw μ y with
  | .lst xs => inSeq neg x xs μ Q
  | .tup xs => inSeq neg x xs μ Q
  | .str t => match x with
    | .str s => oS (oneC s) fun c => Q (.bl (neg ^^ decide (c ∈ t.cps.toList))) μ
    | _ => False
  | _ => False) := by
  simp only [oneC_eq]; rfl
@[simp ↓] theorem opIx_p {x} {y} {μ} {Q} : opIx  x y μ Q = (match vw μ x, y with
  | .lst xs, .int i => oS (atI xs i) fun d => Q d μ
  | .tup xs, .int i => oS (atI xs i) fun d => Q d μ
  | .str s, .int i => s.length ≤ sizeLine ∧ oS (atI s.cps.toList i) fun c => Q (.str (mk [c])) μ
  | _, _ => False) := by
  first | (simp only [oS_eq, lS_eq, tS_eq, dS_eq, sS_eq, pS_eq, cS_eq, cdS_eq]; rfl) | (simp only [oS_eq, lS_eq, tS_eq, dS_eq, sS_eq, pS_eq, cS_eq, cdS_eq, oneC_eq, ← exists_and_left]; rfl)
@[simp ↓] theorem dNoPart_p {z0} {μ} {Q} : dNoPart  z0 μ Q = (Q none μ) := id rfl
@[simp ↓] theorem dPart_p {T : TDE} {ρ} {μ} {Q} : dPart T ρ μ Q = (T ρ μ fun d μ1 => match d with | .int i => Q (some i) μ1 | _ => False) := id rfl
@[simp ↓] theorem slW_p {c : Bool} {x : D} {lo hi : Option Int} {μ : Mu} {Q : QD} : slW c x lo hi μ Q  = (match vw μ x with
  | .lst xs => mkL c (cutD xs lo hi) μ Q
  | .str s => s.length ≤ sizeLine ∧ Q (.str (cutS s lo hi)) μ
  | _ => False) := id rfl
@[simp ↓] theorem dSl_p {c : Bool} {T : TDE} {Tl Th : TDO} {ρ} {μ} {Q} : dSl c T Tl Th ρ μ Q = (T ρ μ fun x μ1 => Tl ρ μ1 fun l μ2 => Th ρ μ2 fun u μ3 => slW c x l u μ3 Q) := id rfl
@[simp ↓] theorem dCB_p {R : RCD} {T : TDA} {ρ} {μ} {Q} : dCB R T ρ μ Q = (T ρ μ fun ds μ1 => R ds μ1 Q) := id rfl
@[simp ↓] theorem cLen_p {ds} {μ} {Q} : cLen  ds μ Q = (match ds with
  | [x] => match vw μ x with
    | .lst xs => Q (.int xs.length) μ
    | .tup xs => Q (.int xs.length) μ
    | .str s => s.length ≤ sizeLine ∧ Q (.int s.length) μ
    | .scr ns => Q (.int ns.length) μ
    | _ => False
  | _ => False) := id rfl
@[simp ↓] theorem cList_p {c : Bool} {ds} {μ} {Q} : cList c ds μ Q = (match ds with
  | [x] => match vw μ x with
    | .lst xs => mkL c xs μ Q
    | .tup xs => mkL c xs μ Q
    | .scr ns => mkL c (ns.map .int) μ Q
    | _ => False
  | _ => False) := id rfl
@[simp ↓] theorem cInt_p {ds} {μ} {Q} : cInt  ds μ Q = (match ds with
  | [.int i] => Q (.int i) μ
  | [.bl b] => Q (.int (if b then 1 else 0)) μ
  | _ => False) := id rfl
@[simp ↓] theorem cMin2_p {ds} {μ} {Q} : cMin2  ds μ Q = (match ds with
  | [.int i, .int j] => Q (.int (if j < i then j else i)) μ
  | _ => False) := id rfl
@[simp ↓] theorem cMax2_p {ds} {μ} {Q} : cMax2  ds μ Q = (match ds with
  | [.int i, .int j] => Q (.int (if j > i then j else i)) μ
  | _ => False) := id rfl
@[simp ↓] theorem cAll_p {ds} {μ} {Q} : cAll  ds μ Q = (match ds with
  | [x] => lS (vw μ x) fun xs => oS (blsOf xs) fun bs => Q (.bl (bs.all id)) μ
  | _ => False) := by
  first | (simp only [oS_eq, lS_eq, tS_eq, dS_eq, sS_eq, pS_eq, cS_eq, cdS_eq]; rfl) | (simp only [oS_eq, lS_eq, tS_eq, dS_eq, sS_eq, pS_eq, cS_eq, cdS_eq, oneC_eq, ← exists_and_left]; rfl)
@[simp ↓] theorem cAny_p {ds} {μ} {Q} : cAny  ds μ Q = (match ds with
  | [x] => lS (vw μ x) fun xs => oS (blsOf xs) fun bs => Q (.bl (bs.any id)) μ
  | _ => False) := by
  first | (simp only [oS_eq, lS_eq, tS_eq, dS_eq, sS_eq, pS_eq, cS_eq, cdS_eq]; rfl) | (simp only [oS_eq, lS_eq, tS_eq, dS_eq, sS_eq, pS_eq, cS_eq, cdS_eq, oneC_eq, ← exists_and_left]; rfl)
@[simp ↓] theorem dBM_p {T : String} {R : RMD} {To : TDE} {Ta : TDA} {ρ} {μ} {Q} : dBM T R To Ta ρ μ Q = (To ρ μ fun x μ1 => isTyD T (vw μ1 x) ∧ Ta ρ μ1 fun ds μ2 => R x ds μ2 Q) := id rfl
@[simp ↓] theorem mAppend_p {x} {ds} {μ} {Q} : mAppend  x ds μ Q = (match x, ds with
  | .ptr a, [d] => cS (μ a) fun xs => xs.length < sizeLine ∧ Q .non (mup μ a (.lst (xs ++ [d])))
  | _, _ => False) := by
  first | (simp only [oS_eq, lS_eq, tS_eq, dS_eq, sS_eq, pS_eq, cS_eq, cdS_eq]; rfl) | (simp only [oS_eq, lS_eq, tS_eq, dS_eq, sS_eq, pS_eq, cS_eq, cdS_eq, oneC_eq, ← exists_and_left]; rfl)
@[simp ↓] theorem mPop_p {x} {ds} {μ} {Q} : mPop  x ds μ Q = (match x, ds with
  | .ptr a, [] => ∃ xs d, μ a = some (.lst (xs ++ [d])) ∧ Q d (mup μ a (.lst xs))
  | _, _ => False) := id rfl
@[simp ↓] theorem mInsert_p {x} {ds} {μ} {Q} : mInsert  x ds μ Q = (match x, ds with
  | .ptr a, [.int i, d] => cS (μ a) fun xs => xs.length < sizeLine ∧ 0 ≤ i ∧ i < 2 ^ 63 ∧ Q .non (mup μ a (.lst (xs.take i.toNat ++ d :: xs.drop i.toNat)))
  | _, _ => False) := by
  first | (simp only [oS_eq, lS_eq, tS_eq, dS_eq, sS_eq, pS_eq, cS_eq, cdS_eq]; rfl) | (simp only [oS_eq, lS_eq, tS_eq, dS_eq, sS_eq, pS_eq, cS_eq, cdS_eq, oneC_eq, ← exists_and_left]; rfl)
@[simp ↓] theorem mStarts_p {x} {ds} {μ} {Q} : mStarts  x ds μ Q = (match x, ds with
  | .str a, [.str b] => Q (.bl (Txt.startswith a b)) μ
  | _, _ => False) := id rfl
@[simp ↓] theorem mEnds_p {x} {ds} {μ} {Q} : mEnds  x ds μ Q = (match x, ds with
  | .str a, [.str b] => Q (.bl (Txt.endswith a b)) μ
  | _, _ => False) := id rfl
@[simp ↓] theorem mSplit_p {c : Bool} {x} {ds} {μ} {Q} : mSplit c x ds μ Q = (match x, ds with
  | .str a, [.str b] => (b.length == 0) = false ∧ a.length + 2 ≤ sizeLine ∧ mkL c ((Txt.split a b).map .str) μ Q
  | _, _ => False) := id rfl
@[simp ↓] theorem dAnd_p {t u : TDT} {ρ} {μ} {Q} : dAnd t u ρ μ Q = (t ρ μ fun c μ1 => if c = true then u ρ μ1 Q else Q false μ1) := id rfl
@[simp ↓] theorem dOr_p {t u : TDT} {ρ} {μ} {Q} : dOr t u ρ μ Q = (t ρ μ fun c μ1 => if c = true then Q true μ1 else u ρ μ1 Q) := id rfl
@[simp ↓] theorem dNot_p {t : TDT} {ρ} {μ} {Q} : dNot t ρ μ Q = (t ρ μ fun c μ1 => Q (!c) μ1) := id rfl
@[simp ↓] theorem dAndV_p {ta tb : TDE} {ρ} {μ} {Q} : dAndV ta tb ρ μ Q = (ta ρ μ fun x μ1 => match x with | .bl c => if c = true then tb ρ μ1 Q else Q (.bl false) μ1 | _ => False) := id rfl
@[simp ↓] theorem dOrV_p {ta tb : TDE} {ρ} {μ} {Q} : dOrV ta tb ρ μ Q = (ta ρ μ fun x μ1 => match x with | .bl c => if c = true then Q (.bl true) μ1 else tb ρ μ1 Q | _ => False) := id rfl
@[simp ↓] theorem dNotV_p {ta : TDE} {ρ} {μ} {Q} : dNotV ta ρ μ Q = (ta ρ μ fun x μ1 => match x with | .bl c => Q (.bl (!c)) μ1 | _ => False) := id rfl
@[simp ↓] theorem dIf_p {t : TDT} {ta tb : TDE} {ρ} {μ} {Q} : dIf t ta tb ρ μ Q = (t ρ μ fun c μ1 => if c = true then ta ρ μ1 Q else tb ρ μ1 Q) := id rfl
@[simp ↓] theorem dNeg_p {T : TDE} {ρ} {μ} {Q} : dNeg T ρ μ Q = (T ρ μ fun d μ1 => match d with | .int i => Q (.int (-i)) μ1 | _ => False) := id rfl
@[simp ↓] theorem dTru_p {T : TDE} {ρ} {μ} {Q} : dTru T ρ μ Q = (T ρ μ fun d μ1 => oS (truD (vw μ1 d)) fun b => Q b μ1) := by
  first | (simp only [oS_eq, lS_eq, tS_eq, dS_eq, sS_eq, pS_eq, cS_eq, cdS_eq]; rfl) | (simp only [oS_eq, lS_eq, tS_eq, dS_eq, sS_eq, pS_eq, cS_eq, cdS_eq, oneC_eq, ← exists_and_left]; rfl)
@[simp ↓] theorem dgName_p {i : Nat} {d} {ρ} {μ} {Q} : dgName i d ρ μ Q = (Q (ρ.set i (some d)) μ) := id rfl
@[simp ↓] theorem dgNil_p {ds} {ρ} {μ} {Q} : dgNil  ds ρ μ Q = (ds = [] ∧ Q ρ μ) := id rfl
@[simp ↓] theorem dgCons_p {T : TDG} {U : TDGs} {ds} {ρ} {μ} {Q} : dgCons T U ds ρ μ Q = (match ds with
  | d :: r => T d ρ μ fun ρ' μ' => U r ρ' μ' Q
  | [] => False) := id rfl
@[simp ↓] theorem dgTup_p {n : Nat} {U : TDGs} {d} {ρ} {μ} {Q} : dgTup n U d ρ μ Q = (tS (vw μ d) fun xs => xs.length = n ∧ U xs ρ μ Q) := by
  first | (simp only [oS_eq, lS_eq, tS_eq, dS_eq, sS_eq, pS_eq, cS_eq, cdS_eq]; rfl) | (simp only [oS_eq, lS_eq, tS_eq, dS_eq, sS_eq, pS_eq, cS_eq, cdS_eq, oneC_eq, ← exists_and_left]; rfl)
@[simp ↓] theorem setD_p {o i d : D} {μ : Mu} {Q : Mu → Prop} : setD o i d μ Q  = (match o, i with
  | .ptr a, .int k => cS (μ a) fun xs => oS (ixN xs.length k) fun j => Q (mup μ a (.lst (xs.set j d)))
  | _, _ => False) := by
  first | (simp only [oS_eq, lS_eq, tS_eq, dS_eq, sS_eq, pS_eq, cS_eq, cdS_eq]; rfl) | (simp only [oS_eq, lS_eq, tS_eq, dS_eq, sS_eq, pS_eq, cS_eq, cdS_eq, oneC_eq, ← exists_and_left]; rfl)
@[simp ↓] theorem dgSub_p {To Ti : TDE} {d} {ρ} {μ} {Q} : dgSub To Ti d ρ μ Q = (To ρ μ fun o μ1 => Ti ρ μ1 fun i μ2 => setD o i d μ2 fun μ3 => Q ρ μ3) := id rfl
@[simp ↓] theorem dNext_p {E} {ρ} {μ} : dNext  E ρ μ = (E.nx ρ μ) := id rfl
@[simp ↓] theorem dBreak_p {E} {ρ} {μ} : dBreak  E ρ μ = (E.bk ρ μ) := id rfl
@[simp ↓] theorem dCont_p {E} {ρ} {μ} : dCont  E ρ μ = (E.ct ρ μ) := id rfl
@[simp ↓] theorem dDrop_p {T : TDE} {E} {ρ} {μ} : dDrop T E ρ μ = (T ρ μ fun _ μ1 => E.nx ρ μ1) := id rfl
@[simp ↓] theorem dRetN_p {E} {z1} {μ} : dRetN  E z1 μ = (E.rt .non μ) := id rfl
@[simp ↓] theorem dIfS_p {c : TDT} {T U : TDS} {E} {ρ} {μ} : dIfS c T U E ρ μ = (c ρ μ fun b μ1 => if b = true then T E ρ μ1 else U E ρ μ1) := id rfl
@[simp ↓] theorem dAsg_p {T : TDE} {g : TDG} {E} {ρ} {μ} : dAsg T g E ρ μ = (T ρ μ fun d μ1 => g d ρ μ1 E.nx) := id rfl
@[simp ↓] theorem dAug_p {i : Nat} {R : R2D} {T : TDE} {E} {ρ} {μ} : dAug i R T E ρ μ = (match ρ[i]? with
  | some (some x) => T ρ μ fun y μ1 => R x y μ1 fun z μ2 => E.nx (ρ.set i (some z)) μ2
  | _ => False) := id rfl
@[simp ↓] theorem dFrzS_p {i : Nat} {T : TDS} {E} {ρ} {μ} : dFrzS i T E ρ μ = (match ρ[i]? with
  | some (some (.ptr a)) => match μ a with
    | some (.lst xs) => T E (ρ.set i (some (.lst xs))) (mdel μ a)
    | _ => False
  | _ => False) := id rfl
@[simp ↓] theorem frz_p {d : D} {μ : Mu} {Q : QD} : frz d μ Q  = (match d with
  | .ptr a => match μ a with
    | some (.lst xs) => Q (.lst xs) (mdel μ a)
    | some (.dic xs) => Q (.dic xs) (mdel μ a)
    | some (.ins C fs) => Q (.obj C fs) (mdel μ a)
    | _ => False
  | d => Q d μ) := id rfl
@[simp ↓] theorem dFrz_p {T : TDE} {ρ} {μ} {Q} : dFrz T ρ μ Q = (T ρ μ fun d μ1 => frz d μ1 Q) := id rfl
@[simp ↓] theorem dFor_p {I : TDI} {g : TDG} {T : TDS} {E} {ρ} {μ} : dFor I g T E ρ μ = (I ρ μ fun xs μ1 => loopL g T E xs ρ μ1) := id rfl
@[simp ↓] theorem iLst_p {T : TDE} {ρ} {μ} {Q} : iLst T ρ μ Q = (T ρ μ fun d μ1 => match d with | .lst xs => Q xs μ1 | _ => False) := id rfl
@[simp ↓] theorem iTupD_p {T : TDE} {ρ} {μ} {Q} : iTupD T ρ μ Q = (T ρ μ fun d μ1 => match d with | .tup xs => Q xs μ1 | _ => False) := id rfl
@[simp ↓] theorem iScr_p {T : TDE} {ρ} {μ} {Q} : iScr T ρ μ Q = (T ρ μ fun d μ1 => match d with | .scr ns => Q (ns.map .int) μ1 | _ => False) := id rfl
@[simp ↓] theorem iRg1_p {T : TDA} {ρ} {μ} {Q} : iRg1 T ρ μ Q = (T ρ μ fun ds μ1 => match ds with | [.int j] => (-(2 ^ 62) ≤ j ∧ j < 2 ^ 62) ∧ Q (rngD 0 j) μ1 | _ => False) := id rfl
@[simp ↓] theorem iRg2_p {T : TDA} {ρ} {μ} {Q} : iRg2 T ρ μ Q = (T ρ μ fun ds μ1 => match ds with | [.int i, .int j] => (-(2 ^ 62) ≤ i ∧ i < 2 ^ 62 ∧ -(2 ^ 62) ≤ j ∧ j < 2 ^ 62) ∧ Q (rngD i j) μ1 | _ => False) := id rfl
@[simp ↓] theorem iTxt_p {T : TDE} {ρ} {μ} {Q} : iTxt T ρ μ Q = (T ρ μ fun d μ1 => match d with | .str s => Q (s.cps.toList.map fun c => .str (mk [c])) μ1 | _ => False) := id rfl
@[simp ↓] theorem endL_p {c : Bool} {p : Addr} {μ : Mu} {Q : QD} : endL c p μ Q  = (match c with
  | true => Q (.ptr p) μ
  | false => cS (μ p) fun acc => Q (.lst acc) (mdel μ p)) := by
  first | (simp only [oS_eq, lS_eq, tS_eq, dS_eq, sS_eq, pS_eq, cS_eq, cdS_eq]; rfl) | (simp only [oS_eq, lS_eq, tS_eq, dS_eq, sS_eq, pS_eq, cS_eq, cdS_eq, oneC_eq, ← exists_and_left]; rfl)
@[simp ↓] theorem dLc_p {c : Bool} {I : TDI} {g : TDG} {tt : TDT} {te : TDE} {vs : List Nat} {ρ} {μ} {Q} : dLc c I g tt te vs ρ μ Q = (I ρ μ fun xs μ1 => ∀ p, μ1 p = none → compL g tt te p (wipeD ρ vs) (fun μ2 => endL c p μ2 Q) xs (mup μ1 p (.lst []))) := id rfl
@[simp ↓] theorem dYes_p {z0} {μ} {Q} : dYes  z0 μ Q = (Q true μ) := id rfl
@[simp ↓] theorem dCall_p {S : DSp} {T : TDA} {ρ} {μ} {Q} : dCall S T ρ μ Q = (T ρ μ fun ds μ1 => S ds μ1 Q noX) := id rfl
@[simp ↓] theorem dDGet_p {Td Tk : TDE} {ρ} {μ} {Q} : dDGet Td Tk ρ μ Q = (Td ρ μ fun x μ1 => Tk ρ μ1 fun y μ2 => dS (vw μ2 x) fun kvs => oS (keyD y) fun k => oS (valD kvs k) fun d => Q d μ2) := by
  first | (simp only [oS_eq, lS_eq, tS_eq, dS_eq, sS_eq, pS_eq, cS_eq, cdS_eq]; rfl) | (simp only [oS_eq, lS_eq, tS_eq, dS_eq, sS_eq, pS_eq, cS_eq, cdS_eq, oneC_eq, ← exists_and_left]; rfl)
@[simp ↓] theorem dDIn_p {neg : Bool} {Tk Td : TDE} {ρ} {μ} {Q} : dDIn neg Tk Td ρ μ Q = (Tk ρ μ fun y μ1 => Td ρ μ1 fun x μ2 => dS (vw μ2 x) fun kvs => oS (keyD y) fun k => Q (.bl (neg ^^ (valD kvs k).isSome)) μ2) := by
  first | (simp only [oS_eq, lS_eq, tS_eq, dS_eq, sS_eq, pS_eq, cS_eq, cdS_eq]; rfl) | (simp only [oS_eq, lS_eq, tS_eq, dS_eq, sS_eq, pS_eq, cS_eq, cdS_eq, oneC_eq, ← exists_and_left]; rfl)
@[simp ↓] theorem dsDPut_p {Td Tk Tv : TDE} {E} {ρ} {μ} : dsDPut Td Tk Tv E ρ μ = (Tv ρ μ fun v μ1 => Td ρ μ1 fun x μ2 => Tk ρ μ2 fun y μ3 => pS x fun a => cdS (μ3 a) fun kvs => oS (keyD y) fun k => kvs.length < sizeLine ∧ E.nx ρ (mup μ3 a (.dic (putD kvs k v)))) := by
  first | (simp only [oS_eq, lS_eq, tS_eq, dS_eq, sS_eq, pS_eq, cS_eq, cdS_eq]; rfl) | (simp only [oS_eq, lS_eq, tS_eq, dS_eq, sS_eq, pS_eq, cS_eq, cdS_eq, oneC_eq, ← exists_and_left]; rfl)
@[simp ↓] theorem dDNew_p {c : Bool} {z0} {μ} {Q} : dDNew c z0 μ Q = (mkDc c [] μ Q) := id rfl
@[simp ↓] theorem dDisp_p {c : Bool} {Trs : List (TDE × TDE)} {ρ} {μ} {Q} : dDisp c Trs ρ μ Q = (∀ p, μ p = none → dPairs Trs ρ (mup μ p (.dic [])) fun ps μ2 => μ2 p = some (.dic []) ∧ oS (keysD ps) fun kvs => kvs.length ≤ 15 ∧ (match c with
  | true => Q (.ptr p) (mup μ2 p (.dic (mergeD kvs)))
  | false => Q (.dic (mergeD kvs)) (mdel μ2 p))) := by
  first | (simp only [oS_eq, lS_eq, tS_eq, dS_eq, sS_eq, pS_eq, cS_eq, cdS_eq]; rfl) | (simp only [oS_eq, lS_eq, tS_eq, dS_eq, sS_eq, pS_eq, cS_eq, cdS_eq, oneC_eq, ← exists_and_left]; rfl)
@[simp ↓] theorem dLock_p {i : Nat} {T : TDS} {E} {ρ} {μ} : dLock i T E ρ μ = (match ρ[i]? with
  | some (some (.ptr a)) => match μ a with
    | some (.dic kvs) => ∀ od vs, T (lockE E a kvs od vs) ρ (mup μ a (.dicL od vs kvs))
    | _ => False
  | _ => False) := id rfl
@[simp ↓] theorem dForK_p {I : TDIK} {g : TDG} {T : TDS} {E} {ρ} {μ} : dForK I g T E ρ μ = (I ρ μ fun xs Kp μ1 => loopK g T E Kp xs ρ μ1) := id rfl
@[simp ↓] theorem iKey_p {T : TDE} {ρ} {μ} {Q} : iKey T ρ μ Q = (T ρ μ fun d μ1 => match d with
  | .ptr a => match μ1 a with
    | some (.dicL od vs kvs) => Q (kvs.map fun kv => unkey kv.1) (fun μ' => μ' a = some (.dicL od vs kvs)) μ1
    | _ => False
  | _ => False) := id rfl
@[simp ↓] theorem mJoin_p {x} {ds} {μ} {Q} : mJoin  x ds μ Q = (match x, ds with
  | .str a, [d] => lS (vw μ d) fun xs => oS (strsOf xs) fun ss => (ss.map (·.length)).sum + ss.length * a.length ≤ 16777216 ∧ Q (.str (Txt.join a ss)) μ
  | _, _ => False) := by
  first | (simp only [oS_eq, lS_eq, tS_eq, dS_eq, sS_eq, pS_eq, cS_eq, cdS_eq]; rfl) | (simp only [oS_eq, lS_eq, tS_eq, dS_eq, sS_eq, pS_eq, cS_eq, cdS_eq, oneC_eq, ← exists_and_left]; rfl)
@[simp ↓] theorem dIsi_p {T : String} {Tx : TDE} {ρ} {μ} {Q} : dIsi T Tx ρ μ Q = (Tx ρ μ fun d μ1 => oS (isiD T (vw μ1 d)) fun b => Q (.bl b) μ1) := by
  first | (simp only [oS_eq, lS_eq, tS_eq, dS_eq, sS_eq, pS_eq, cS_eq, cdS_eq]; rfl) | (simp only [oS_eq, lS_eq, tS_eq, dS_eq, sS_eq, pS_eq, cS_eq, cdS_eq, oneC_eq, ← exists_and_left]; rfl)
@[simp ↓] theorem dKd_p {tbl : Str → Option Str} {Ti : TDE} {ρ} {μ} {Q} : dKd tbl Ti ρ μ Q = (Ti ρ μ fun d μ1 => sS d fun s => oS (tbl s) fun v => Q (.str v) μ1) := by
  first | (simp only [oS_eq, lS_eq, tS_eq, dS_eq, sS_eq, pS_eq, cS_eq, cdS_eq]; rfl) | (simp only [oS_eq, lS_eq, tS_eq, dS_eq, sS_eq, pS_eq, cS_eq, cdS_eq, oneC_eq, ← exists_and_left]; rfl)
@[simp ↓ high] theorem dVar_0 {d : D} {r : DR} {μ : Mu} {Q : QD} : dVar 0 (some d :: r) μ Q = Q d μ := id rfl
@[simp ↓ high] theorem dgName_0 {z : Option D} {d : D} {r : DR} {μ : Mu} {Q : DR → Mu → Prop} : dgName 0 d (z :: r) μ Q = Q (some d :: r) μ := id rfl
@[simp ↓ high] theorem dVar_1 {x0 : Option D} {d : D} {r : DR} {μ : Mu} {Q : QD} : dVar 1 (x0 :: some d :: r) μ Q = Q d μ := id rfl
@[simp ↓ high] theorem dgName_1 {x0 : Option D} {z : Option D} {d : D} {r : DR} {μ : Mu} {Q : DR → Mu → Prop} : dgName 1 d (x0 :: z :: r) μ Q = Q (x0 :: some d :: r) μ := id rfl
@[simp ↓ high] theorem dVar_2 {x0 x1 : Option D} {d : D} {r : DR} {μ : Mu} {Q : QD} : dVar 2 (x0 :: x1 :: some d :: r) μ Q = Q d μ := id rfl
@[simp ↓ high] theorem dgName_2 {x0 x1 : Option D} {z : Option D} {d : D} {r : DR} {μ : Mu} {Q : DR → Mu → Prop} : dgName 2 d (x0 :: x1 :: z :: r) μ Q = Q (x0 :: x1 :: some d :: r) μ := id rfl
@[simp ↓ high] theorem dVar_3 {x0 x1 x2 : Option D} {d : D} {r : DR} {μ : Mu} {Q : QD} : dVar 3 (x0 :: x1 :: x2 :: some d :: r) μ Q = Q d μ := id rfl
@[simp ↓ high] theorem dgName_3 {x0 x1 x2 : Option D} {z : Option D} {d : D} {r : DR} {μ : Mu} {Q : DR → Mu → Prop} : dgName 3 d (x0 :: x1 :: x2 :: z :: r) μ Q = Q (x0 :: x1 :: x2 :: some d :: r) μ := id rfl
@[simp ↓ high] theorem dVar_4 {x0 x1 x2 x3 : Option D} {d : D} {r : DR} {μ : Mu} {Q : QD} : dVar 4 (x0 :: x1 :: x2 :: x3 :: some d :: r) μ Q = Q d μ := id rfl
@[simp ↓ high] theorem dgName_4 {x0 x1 x2 x3 : Option D} {z : Option D} {d : D} {r : DR} {μ : Mu} {Q : DR → Mu → Prop} : dgName 4 d (x0 :: x1 :: x2 :: x3 :: z :: r) μ Q = Q (x0 :: x1 :: x2 :: x3 :: some d :: r) μ := id rfl
@[simp ↓ high] theorem dVar_5 {x0 x1 x2 x3 x4 : Option D} {d : D} {r : DR} {μ : Mu} {Q : QD} : dVar 5 (x0 :: x1 :: x2 :: x3 :: x4 :: some d :: r) μ Q = Q d μ := id rfl
@[simp ↓ high] theorem dgName_5 {x0 x1 x2 x3 x4 : Option D} {z : Option D} {d : D} {r : DR} {μ : Mu} {Q : DR → Mu → Prop} : dgName 5 d (x0 :: x1 :: x2 :: x3 :: x4 :: z :: r) μ Q = Q (x0 :: x1 :: x2 :: x3 :: x4 :: some d :: r) μ := id rfl
@[simp ↓ high] theorem dVar_6 {x0 x1 x2 x3 x4 x5 : Option D} {d : D} {r : DR} {μ : Mu} {Q : QD} : dVar 6 (x0 :: x1 :: x2 :: x3 :: x4 :: x5 :: some d :: r) μ Q = Q d μ := id rfl
@[simp ↓ high] theorem dgName_6 {x0 x1 x2 x3 x4 x5 : Option D} {z : Option D} {d : D} {r : DR} {μ : Mu} {Q : DR → Mu → Prop} : dgName 6 d (x0 :: x1 :: x2 :: x3 :: x4 :: x5 :: z :: r) μ Q = Q (x0 :: x1 :: x2 :: x3 :: x4 :: x5 :: some d :: r) μ := id rfl
@[simp ↓ high] theorem dVar_7 {x0 x1 x2 x3 x4 x5 x6 : Option D} {d : D} {r : DR} {μ : Mu} {Q : QD} : dVar 7 (x0 :: x1 :: x2 :: x3 :: x4 :: x5 :: x6 :: some d :: r) μ Q = Q d μ := id rfl
@[simp ↓ high] theorem dgName_7 {x0 x1 x2 x3 x4 x5 x6 : Option D} {z : Option D} {d : D} {r : DR} {μ : Mu} {Q : DR → Mu → Prop} : dgName 7 d (x0 :: x1 :: x2 :: x3 :: x4 :: x5 :: x6 :: z :: r) μ Q = Q (x0 :: x1 :: x2 :: x3 :: x4 :: x5 :: x6 :: some d :: r) μ := id rfl
@[simp ↓ high] theorem dVar_8 {x0 x1 x2 x3 x4 x5 x6 x7 : Option D} {d : D} {r : DR} {μ : Mu} {Q : QD} : dVar 8 (x0 :: x1 :: x2 :: x3 :: x4 :: x5 :: x6 :: x7 :: some d :: r) μ Q = Q d μ := id rfl
@[simp ↓ high] theorem dgName_8 {x0 x1 x2 x3 x4 x5 x6 x7 : Option D} {z : Option D} {d : D} {r : DR} {μ : Mu} {Q : DR → Mu → Prop} : dgName 8 d (x0 :: x1 :: x2 :: x3 :: x4 :: x5 :: x6 :: x7 :: z :: r) μ Q = Q (x0 :: x1 :: x2 :: x3 :: x4 :: x5 :: x6 :: x7 :: some d :: r) μ := id rfl
@[simp ↓ high] theorem dVar_9 {x0 x1 x2 x3 x4 x5 x6 x7 x8 : Option D} {d : D} {r : DR} {μ : Mu} {Q : QD} : dVar 9 (x0 :: x1 :: x2 :: x3 :: x4 :: x5 :: x6 :: x7 :: x8 :: some d :: r) μ Q = Q d μ := id rfl
@[simp ↓ high] theorem dgName_9 {x0 x1 x2 x3 x4 x5 x6 x7 x8 : Option D} {z : Option D} {d : D} {r : DR} {μ : Mu} {Q : DR → Mu → Prop} : dgName 9 d (x0 :: x1 :: x2 :: x3 :: x4 :: x5 :: x6 :: x7 :: x8 :: z :: r) μ Q = Q (x0 :: x1 :: x2 :: x3 :: x4 :: x5 :: x6 :: x7 :: x8 :: some d :: r) μ := id rfl
@[simp ↓ high] theorem dVar_10 {x0 x1 x2 x3 x4 x5 x6 x7 x8 x9 : Option D} {d : D} {r : DR} {μ : Mu} {Q : QD} : dVar 10 (x0 :: x1 :: x2 :: x3 :: x4 :: x5 :: x6 :: x7 :: x8 :: x9 :: some d :: r) μ Q = Q d μ := id rfl
@[simp ↓ high] theorem dgName_10 {x0 x1 x2 x3 x4 x5 x6 x7 x8 x9 : Option D} {z : Option D} {d : D} {r : DR} {μ : Mu} {Q : DR → Mu → Prop} : dgName 10 d (x0 :: x1 :: x2 :: x3 :: x4 :: x5 :: x6 :: x7 :: x8 :: x9 :: z :: r) μ Q = Q (x0 :: x1 :: x2 :: x3 :: x4 :: x5 :: x6 :: x7 :: x8 :: x9 :: some d :: r) μ := id rfl
@[simp ↓ high] theorem dVar_11 {x0 x1 x2 x3 x4 x5 x6 x7 x8 x9 x10 : Option D} {d : D} {r : DR} {μ : Mu} {Q : QD} : dVar 11 (x0 :: x1 :: x2 :: x3 :: x4 :: x5 :: x6 :: x7 :: x8 :: x9 :: x10 :: some d :: r) μ Q = Q d μ := id rfl
@[simp ↓ high] theorem dgName_11 {x0 x1 x2 x3 x4 x5 x6 x7 x8 x9 x10 : Option D} {z : Option D} {d : D} {r : DR} {μ : Mu} {Q : DR → Mu → Prop} : dgName 11 d (x0 :: x1 :: x2 :: x3 :: x4 :: x5 :: x6 :: x7 :: x8 :: x9 :: x10 :: z :: r) μ Q = Q (x0 :: x1 :: x2 :: x3 :: x4 :: x5 :: x6 :: x7 :: x8 :: x9 :: x10 :: some d :: r) μ := id rfl
@[simp ↓ high] theorem dVar_12 {x0 x1 x2 x3 x4 x5 x6 x7 x8 x9 x10 x11 : Option D} {d : D} {r : DR} {μ : Mu} {Q : QD} : dVar 12 (x0 :: x1 :: x2 :: x3 :: x4 :: x5 :: x6 :: x7 :: x8 :: x9 :: x10 :: x11 :: some d :: r) μ Q = Q d μ := id rfl
@[simp ↓ high] theorem dgName_12 {x0 x1 x2 x3 x4 x5 x6 x7 x8 x9 x10 x11 : Option D} {z : Option D} {d : D} {r : DR} {μ : Mu} {Q : DR → Mu → Prop} : dgName 12 d (x0 :: x1 :: x2 :: x3 :: x4 :: x5 :: x6 :: x7 :: x8 :: x9 :: x10 :: x11 :: z :: r) μ Q = Q (x0 :: x1 :: x2 :: x3 :: x4 :: x5 :: x6 :: x7 :: x8 :: x9 :: x10 :: x11 :: some d :: r) μ := id rfl
@[simp ↓ high] theorem dVar_13 {x0 x1 x2 x3 x4 x5 x6 x7 x8 x9 x10 x11 x12 : Option D} {d : D} {r : DR} {μ : Mu} {Q : QD} : dVar 13 (x0 :: x1 :: x2 :: x3 :: x4 :: x5 :: x6 :: x7 :: x8 :: x9 :: x10 :: x11 :: x12 :: some d :: r) μ Q = Q d μ := id rfl
@[simp ↓ high] theorem dgName_13 {x0 x1 x2 x3 x4 x5 x6 x7 x8 x9 x10 x11 x12 : Option D} {z : Option D} {d : D} {r : DR} {μ : Mu} {Q : DR → Mu → Prop} : dgName 13 d (x0 :: x1 :: x2 :: x3 :: x4 :: x5 :: x6 :: x7 :: x8 :: x9 :: x10 :: x11 :: x12 :: z :: r) μ Q = Q (x0 :: x1 :: x2 :: x3 :: x4 :: x5 :: x6 :: x7 :: x8 :: x9 :: x10 :: x11 :: x12 :: some d :: r) μ := id rfl
@[simp ↓ high] theorem dVar_14 {x0 x1 x2 x3 x4 x5 x6 x7 x8 x9 x10 x11 x12 x13 : Option D} {d : D} {r : DR} {μ : Mu} {Q : QD} : dVar 14 (x0 :: x1 :: x2 :: x3 :: x4 :: x5 :: x6 :: x7 :: x8 :: x9 :: x10 :: x11 :: x12 :: x13 :: some d :: r) μ Q = Q d μ := id rfl
@[simp ↓ high] theorem dgName_14 {x0 x1 x2 x3 x4 x5 x6 x7 x8 x9 x10 x11 x12 x13 : Option D} {z : Option D} {d : D} {r : DR} {μ : Mu} {Q : DR → Mu → Prop} : dgName 14 d (x0 :: x1 :: x2 :: x3 :: x4 :: x5 :: x6 :: x7 :: x8 :: x9 :: x10 :: x11 :: x12 :: x13 :: z :: r) μ Q = Q (x0 :: x1 :: x2 :: x3 :: x4 :: x5 :: x6 :: x7 :: x8 :: x9 :: x10 :: x11 :: x12 :: x13 :: some d :: r) μ := id rfl
@[simp ↓ high] theorem dVar_15 {x0 x1 x2 x3 x4 x5 x6 x7 x8 x9 x10 x11 x12 x13 x14 : Option D} {d : D} {r : DR} {μ : Mu} {Q : QD} : dVar 15 (x0 :: x1 :: x2 :: x3 :: x4 :: x5 :: x6 :: x7 :: x8 :: x9 :: x10 :: x11 :: x12 :: x13 :: x14 :: some d :: r) μ Q = Q d μ := id rfl
@[simp ↓ high] theorem dgName_15 {x0 x1 x2 x3 x4 x5 x6 x7 x8 x9 x10 x11 x12 x13 x14 : Option D} {z : Option D} {d : D} {r : DR} {μ : Mu} {Q : DR → Mu → Prop} : dgName 15 d (x0 :: x1 :: x2 :: x3 :: x4 :: x5 :: x6 :: x7 :: x8 :: x9 :: x10 :: x11 :: x12 :: x13 :: x14 :: z :: r) μ Q = Q (x0 :: x1 :: x2 :: x3 :: x4 :: x5 :: x6 :: x7 :: x8 :: x9 :: x10 :: x11 :: x12 :: x13 :: x14 :: some d :: r) μ := id rfl
@[simp ↓ high] theorem dVar_16 {x0 x1 x2 x3 x4 x5 x6 x7 x8 x9 x10 x11 x12 x13 x14 x15 : Option D} {d : D} {r : DR} {μ : Mu} {Q : QD} : dVar 16 (x0 :: x1 :: x2 :: x3 :: x4 :: x5 :: x6 :: x7 :: x8 :: x9 :: x10 :: x11 :: x12 :: x13 :: x14 :: x15 :: some d :: r) μ Q = Q d μ := id rfl
@[simp ↓ high] theorem dgName_16 {x0 x1 x2 x3 x4 x5 x6 x7 x8 x9 x10 x11 x12 x13 x14 x15 : Option D} {z : Option D} {d : D} {r : DR} {μ : Mu} {Q : DR → Mu → Prop} : dgName 16 d (x0 :: x1 :: x2 :: x3 :: x4 :: x5 :: x6 :: x7 :: x8 :: x9 :: x10 :: x11 :: x12 :: x13 :: x14 :: x15 :: z :: r) μ Q = Q (x0 :: x1 :: x2 :: x3 :: x4 :: x5 :: x6 :: x7 :: x8 :: x9 :: x10 :: x11 :: x12 :: x13 :: x14 :: x15 :: some d :: r) μ := id rfl
@[simp ↓ high] theorem dVar_17 {x0 x1 x2 x3 x4 x5 x6 x7 x8 x9 x10 x11 x12 x13 x14 x15 x16 : Option D} {d : D} {r : DR} {μ : Mu} {Q : QD} : dVar 17 (x0 :: x1 :: x2 :: x3 :: x4 :: x5 :: x6 :: x7 :: x8 :: x9 :: x10 :: x11 :: x12 :: x13 :: x14 :: x15 :: x16 :: some d :: r) μ Q = Q d μ := id rfl
@[simp ↓ high] theorem dgName_17 {x0 x1 x2 x3 x4 x5 x6 x7 x8 x9 x10 x11 x12 x13 x14 x15 x16 : Option D} {z : Option D} {d : D} {r : DR} {μ : Mu} {Q : DR → Mu → Prop} : dgName 17 d (x0 :: x1 :: x2 :: x3 :: x4 :: x5 :: x6 :: x7 :: x8 :: x9 :: x10 :: x11 :: x12 :: x13 :: x14 :: x15 :: x16 :: z :: r) μ Q = Q (x0 :: x1 :: x2 :: x3 :: x4 :: x5 :: x6 :: x7 :: x8 :: x9 :: x10 :: x11 :: x12 :: x13 :: x14 :: x15 :: x16 :: some d :: r) μ := id rfl
@[simp ↓ high] theorem dVar_18 {x0 x1 x2 x3 x4 x5 x6 x7 x8 x9 x10 x11 x12 x13 x14 x15 x16 x17 : Option D} {d : D} {r : DR} {μ : Mu} {Q : QD} : dVar 18 (x0 :: x1 :: x2 :: x3 :: x4 :: x5 :: x6 :: x7 :: x8 :: x9 :: x10 :: x11 :: x12 :: x13 :: x14 :: x15 :: x16 :: x17 :: some d :: r) μ Q = Q d μ := id rfl
@[simp ↓ high] theorem dgName_18 {x0 x1 x2 x3 x4 x5 x6 x7 x8 x9 x10 x11 x12 x13 x14 x15 x16 x17 : Option D} {z : Option D} {d : D} {r : DR} {μ : Mu} {Q : DR → Mu → Prop} : dgName 18 d (x0 :: x1 :: x2 :: x3 :: x4 :: x5 :: x6 :: x7 :: x8 :: x9 :: x10 :: x11 :: x12 :: x13 :: x14 :: x15 :: x16 :: x17 :: z :: r) μ Q = Q (x0 :: x1 :: x2 :: x3 :: x4 :: x5 :: x6 :: x7 :: x8 :: x9 :: x10 :: x11 :: x12 :: x13 :: x14 :: x15 :: x16 :: x17 :: some d :: r) μ := id rfl
@[simp ↓ high] theorem dVar_19 {x0 x1 x2 x3 x4 x5 x6 x7 x8 x9 x10 x11 x12 x13 x14 x15 x16 x17 x18 : Option D} {d : D} {r : DR} {μ : Mu} {Q : QD} : dVar 19 (x0 :: x1 :: x2 :: x3 :: x4 :: x5 :: x6 :: x7 :: x8 :: x9 :: x10 :: x11 :: x12 :: x13 :: x14 :: x15 :: x16 :: x17 :: x18 :: some d :: r) μ Q = Q d μ := id rfl
@[simp ↓ high] theorem dgName_19 {x0 x1 x2 x3 x4 x5 x6 x7 x8 x9 x10 x11 x12 x13 x14 x15 x16 x17 x18 : Option D} {z : Option D} {d : D} {r : DR} {μ : Mu} {Q : DR → Mu → Prop} : dgName 19 d (x0 :: x1 :: x2 :: x3 :: x4 :: x5 :: x6 :: x7 :: x8 :: x9 :: x10 :: x11 :: x12 :: x13 :: x14 :: x15 :: x16 :: x17 :: x18 :: z :: r) μ Q = Q (x0 :: x1 :: x2 :: x3 :: x4 :: x5 :: x6 :: x7 :: x8 :: x9 :: x10 :: x11 :: x12 :: x13 :: x14 :: x15 :: x16 :: x17 :: x18 :: some d :: r) μ := id rfl
@[simp ↓ high] theorem dVar_20 {x0 x1 x2 x3 x4 x5 x6 x7 x8 x9 x10 x11 x12 x13 x14 x15 x16 x17 x18 x19 : Option D} {d : D} {r : DR} {μ : Mu} {Q : QD} : dVar 20 (x0 :: x1 :: x2 :: x3 :: x4 :: x5 :: x6 :: x7 :: x8 :: x9 :: x10 :: x11 :: x12 :: x13 :: x14 :: x15 :: x16 :: x17 :: x18 :: x19 :: some d :: r) μ Q = Q d μ := id rfl
@[simp ↓ high] theorem dgName_20 {x0 x1 x2 x3 x4 x5 x6 x7 x8 x9 x10 x11 x12 x13 x14 x15 x16 x17 x18 x19 : Option D} {z : Option D} {d : D} {r : DR} {μ : Mu} {Q : DR → Mu → Prop} : dgName 20 d (x0 :: x1 :: x2 :: x3 :: x4 :: x5 :: x6 :: x7 :: x8 :: x9 :: x10 :: x11 :: x12 :: x13 :: x14 :: x15 :: x16 :: x17 :: x18 :: x19 :: z :: r) μ Q = Q (x0 :: x1 :: x2 :: x3 :: x4 :: x5 :: x6 :: x7 :: x8 :: x9 :: x10 :: x11 :: x12 :: x13 :: x14 :: x15 :: x16 :: x17 :: x18 :: x19 :: some d :: r) μ := id rfl
@[simp ↓ high] theorem dVar_21 {x0 x1 x2 x3 x4 x5 x6 x7 x8 x9 x10 x11 x12 x13 x14 x15 x16 x17 x18 x19 x20 : Option D} {d : D} {r : DR} {μ : Mu} {Q : QD} : dVar 21 (x0 :: x1 :: x2 :: x3 :: x4 :: x5 :: x6 :: x7 :: x8 :: x9 :: x10 :: x11 :: x12 :: x13 :: x14 :: x15 :: x16 :: x17 :: x18 :: x19 :: x20 :: some d :: r) μ Q = Q d μ := id rfl
@[simp ↓ high] theorem dgName_21 {x0 x1 x2 x3 x4 x5 x6 x7 x8 x9 x10 x11 x12 x13 x14 x15 x16 x17 x18 x19 x20 : Option D} {z : Option D} {d : D} {r : DR} {μ : Mu} {Q : DR → Mu → Prop} : dgName 21 d (x0 :: x1 :: x2 :: x3 :: x4 :: x5 :: x6 :: x7 :: x8 :: x9 :: x10 :: x11 :: x12 :: x13 :: x14 :: x15 :: x16 :: x17 :: x18 :: x19 :: x20 :: z :: r) μ Q = Q (x0 :: x1 :: x2 :: x3 :: x4 :: x5 :: x6 :: x7 :: x8 :: x9 :: x10 :: x11 :: x12 :: x13 :: x14 :: x15 :: x16 :: x17 :: x18 :: x19 :: x20 :: some d :: r) μ := id rfl
@[simp ↓ high] theorem dVar_22 {x0 x1 x2 x3 x4 x5 x6 x7 x8 x9 x10 x11 x12 x13 x14 x15 x16 x17 x18 x19 x20 x21 : Option D} {d : D} {r : DR} {μ : Mu} {Q : QD} : dVar 22 (x0 :: x1 :: x2 :: x3 :: x4 :: x5 :: x6 :: x7 :: x8 :: x9 :: x10 :: x11 :: x12 :: x13 :: x14 :: x15 :: x16 :: x17 :: x18 :: x19 :: x20 :: x21 :: some d :: r) μ Q = Q d μ := id rfl
@[simp ↓ high] theorem dgName_22 {x0 x1 x2 x3 x4 x5 x6 x7 x8 x9 x10 x11 x12 x13 x14 x15 x16 x17 x18 x19 x20 x21 : Option D} {z : Option D} {d : D} {r : DR} {μ : Mu} {Q : DR → Mu → Prop} : dgName 22 d (x0 :: x1 :: x2 :: x3 :: x4 :: x5 :: x6 :: x7 :: x8 :: x9 :: x10 :: x11 :: x12 :: x13 :: x14 :: x15 :: x16 :: x17 :: x18 :: x19 :: x20 :: x21 :: z :: r) μ Q = Q (x0 :: x1 :: x2 :: x3 :: x4 :: x5 :: x6 :: x7 :: x8 :: x9 :: x10 :: x11 :: x12 :: x13 :: x14 :: x15 :: x16 :: x17 :: x18 :: x19 :: x20 :: x21 :: some d :: r) μ := id rfl
@[simp ↓ high] theorem dVar_23 {x0 x1 x2 x3 x4 x5 x6 x7 x8 x9 x10 x11 x12 x13 x14 x15 x16 x17 x18 x19 x20 x21 x22 : Option D} {d : D} {r : DR} {μ : Mu} {Q : QD} : dVar 23 (x0 :: x1 :: x2 :: x3 :: x4 :: x5 :: x6 :: x7 :: x8 :: x9 :: x10 :: x11 :: x12 :: x13 :: x14 :: x15 :: x16 :: x17 :: x18 :: x19 :: x20 :: x21 :: x22 :: some d :: r) μ Q = Q d μ := id rfl
@[simp ↓ high] theorem dgName_23 {x0 x1 x2 x3 x4 x5 x6 x7 x8 x9 x10 x11 x12 x13 x14 x15 x16 x17 x18 x19 x20 x21 x22 : Option D} {z : Option D} {d : D} {r : DR} {μ : Mu} {Q : DR → Mu → Prop} : dgName 23 d (x0 :: x1 :: x2 :: x3 :: x4 :: x5 :: x6 :: x7 :: x8 :: x9 :: x10 :: x11 :: x12 :: x13 :: x14 :: x15 :: x16 :: x17 :: x18 :: x19 :: x20 :: x21 :: x22 :: z :: r) μ Q = Q (x0 :: x1 :: x2 :: x3 :: x4 :: x5 :: x6 :: x7 :: x8 :: x9 :: x10 :: x11 :: x12 :: x13 :: x14 :: x15 :: x16 :: x17 :: x18 :: x19 :: x20 :: x21 :: x22 :: some d :: r) μ := id rfl
@[simp ↓ high] theorem dVar_24 {x0 x1 x2 x3 x4 x5 x6 x7 x8 x9 x10 x11 x12 x13 x14 x15 x16 x17 x18 x19 x20 x21 x22 x23 : Option D} {d : D} {r : DR} {μ : Mu} {Q : QD} : dVar 24 (x0 :: x1 :: x2 :: x3 :: x4 :: x5 :: x6 :: x7 :: x8 :: x9 :: x10 :: x11 :: x12 :: x13 :: x14 :: x15 :: x16 :: x17 :: x18 :: x19 :: x20 :: x21 :: x22 :: x23 :: some d :: r) μ Q = Q d μ := id rfl
@[simp ↓ high] theorem dgName_24 {x0 x1 x2 x3 x4 x5 x6 x7 x8 x9 x10 x11 x12 x13 x14 x15 x16 x17 x18 x19 x20 x21 x22 x23 : Option D} {z : Option D} {d : D} {r : DR} {μ : Mu} {Q : DR → Mu → Prop} : dgName 24 d (x0 :: x1 :: x2 :: x3 :: x4 :: x5 :: x6 :: x7 :: x8 :: x9 :: x10 :: x11 :: x12 :: x13 :: x14 :: x15 :: x16 :: x17 :: x18 :: x19 :: x20 :: x21 :: x22 :: x23 :: z :: r) μ Q = Q (x0 :: x1 :: x2 :: x3 :: x4 :: x5 :: x6 :: x7 :: x8 :: x9 :: x10 :: x11 :: x12 :: x13 :: x14 :: x15 :: x16 :: x17 :: x18 :: x19 :: x20 :: x21 :: x22 :: x23 :: some d :: r) μ := id rfl
@[simp ↓ high] theorem dVar_25 {x0 x1 x2 x3 x4 x5 x6 x7 x8 x9 x10 x11 x12 x13 x14 x15 x16 x17 x18 x19 x20 x21 x22 x23 x24 : Option D} {d : D} {r : DR} {μ : Mu} {Q : QD} : dVar 25 (x0 :: x1 :: x2 :: x3 :: x4 :: x5 :: x6 :: x7 :: x8 :: x9 :: x10 :: x11 :: x12 :: x13 :: x14 :: x15 :: x16 :: x17 :: x18 :: x19 :: x20 :: x21 :: x22 :: x23 :: x24 :: some d :: r) μ Q = Q d μ := id rfl
@[simp ↓ high] theorem dgName_25 {x0 x1 x2 x3 x4 x5 x6 x7 x8 x9 x10 x11 x12 x13 x14 x15 x16 x17 x18 x19 x20 x21 x22 x23 x24 : Option D} {z : Option D} {d : D} {r : DR} {μ : Mu} {Q : DR → Mu → Prop} : dgName 25 d (x0 :: x1 :: x2 :: x3 :: x4 :: x5 :: x6 :: x7 :: x8 :: x9 :: x10 :: x11 :: x12 :: x13 :: x14 :: x15 :: x16 :: x17 :: x18 :: x19 :: x20 :: x21 :: x22 :: x23 :: x24 :: z :: r) μ Q = Q (x0 :: x1 :: x2 :: x3 :: x4 :: x5 :: x6 :: x7 :: x8 :: x9 :: x10 :: x11 :: x12 :: x13 :: x14 :: x15 :: x16 :: x17 :: x18 :: x19 :: x20 :: x21 :: x22 :: x23 :: x24 :: some d :: r) μ := id rfl
section
variable {μ : Mu} {Q : QD} {n : Bool} {i j : Int} {s t : Str} {b c : Bool} {xs ys : List D} {x y : D}
@[simp ↓ high] theorem eqW_ii : eqW n (.int i) (.int j) μ Q = Q (.bl (n ^^ decide (i = j))) μ := id rfl
@[simp ↓ high] theorem eqW_ss : eqW n (.str s) (.str t) μ Q = Q (.bl (n ^^ decide (s = t))) μ := id rfl
@[simp ↓ high] theorem eqW_bb : eqW n (.bl b) (.bl c) μ Q = Q (.bl (n ^^ decide (b = c))) μ := id rfl
@[simp ↓ high] theorem opAdd_ii : opAdd (.int i) (.int j) μ Q = Q (.int (i + j)) μ := id rfl
@[simp ↓ high] theorem opAdd_ss : opAdd (.str s) (.str t) μ Q = (s.length + t.length ≤ sizeLine ∧ Q (.str (s ++ t)) μ) := id rfl
@[simp ↓ high] theorem opAdd_ll : opAdd (.lst xs) (.lst ys) μ Q = (xs.length + ys.length ≤ sizeLine ∧ Q (.lst (xs ++ ys)) μ) := id rfl
@[simp ↓ high] theorem opZ_ii {C : Int → Int → Prop} {g : Int → Int → D} : opZ C g (.int i) (.int j) μ Q = (C i j ∧ Q (g i j) μ) := id rfl
@[simp ↓ high] theorem opZ0_ii {g : Int → Int → D} : opZ0 g (.int i) (.int j) μ Q = Q (g i j) μ := id rfl
@[simp ↓ high] theorem opIs_n : opIs n x .non μ Q = Q (.bl (n ^^ isNonD x)) μ := id rfl
@[simp ↓ high] theorem opIx_l : opIx (.lst xs) (.int i) μ Q = oS (atI xs i) fun d => Q d μ := by rw [opIx_p]; rfl
@[simp ↓ high] theorem opIx_t : opIx (.tup xs) (.int i) μ Q = oS (atI xs i) fun d => Q d μ := by rw [opIx_p]; rfl
@[simp ↓ high] theorem opIx_s : opIx (.str s) (.int i) μ Q = (s.length ≤ sizeLine ∧ oS (atI s.cps.toList i) fun c => Q (.str (mk [c])) μ) := by rw [opIx_p]; rfl
@[simp ↓ high] theorem cLen_l : cLen [.lst xs] μ Q = Q (.int xs.length) μ := id rfl
@[simp ↓ high] theorem mkL_fp : mkL false xs μ Q = Q (.lst xs) μ := id rfl
@[simp ↓ high] theorem mkL_tp : mkL true xs μ Q = (∀ a, μ a = none → Q (.ptr a) (mup μ a (.lst xs))) := id rfl
@[simp ↓ high] theorem mkDc_fp {kvs : List (Key × D)} : mkDc false kvs μ Q = Q (.dic kvs) μ := id rfl
@[simp ↓ high] theorem mkDc_tp {kvs : List (Key × D)} : mkDc true kvs μ Q = (∀ a, μ a = none → Q (.ptr a) (mup μ a (.dic kvs))) := id rfl
@[simp ↓ high] theorem oS_some {α : Type} {d : α} {P : α → Prop} : oS (some d) P = P d := id rfl
theorem sh_b2 (a b : Bool) : SeqAt.shaped (.list [.bool a, .bool b]) = true := by cases a <;> cases b <;> decide
@[simp ↓ high] theorem eqW_b2 {b' c' : Bool} : eqW n (.lst [.bl b, .bl c]) (.lst [.bl b', .bl c']) μ Q = Q (.bl (n ^^ decide (b = b' ∧ c = c'))) μ := by
  cases b <;> cases c <;> cases b' <;> cases c' <;> (rw [eqW_p]; simp [oS, pyL, py, sh_b2, PyData.eqvAll, PyData.eqv])
end
end DL

/-! DLD: loops over ranges and items with the short ends; pure data and their equality. -/
namespace DL
open PySem PySem.Spec PyProof.Rows L2
theorem rngD_cons {lo hi : Int} (h : lo < hi) : rngD lo hi = .int lo :: rngD (lo + 1) hi := by
  unfold rngD
  have e : (hi - lo).toNat = (hi - (lo + 1)).toNat + 1 := by omega
  rw [e, List.range_succ_eq_map, List.map_cons, List.map_map]
  congr 1
  · simp
  · apply List.map_congr_left
    intro k _
    simp only [Function.comp]
    congr 1
    omega
theorem rngD_end {lo hi : Int} (h : hi ≤ lo) : rngD lo hi = [] := by
  unfold rngD; rw [show (hi - lo).toNat = 0 by omega]; rfl
/-- a loop over a range, by what holds at each number -/
theorem loop_rng {g : TDG} {T : TDS} {E : DEnds} {lo hi : Int} (I : Int → DR → Mu → Prop) {ρ : DR} {μ : Mu} (hl : lo ≤ hi) (h : I lo ρ μ) (hn : ∀ ρ μ, I hi ρ μ → E.nx ρ μ)
    (hc : ∀ j ρ μ (N : DR → Mu → Prop), lo ≤ j → j < hi → I j ρ μ → (∀ ρ' μ', I (j + 1) ρ' μ' → N ρ' μ') → g (.int j) ρ μ fun ρ2 μ2 => T (lpE E N) ρ2 μ2) : loopL g T E (rngD lo hi) ρ μ := by
  generalize hm : (hi - lo).toNat = m
  induction m generalizing lo ρ μ with
  | zero =>
    have : lo = hi := by omega
    subst this
    rw [rngD_end (Int.le_refl _)]
    exact hn ρ μ h
  | succ m ih =>
    rw [rngD_cons (by omega), loopL_cons_p]
    exact hc lo ρ μ _ (Int.le_refl _) (by omega) h fun ρ' μ' h' => ih (by omega) h' (fun j ρ μ N h1 h2 => hc j ρ μ N (by omega) h2) (by omega)
theorem loop_it {g : TDG} {T : TDS} {E : DEnds} (I : List D → DR → Mu → Prop) {xs : List D} {ρ : DR} {μ : Mu} (h : I xs ρ μ) (hn : ∀ ρ μ, I [] ρ μ → E.nx ρ μ)
    (hc : ∀ x r ρ μ (N : DR → Mu → Prop), I (x :: r) ρ μ → (∀ ρ' μ', I r ρ' μ' → N ρ' μ') → g x ρ μ fun ρ2 μ2 => T (lpE E N) ρ2 μ2) : loopL g T E xs ρ μ := loop_ind I h hn hc
/-- plain data -/
def atomD : D → Prop
  | .non => True | .bl _ => True | .int _ => True | .str _ => True | _ => False
def Pd : Nat → D → Prop
  | 0, d => atomD d
  | n + 1, d => atomD d ∨ ∃ xs, (d = .lst xs ∨ d = .tup xs) ∧ xs.length ≤ 16000000 ∧ ∀ x ∈ xs, Pd n x
theorem vw_atom {μ : Mu} {d : D} (h : atomD d) : vw μ d = d := by cases d <;> first | rfl | exact h.elim
theorem Pd.vw {μ : Mu} {d : D} {n : Nat} (h : Pd n d) : vw μ d = d := by
  cases n with
  | zero => exact vw_atom h
  | succ n =>
    rcases h with h | ⟨xs, rfl | rfl, _⟩
    · exact vw_atom h
    · rfl
    · rfl
theorem Pd.up {d : D} {n : Nat} (h : Pd n d) : Pd (n + 1) d := by
  induction n generalizing d with
  | zero => exact .inl h
  | succ n ih =>
    rcases h with h | ⟨xs, e, l, h⟩
    · exact .inl h
    · exact .inr ⟨xs, e, l, fun x hx => ih (h x hx)⟩
noncomputable def eqD (x y : D) : Bool := @decide (x = y) (Classical.propDecidable _)
theorem eqD_iff {x y : D} : eqD x y = true ↔ x = y := by unfold eqD; exact @decide_eq_true_iff _ (Classical.propDecidable _)
theorem eqD_no {x y : D} : eqD x y = false ↔ x ≠ y := by rw [← Bool.not_eq_true, eqD_iff]
@[simp] theorem eqD_self {x : D} : eqD x x = true := eqD_iff.mpr rfl
theorem isNonD_vw {μ : Mu} {d : D} : isNonD d = isNonD (vw μ d) := by
  cases d <;> first | rfl | skip
  rename_i a
  cases h : μ a with
  | none => simp [vw, h]
  | some c => cases c <;> simp [vw, h]
theorem Pd_cases {n : Nat} {d : D} (h : Pd n d) : d = .non ∨ (∃ b, d = .bl b) ∨ (∃ b, d = .int b) ∨ (∃ b, d = .str b) ∨ (∃ b, d = .lst b) ∨ (∃ b, d = .tup b) := by
  have a : ∀ {d}, atomD d → d = .non ∨ (∃ b, d = .bl b) ∨ (∃ b, d = .int b) ∨ (∃ b, d = .str b) ∨ (∃ b, d = .lst b) ∨ (∃ b, d = .tup b) := by
    intro d h; cases d <;> first | exact h.elim | simp
  cases n with
  | zero => exact a h
  | succ n =>
    rcases h with h | ⟨xs, rfl | rfl, _⟩
    · exact a h
    · simp
    · simp
theorem nd_n : isNonD .non = true := rfl
theorem nd_b {b : Bool} : isNonD (.bl b) = false := rfl
theorem nd_i {b : Int} : isNonD (.int b) = false := rfl
theorem nd_s {b : Str} : isNonD (.str b) = false := rfl
theorem nd_l {b : List D} : isNonD (.lst b) = false := rfl
theorem nd_t {b : List D} : isNonD (.tup b) = false := rfl
theorem eqD_of {x y : D} {p : Prop} [Decidable p] (h : x = y ↔ p) : eqD x y = decide p := by
  by_cases q : p
  · rw [decide_eq_true q, eqD_iff.mpr (h.mpr q)]
  · rw [decide_eq_false q, eqD_no.mpr (fun e => q (h.mp e))]
theorem eqD_b {b c : Bool} : eqD (.bl b) (.bl c) = decide (b = c) := eqD_of (by simp)
theorem eqD_i {b c : Int} : eqD (.int b) (.int c) = decide (b = c) := eqD_of (by simp)
theorem eqD_s {b c : Str} : eqD (.str b) (.str c) = decide (b = c) := eqD_of (by simp)
theorem eqD_t {b c : List D} : eqD (.tup b) (.tup c) = eqD (.lst b) (.lst c) := by
  by_cases h : b = c
  · subst h; simp
  · rw [eqD_no.mpr (by simpa using h), eqD_no.mpr (by simpa using h)]
/-- one statement at a time: what follows is a letter -/
theorem seq_hide {T U : TDS} {E : DEnds} {ρ : DR} {μ : Mu} (h : ∀ N, N = U E → T (sqE E N) ρ μ) : dSeq T U E ρ μ := h _ rfl
/-- .. or only what is known behind it -/
theorem seq_cut {T U : TDS} {E : DEnds} {ρ : DR} {μ : Mu} (P : DR → Mu → Prop) (h1 : ∀ N, (∀ ρ μ, P ρ μ → N ρ μ) → T (sqE E N) ρ μ) (h2 : ∀ ρ μ, P ρ μ → U E ρ μ) : dSeq T U E ρ μ := h1 _ h2
theorem mup_none {μ : Mu} {p a : Addr} {c : Cell} : mup μ p c a = none ↔ a ≠ p ∧ μ a = none := by
  unfold mup; split
  · next h => subst h; simp
  · next h => simp [h]
theorem mup_comm {μ : Mu} {p a : Addr} {c d : Cell} (h : a ≠ p) : mup (mup μ p c) a d = mup (mup μ a d) p c := by
  funext b; unfold mup; split
  · next e => subst e; simp [h]
  · rfl
@[simp] theorem atI_m1c {α : Type} {x y : α} {r : List α} : atI (x :: y :: r) (-1) = atI (y :: r) (-1) := by
  have e1 : ixN (x :: y :: r).length (-1) = some ((y :: r).length) := by
    rw [ixN_m1 (by simp)]; simp
  have e2 : ixN (y :: r).length (-1) = some ((y :: r).length - 1) := ixN_m1 (by simp)
  unfold atI
  rw [e1, e2]
  simp
/-- the loop is a letter while its items are found -/
theorem for_hide {I : TDI} {g : TDG} {T : TDS} {E : DEnds} {ρ : DR} {μ : Mu} (h : ∀ L, L = loopL g T E → I ρ μ fun xs μ1 => L xs ρ μ1) : dFor I g T E ρ μ := h _ rfl
theorem for_rng {hi : Int} {g : TDG} {T : TDS} {E : DEnds} (I : Int → DR → Mu → Prop) {ρ : DR} {μ : Mu} (hl : 0 ≤ hi) (hm : hi < 2 ^ 62) (h : I 0 ρ μ) (hn : ∀ ρ μ, I hi ρ μ → E.nx ρ μ)
    (hc : ∀ j ρ μ (N : DR → Mu → Prop), 0 ≤ j → j < hi → I j ρ μ → (∀ ρ' μ', I (j + 1) ρ' μ' → N ρ' μ') → g (.int j) ρ μ fun ρ2 μ2 => T (lpE E N) ρ2 μ2) : dFor (iRg1 (dCons (dC (.int hi)) dNil)) g T E ρ μ :=
  show ((-(2 ^ 62) ≤ hi ∧ hi < 2 ^ 62) ∧ loopL g T E (rngD 0 hi) ρ μ) from ⟨⟨by omega, hm⟩, loop_rng I hl h hn hc⟩
@[simp] theorem ixN_1_0 : ixN 1 0 = some 0 := rfl
@[simp] theorem ixN_1_m1 : ixN 1 (-1) = some 0 := rfl
@[simp] theorem ixN_2_0 : ixN 2 0 = some 0 := rfl
@[simp] theorem ixN_2_1 : ixN 2 1 = some 1 := rfl
@[simp] theorem ixN_2_m1 : ixN 2 (-1) = some 1 := rfl
@[simp] theorem ixN_3_0 : ixN 3 0 = some 0 := rfl
@[simp] theorem ixN_3_1 : ixN 3 1 = some 1 := rfl
@[simp] theorem ixN_3_2 : ixN 3 2 = some 2 := rfl
@[simp] theorem ixN_3_m1 : ixN 3 (-1) = some 2 := rfl
@[simp] theorem ixN_4_0 : ixN 4 0 = some 0 := rfl
@[simp] theorem ixN_4_1 : ixN 4 1 = some 1 := rfl
@[simp] theorem ixN_4_2 : ixN 4 2 = some 2 := rfl
@[simp] theorem ixN_4_3 : ixN 4 3 = some 3 := rfl
@[simp] theorem ixN_4_m1 : ixN 4 (-1) = some 3 := rfl
@[simp] theorem ixN_5_0 : ixN 5 0 = some 0 := rfl
@[simp] theorem ixN_5_1 : ixN 5 1 = some 1 := rfl
@[simp] theorem ixN_5_2 : ixN 5 2 = some 2 := rfl
@[simp] theorem ixN_5_3 : ixN 5 3 = some 3 := rfl
@[simp] theorem ixN_5_4 : ixN 5 4 = some 4 := rfl
@[simp] theorem ixN_5_m1 : ixN 5 (-1) = some 4 := rfl
@[simp] theorem ixN_6_0 : ixN 6 0 = some 0 := rfl
@[simp] theorem ixN_6_1 : ixN 6 1 = some 1 := rfl
@[simp] theorem ixN_6_2 : ixN 6 2 = some 2 := rfl
@[simp] theorem ixN_6_3 : ixN 6 3 = some 3 := rfl
@[simp] theorem ixN_6_4 : ixN 6 4 = some 4 := rfl
@[simp] theorem ixN_6_5 : ixN 6 5 = some 5 := rfl
@[simp] theorem ixN_6_m1 : ixN 6 (-1) = some 5 := rfl
@[simp] theorem ixN_7_0 : ixN 7 0 = some 0 := rfl
@[simp] theorem ixN_7_1 : ixN 7 1 = some 1 := rfl
@[simp] theorem ixN_7_2 : ixN 7 2 = some 2 := rfl
@[simp] theorem ixN_7_3 : ixN 7 3 = some 3 := rfl
@[simp] theorem ixN_7_4 : ixN 7 4 = some 4 := rfl
@[simp] theorem ixN_7_5 : ixN 7 5 = some 5 := rfl
@[simp] theorem ixN_7_6 : ixN 7 6 = some 6 := rfl
@[simp] theorem ixN_7_m1 : ixN 7 (-1) = some 6 := rfl
@[simp] theorem ixN_8_0 : ixN 8 0 = some 0 := rfl
@[simp] theorem ixN_8_1 : ixN 8 1 = some 1 := rfl
@[simp] theorem ixN_8_2 : ixN 8 2 = some 2 := rfl
@[simp] theorem ixN_8_3 : ixN 8 3 = some 3 := rfl
@[simp] theorem ixN_8_4 : ixN 8 4 = some 4 := rfl
@[simp] theorem ixN_8_5 : ixN 8 5 = some 5 := rfl
@[simp] theorem ixN_8_6 : ixN 8 6 = some 6 := rfl
@[simp] theorem ixN_8_7 : ixN 8 7 = some 7 := rfl
@[simp] theorem ixN_8_m1 : ixN 8 (-1) = some 7 := rfl
@[simp] theorem ixN_9_0 : ixN 9 0 = some 0 := rfl
@[simp] theorem ixN_9_1 : ixN 9 1 = some 1 := rfl
@[simp] theorem ixN_9_2 : ixN 9 2 = some 2 := rfl
@[simp] theorem ixN_9_3 : ixN 9 3 = some 3 := rfl
@[simp] theorem ixN_9_4 : ixN 9 4 = some 4 := rfl
@[simp] theorem ixN_9_5 : ixN 9 5 = some 5 := rfl
@[simp] theorem ixN_9_6 : ixN 9 6 = some 6 := rfl
@[simp] theorem ixN_9_7 : ixN 9 7 = some 7 := rfl
@[simp] theorem ixN_9_8 : ixN 9 8 = some 8 := rfl
@[simp] theorem ixN_9_m1 : ixN 9 (-1) = some 8 := rfl
@[simp] theorem ixN_10_0 : ixN 10 0 = some 0 := rfl
@[simp] theorem ixN_10_1 : ixN 10 1 = some 1 := rfl
@[simp] theorem ixN_10_2 : ixN 10 2 = some 2 := rfl
@[simp] theorem ixN_10_3 : ixN 10 3 = some 3 := rfl
@[simp] theorem ixN_10_4 : ixN 10 4 = some 4 := rfl
@[simp] theorem ixN_10_5 : ixN 10 5 = some 5 := rfl
@[simp] theorem ixN_10_6 : ixN 10 6 = some 6 := rfl
@[simp] theorem ixN_10_7 : ixN 10 7 = some 7 := rfl
@[simp] theorem ixN_10_8 : ixN 10 8 = some 8 := rfl
@[simp] theorem ixN_10_9 : ixN 10 9 = some 9 := rfl
@[simp] theorem ixN_10_m1 : ixN 10 (-1) = some 9 := rfl
@[simp] theorem ixN_11_0 : ixN 11 0 = some 0 := rfl
@[simp] theorem ixN_11_1 : ixN 11 1 = some 1 := rfl
@[simp] theorem ixN_11_2 : ixN 11 2 = some 2 := rfl
@[simp] theorem ixN_11_3 : ixN 11 3 = some 3 := rfl
@[simp] theorem ixN_11_4 : ixN 11 4 = some 4 := rfl
@[simp] theorem ixN_11_5 : ixN 11 5 = some 5 := rfl
@[simp] theorem ixN_11_6 : ixN 11 6 = some 6 := rfl
@[simp] theorem ixN_11_7 : ixN 11 7 = some 7 := rfl
@[simp] theorem ixN_11_8 : ixN 11 8 = some 8 := rfl
@[simp] theorem ixN_11_9 : ixN 11 9 = some 9 := rfl
@[simp] theorem ixN_11_10 : ixN 11 10 = some 10 := rfl
@[simp] theorem ixN_11_m1 : ixN 11 (-1) = some 10 := rfl
@[simp] theorem ixN_12_0 : ixN 12 0 = some 0 := rfl
@[simp] theorem ixN_12_1 : ixN 12 1 = some 1 := rfl
@[simp] theorem ixN_12_2 : ixN 12 2 = some 2 := rfl
@[simp] theorem ixN_12_3 : ixN 12 3 = some 3 := rfl
@[simp] theorem ixN_12_4 : ixN 12 4 = some 4 := rfl
@[simp] theorem ixN_12_5 : ixN 12 5 = some 5 := rfl
@[simp] theorem ixN_12_6 : ixN 12 6 = some 6 := rfl
@[simp] theorem ixN_12_7 : ixN 12 7 = some 7 := rfl
@[simp] theorem ixN_12_8 : ixN 12 8 = some 8 := rfl
@[simp] theorem ixN_12_9 : ixN 12 9 = some 9 := rfl
@[simp] theorem ixN_12_10 : ixN 12 10 = some 10 := rfl
@[simp] theorem ixN_12_11 : ixN 12 11 = some 11 := rfl
@[simp] theorem ixN_12_m1 : ixN 12 (-1) = some 11 := rfl
end DL

/-! DLE: own classes: made, fields, methods, properties; list * int. -/
namespace DL
open PySem PySem.Spec PyProof.Rows L2
theorem mk_inj' {a b : List Nat} (h : mk a = mk b) : a = b := by
  have := congrArg (fun s => s.cps.toList) h
  simpa using this
@[simp] theorem ofString_inj {a b : String} : Str.ofString a = Str.ofString b ↔ a = b := by
  constructor
  · intro h
    rw [ofString_mk, ofString_mk] at h
    have h2 := mk_inj' h
    apply String.ext
    exact List.map_inj_right (fun x y e => Char.ext (UInt32.toNat_inj.mp e)) |>.mp h2
  · rintro rfl; rfl
/-! fields -/
def fget : List (Str × D) → Str → Option D
  | [], _ => none
  | (g, x) :: r, f => if g = f then some x else fget r f
def fput (f : Str) (d : D) : List (Str × D) → List (Str × D)
  | [] => [(f, d)]
  | (g, x) :: r => if g = f then (g, d) :: r else (g, x) :: fput f d r
@[simp] theorem fget_nil {f : Str} : fget [] f = none := rfl
@[simp] theorem fget_cons {g f : Str} {x : D} {r : List (Str × D)} : fget ((g, x) :: r) f = if g = f then some x else fget r f := rfl
@[simp] theorem fput_nil {f : Str} {d : D} : fput f d [] = [(f, d)] := rfl
@[simp] theorem fput_cons {g f : Str} {x d : D} {r : List (Str × D)} : fput f d ((g, x) :: r) = if g = f then (g, d) :: r else (g, x) :: fput f d r := rfl
section
variable {K : PySem.W.Frag} {G : Gh}
theorem lookup_cons_if {α : Type} (f g : Str) (y : α) (fs : List (Str × α)) : ((f, y) :: fs).lookup g = if f = g then some y else fs.lookup g := by
  by_cases h : f = g
  · subst h; simp [List.lookup]
  · have e : (g == f) = false := by simpa using fun x => h x.symm
    rw [if_neg h]; simp [List.lookup, e]
theorem FReps.fget {ds : List (Str × D)} (f : Str) : ∀ {kv : List (Str × V)}, FReps K G kv ds → (∀ d, DL.fget ds f = some d → ∃ v, kv.lookup f = some v ∧ Rep K G v d) ∧ (DL.fget ds f = none → kv.lookup f = none) := by
  induction ds with
  | nil => intro kv h; rw [h.nil_inv]; exact And.intro (fun d e => by simp at e) (fun _ => rfl)
  | cons p ds ih =>
    intro kv h
    obtain ⟨k', d⟩ := p
    obtain ⟨v, r, rfl, a, b⟩ := h.cons_inv
    rw [fget_cons, lookup_cons_if]
    by_cases e : k' = f
    · rw [if_pos e, if_pos e]; exact ⟨fun d' q => by cases q; exact ⟨v, rfl, a⟩, fun q => by cases q⟩
    · rw [if_neg e, if_neg e]; exact ih b
theorem FReps.fput {ds : List (Str × D)} {v : V} {d : D} (f : Str) (r : Rep K G v d) : ∀ {kv : List (Str × V)}, FReps K G kv ds → FReps K G (putF f v kv) (DL.fput f d ds) := by
  induction ds with
  | nil => intro kv h; rw [h.nil_inv]; exact FReps.cons r FReps.nil
  | cons p ds ih =>
    intro kv h
    obtain ⟨k', d'⟩ := p
    obtain ⟨v', kr, rfl, a, b⟩ := h.cons_inv
    show FReps K G (if k' = f then (k', v) :: kr else (k', v') :: putF f v kr) (if k' = f then (k', d) :: ds else (k', d') :: DL.fput f d ds)
    by_cases e : k' = f
    · rw [if_pos e, if_pos e]; exact FReps.cons r b
    · rw [if_neg e, if_neg e]; exact FReps.cons a (ih b)
end
/-- d is an object of the class at C with these fields -/
def oF (C : Addr) (d : D) (P : List (Str × D) → Prop) : Prop := match d with | .obj C' fs => C' = C ∧ P fs | _ => False
@[simp ↓] theorem oF_obj {C C' : Addr} {fs : List (Str × D)} {P : List (Str × D) → Prop} : oF C (.obj C' fs) P = (C' = C ∧ P fs) := id rfl
theorem oF_go {K : PySem.W.Frag} {G : Gh} {μ : Mu} {H : Hp} {v : V} {d : D} {C : Addr} {P : List (Str × D) → Prop} (h : oF C (vw μ d) P) (S : Hold K G μ H) (r : Rep K G v d) : ∃ a dx vs fs, v = .ref a ∧ H a = some (.ins C dx vs) ∧ FReps K G vs fs ∧ vw μ d = .obj C fs ∧ P fs := by
  cases e : vw μ d with
  | obj C' fs =>
    rw [e] at h
    obtain ⟨rfl, p⟩ := h
    obtain ⟨a, dx, vs, rfl, h1, rr⟩ := S.obj r e
    exact ⟨a, dx, vs, fs, rfl, h1, rr, rfl, p⟩
  | _ => rw [e] at h; exact False.elim h
/-- what is known of an own class: its name, its fields -/
structure Klass (K : PySem.W.Frag) (mg : Str → Option Value) (C : Addr) (x : Str) (fs : List Str) : Prop where
  m : mg x = some (.ref C)
  cl : Cls K C
  na : ∀ (i : Nat) f, fs[i]? = some f → NoAttr K C f
structure MethAt (K : PySem.W.Frag) (C : Addr) (m q : Str) (st : Stmt) (ps : List Str) (f : Addr) (fd : FuncData) : Prop where
  F : Fun K m q st f fd
  M : Meth K C m f
  b : Binds K fd ps []
def CalledM (P : Program) (w : World) (K : PySem.W.Frag) (mg : Str → Option Value) (base : Heap) (k : Nat) (C : Addr) (m : Str) (ps : List Str) (S : DSp) : Prop :=
  ∃ f fd, Meth K C m f ∧ Binds K fd ps [] ∧ FnOk P w K mg base CX0 k f fd ps (toSp K S)
theorem MethAt.called {P : Program} {w : World} {K : PySem.W.Frag} {mg : Str → Option Value} {base : Heap} {k : Nat} {C : Addr} {m q : Str} {st : Stmt} {ps : List Str} {f : Addr} {fd : FuncData} {S : DSp} (D : MethAt K C m q st ps f fd) (F : FnOk P w K mg base CX0 k f fd ps (toSp K S)) : CalledM P w K mg base k C m ps S := ⟨f, fd, D.M, D.b, F⟩
/-- C(..) with its __init__ -/
def Made (P : Program) (w : World) (K : PySem.W.Frag) (mg : Str → Option Value) (base : Heap) (k : Nat) (C : Addr) (ps : List Str) (S : DSp) : Prop :=
  ∃ f fd, Mk K C f ∧ Binds K fd ps [] ∧ FnOk P w K mg base CX0 k f fd ps (toSp K S)
section
variable {X : Cx} {pos : Pos} {C : Addr}
/-! o.f -/
def dFld (C : Addr) (f : Str) (T : TDE) : TDE := fun ρ μ Q => T ρ μ fun d μ1 => oF C (vw μ1 d) fun fs => oS (fget fs f) fun v => Q v μ1
@[simp ↓] theorem dFld_p {f : Str} {T : TDE} {ρ} {μ} {Q} : dFld C f T ρ μ Q = (T ρ μ fun d μ1 => oF C (vw μ1 d) fun fs => oS (fget fs f) fun v => Q v μ1) := id rfl
theorem de_fld {e : Expr} {te : TE} {T : TDE} {f : Str} (cl : Cls X.K C) (na : NoAttr X.K C f) (h : DE X B e te T) (hb : attributeBase e f X.env (eval e X.env) = eval e X.env := by rfl) : DE X B (.Attribute e f pos) (tFld X.K te f) (dFld C f T) :=
  ⟨pe_fld h.pe hb, fun ρ μ σ H G Q Qn S q hd => h.ref ρ μ σ H G _ _ S q fun d μ1 v H1 G1 g1 S1 r1 q1 => by
    obtain ⟨a, dx, vs, fs, rfl, h1, rr, _, q2⟩ := oF_go q1 S1.hold r1
    rw [oS_eq] at q2
    obtain ⟨x, e, q3⟩ := q2
    obtain ⟨v, l, rv⟩ := (rr.fget f).1 x e
    exact ⟨a, C, dx, vs, v, rfl, h1, cl, na, l, (hd.mono g1).now S1 rv q3⟩⟩
/-! o.f = e -/
def insS (C : Addr) (d : D) (μ : Mu) (P : Addr → List (Str × D) → Prop) : Prop := pS d fun a => match μ a with | some (.ins C' fs) => C' = C ∧ P a fs | _ => False
@[simp ↓] theorem insS_p {a : Addr} {μ : Mu} {P : Addr → List (Str × D) → Prop} : insS C (.ptr a) μ P = (match μ a with | some (.ins C' fs) => C' = C ∧ P a fs | _ => False) := id rfl
theorem insS_go {K : PySem.W.Frag} {G : Gh} {μ : Mu} {H : Hp} {v : V} {d : D} {P : Addr → List (Str × D) → Prop} (h : insS C d μ P) (S : Hold K G μ H) (r : Rep K G v d) : ∃ a dx vs fs, v = .ref a ∧ d = .ptr a ∧ H a = some (.ins C dx vs) ∧ FReps K G vs fs ∧ μ a = some (.ins C fs) ∧ P a fs := by
  cases d with
  | ptr a =>
    cases r
    rw [insS_p] at h
    split at h
    · next C' fs e =>
      obtain ⟨rfl, p⟩ := h
      obtain ⟨_, o, y, z⟩ := S.cell a _ e
      obtain ⟨dx, vs, rfl, z2⟩ := cellR_ins z
      exact ⟨a, dx, vs, fs, rfl, rfl, y, z2, e, p⟩
    · exact h.elim
  | _ => exact False.elim h
def dsFld (C : Addr) (f : Str) (To Te : TDE) : TDS := fun E ρ μ => Te ρ μ fun y μ1 => To ρ μ1 fun o μ2 => insS C o μ2 fun a fs => fs.length < 1000 ∧ E.nx ρ (mup μ2 a (.ins C (fput f y fs)))
@[simp ↓] theorem dsFld_p {f : Str} {To Te : TDE} {E} {ρ} {μ} : dsFld C f To Te E ρ μ = (Te ρ μ fun y μ1 => To ρ μ1 fun o μ2 => insS C o μ2 fun a fs => fs.length < 1000 ∧ E.nx ρ (mup μ2 a (.ins C (fput f y fs)))) := id rfl
theorem ds_fld {o e : Expr} {f : Str} {to te : TE} {To Te : TDE} {p' : Pos} (cl : Cls X.K C) (na : NoAttr X.K C f) (ho : DE X B o to To) (he : DE X B e te Te) (hs : swapsWith e (some (.Attribute o f p')) pos.line X.env = pure false := by rfl) :
    DS X B (.Assign [.Attribute o f p'] e pos) (sFld X.K to te f) (dsFld C f To Te) :=
  ⟨ps_fld ho.pe he.pe hs, fun ρ μ σ H G E Dn S h hd => he.ref ρ μ σ H G _ _ S h fun y μ1 v H1 G1 g1 S1 r1 q1 => ho.ref ρ μ1 σ H1 G1 _ _ S1 q1 fun o' μ2 ov H2 G2 g2 S2 r2 q2 => by
    obtain ⟨a, dx, vs, fs, rfl, rfl, h1, rr, e1, l, q3⟩ := insS_go q2 S2.hold r2
    exact ⟨a, C, dx, vs, rfl, h1, cl, na, by rw [rr.len]; exact l, hd.nx ρ _ σ _ G2 (g1.trans g2) (S2.cellSet e1 (show CellR X.K G2 (.ins C dx (putF f v vs)) (.ins C (fput f y fs)) from ⟨rfl, rr.fput f (r1.mono g2)⟩)) q3⟩⟩
/-! calls of methods, properties -/
variable {CX : CXT} {k : Nat} {f : Addr} {fd : FuncData} {ps : List Str} {Sp : DSp} {m : Str} {o e : Expr} {es : List Expr} {to : TE} {To : TDE} {t : TA} {T : TDA} {apos : Pos} {p : Pos} {x : Str}
def dMeth (C : Addr) (m : Str) (Sp : DSp) (To : TDE) (T : TDA) : TDE := fun ρ μ Q => To ρ μ fun o μ1 => oF C (vw μ1 o) fun fs => fget fs m = none ∧ T ρ μ1 fun ds μ2 => Sp (o :: ds) μ2 Q noX
@[simp ↓] theorem dMeth_p {To : TDE} {T : TDA} {ρ} {μ} {Q} : dMeth C m Sp To T ρ μ Q = (To ρ μ fun o μ1 => oF C (vw μ1 o) fun fs => fget fs m = none ∧ T ρ μ1 fun ds μ2 => Sp (o :: ds) μ2 Q noX) := id rfl
theorem ref_meth {K : PySem.W.Frag} (ho : RefE K B To to) (ha : RefA K B T t) : RefE K B (dMeth C m Sp To T) (tMeth C m (toSp K Sp) [] E0 to t) := fun ρ μ σ H G Q Qn S q hd => ho ρ μ σ H G _ _ S q fun d μ1 v H1 G1 g1 S1 r1 q1 => by
  obtain ⟨a, dx, vs, fs, rfl, h1, rr, _, l, q2⟩ := oF_go q1 S1.hold r1
  refine ⟨a, dx, vs, rfl, h1, (rr.fget m).2 l, ha ρ μ1 σ H1 G1 _ _ S1 q2 fun ds μ2 ws H2 G2 g2 S2 r2 q3 => ?_⟩
  refine ⟨G2, d :: ds, μ2, Q, noX, S2.hold, by rw [List.append_nil]; exact Reps.cons (r1.mono g2) r2, q3, fun d' μ' v' H' G' g' h' r' q' => hd d' μ' v' H' G' ((g1.trans g2).trans g') ⟨h', S2.env.mono g'⟩ r' q', fun _ _ _ _ _ _ _ _ _ z => z.elim⟩
theorem de_meth {pl : Sem Bool} (cl : Cls X.K C) (hm : Meth X.K C m f) (F : FnOk X.prog X.w X.K X.mg X.base CX0 k f fd ps (toSp X.K Sp)) (hr : Room k X.A) (hb : Binds X.K fd ps []) (ho : DE X B o to To) (ha : DA X B (e :: es) t T)
    (hst : starEach (e :: es) X.env = (false, eval e X.env) :: starEach es X.env := by rfl) (hpl : (backTo pos (starEach es X.env)).any (·.1) = false := by rfl)
    (ht : eval (.Call (.Attribute o m apos) (e :: es) [] pos) X.env = (do
      let ov ← eval o X.env
      standAt apos.atName
      let (f, first) ← holding [ov] (getMethod ov m pl)
      callWith pos f first (backTo pos (starEach (e :: es) X.env)) (backToKw pos (keywordEach [] X.env))) := by rfl) :
    DE X B (.Call (.Attribute o m apos) (e :: es) [] pos) (tMeth C m (toSp X.K Sp) [] E0 to t) (dMeth C m Sp To T) := ⟨pe_meth ho.pe cl hm F hr hb .nil pass0 ha.pa hst hpl ht, ref_meth ho.ref ha.ref⟩
theorem de_meth0 {pl : Sem Bool} (cl : Cls X.K C) (hm : Meth X.K C m f) (F : FnOk X.prog X.w X.K X.mg X.base CX0 k f fd ps (toSp X.K Sp)) (hr : Room k X.A) (hb : Binds X.K fd ps []) (ho : DE X B o to To)
    (ht : eval (.Call (.Attribute o m apos) [] [] pos) X.env = (do
      let ov ← eval o X.env
      standAt apos.atName
      let (f, first) ← holding [ov] (getMethod ov m pl)
      callWith pos f first (backTo pos (starEach [] X.env)) (backToKw pos (keywordEach [] X.env))) := by rfl) :
    DE X B (.Call (.Attribute o m apos) [] [] pos) (tMeth C m (toSp X.K Sp) [] E0 to tNil) (dMeth C m Sp To dNil) := ⟨pe_meth0 ho.pe cl hm F hr hb .nil pass0 ht, ref_meth ho.ref da_nil.ref⟩
def dProp (C : Addr) (Sp : DSp) (To : TDE) : TDE := fun ρ μ Q => To ρ μ fun o μ1 => oF C (vw μ1 o) fun _ => Sp [o] μ1 Q noX
@[simp ↓] theorem dProp_p {To : TDE} {ρ} {μ} {Q} : dProp C Sp To ρ μ Q = (To ρ μ fun o μ1 => oF C (vw μ1 o) fun _ => Sp [o] μ1 Q noX) := id rfl
theorem de_prop {pr : Addr} (cl : Cls X.K C) (hp : PropOf X.K C m pr f) (F : FnOk X.prog X.w X.K X.mg X.base CX0 k f fd ps (toSp X.K Sp)) (hr : Room (k + 1) X.A) (hb : Binds X.K fd ps []) (ho : DE X B o to To) (hab : attributeBase o m X.env (eval o X.env) = eval o X.env := by rfl) :
    DE X B (.Attribute o m pos) (tProp C (toSp X.K Sp) [] E0 to) (dProp C Sp To) := ⟨pe_prop ho.pe cl hp F hr hb .nil pass0 hab, fun ρ μ σ H G Q Qn S q hd => ho.ref ρ μ σ H G _ _ S q fun d μ1 v H1 G1 g1 S1 r1 q1 => by
  obtain ⟨a, dx, vs, fs, rfl, h1, rr, _, q2⟩ := oF_go q1 S1.hold r1
  exact ⟨a, dx, vs, rfl, h1, G1, [d], μ1, Q, noX, S1.hold, Reps.one r1, q2, fun d' μ' v' H' G' g' h' r' q' => hd d' μ' v' H' G' (g1.trans g') ⟨h', S1.env.mono g'⟩ r' q', fun _ _ _ _ _ _ _ _ _ z => z.elim⟩⟩
/-! C(..) -/
def dMake (C : Addr) (Sp : DSp) (T : TDA) : TDE := fun ρ μ Q => T ρ μ fun ds μ1 => ∀ x, μ1 x = none → Sp (.ptr x :: ds) (mup μ1 x (.ins C [])) (fun v μ2 => v = .non ∧ Q (.ptr x) μ2) noX
@[simp ↓] theorem dMake_p {T : TDA} {ρ} {μ} {Q} : dMake C Sp T ρ μ Q = (T ρ μ fun ds μ1 => ∀ x, μ1 x = none → Sp (.ptr x :: ds) (mup μ1 x (.ins C [])) (fun v μ2 => v = .non ∧ Q (.ptr x) μ2) noX) := id rfl
theorem ref_make {K : PySem.W.Frag} (ha : RefA K B T t) : RefE K B (dMake C Sp T) (tMake C (toSp K Sp) [] E0 t) := fun ρ μ σ H G Q Qn S q hd => ha ρ μ σ H G _ _ S q fun ds μ1 vs H1 G1 g1 S1 r1 q1 => by
  intro x dx nx ndx ne
  have e1 : Ext H1 (upd H1 dx (.own x)) := Ext.new ndx
  have nx2 : (upd H1 dx (.own x)) x = none := by rw [upd_ne (Ne.symm ne)]; exact nx
  have h2 : Hold K G1 (mup μ1 x (.ins C [])) (upd (upd H1 dx (.own x)) x (.ins C dx [])) := (S1.hold.ext e1).cellNew nx2 (show CellR K G1 (.ins C dx []) (.ins C []) from ⟨rfl, FReps.nil⟩)
  refine ⟨G1, .ptr x :: ds, mup μ1 x (.ins C []), fun v μ2 => v = .non ∧ Q (.ptr x) μ2, noX, h2, by rw [List.append_nil]; exact Reps.cons (.ptr x) r1, q1 x (S1.hold.free nx).2.1, fun d' μ' v' H' G' g' h' r' q' => ?_, fun _ _ _ _ _ _ _ _ _ z => z.elim⟩
  obtain ⟨rfl, q'⟩ := q'
  exact ⟨r'.ofNon, hd (.ptr x) μ' (.ref x) H' G' (g1.trans g') ⟨h', S1.env.mono g'⟩ (.ptr x) q'⟩
theorem de_make (M : Mk X.K C f) (F : FnOk X.prog X.w X.K X.mg X.base CX0 k f fd ps (toSp X.K Sp)) (hr : Room (k + 1) X.A) (hb : Binds X.K fd ps []) (hm : X.mg x = some (.ref C)) (ha : DA X B (e :: es) t T) (hg : Gl X x := by rfl)
    (hdb : (x == ("__debug__" : Str)) = false := by decide) (he : starEach (e :: es) X.env = (false, eval e X.env) :: starEach es X.env := by rfl) (hpl : (backTo pos (starEach es X.env)).any (·.1) = false := by rfl) :
    DE X B (.Call (.Name x p) (e :: es) [] pos) (tMake C (toSp X.K Sp) [] E0 t) (dMake C Sp T) := ⟨pe_make M F hr hg hm hb .nil pass0 ha.pa hdb he hpl, ref_make ha.ref⟩
theorem de_make0 (M : Mk X.K C f) (F : FnOk X.prog X.w X.K X.mg X.base CX0 k f fd ps (toSp X.K Sp)) (hr : Room (k + 1) X.A) (hb : Binds X.K fd ps []) (hm : X.mg x = some (.ref C)) (hg : Gl X x := by rfl)
    (hdb : (x == ("__debug__" : Str)) = false := by decide) : DE X B (.Call (.Name x p) [] [] pos) (tMake C (toSp X.K Sp) [] E0 tNil) (dMake C Sp dNil) := ⟨pe_make0 M F hr hg hm hb .nil pass0 hdb, ref_make da_nil.ref⟩
/-! xs * k -/
def opRep (c : Bool) : R2D := fun x y μ Q => match y with
  | .int k => lS (vw μ x) fun xs => (-(2 ^ 63) ≤ k ∧ k < 2 ^ 63) ∧ xs.length * k.toNat ≤ sizeLine ∧ mkL c (List.replicate k.toNat xs).flatten μ Q
  | _ => False
@[simp ↓] theorem opRep_p {c : Bool} {x : D} {k : Int} {μ : Mu} {Q : QD} : opRep c x (.int k) μ Q = (lS (vw μ x) fun xs => (-(2 ^ 63) ≤ k ∧ k < 2 ^ 63) ∧ xs.length * k.toNat ≤ sizeLine ∧ mkL c (List.replicate k.toNat xs).flatten μ Q) := id rfl
theorem Reps.rep {K : PySem.W.Frag} {G : Gh} {vs : List V} {xs : List D} (r : Reps K G vs xs) : ∀ n : Nat, Reps K G (List.replicate n vs).flatten (List.replicate n xs).flatten
  | 0 => Reps.nil
  | n + 1 => by rw [List.replicate_succ, List.replicate_succ, List.flatten_cons, List.flatten_cons]; exact r.append (Reps.rep r n)
theorem do_rep (c : Bool) : OpR X (binaryOp .Mult) rRep ∧ Ref2 X.K B (opRep c) rRep := by
  refine ⟨op_rep, ?_⟩
  intro ρ μ σ H G x y dx dy Q Qn S r1 r2 h hd
  cases dy with
  | int k =>
    cases r2
    rw [opRep_p, lS_eq] at h
    obtain ⟨xs, e, ⟨b1, b2⟩, l, q⟩ := h
    obtain ⟨a, vs, rfl, h1, rr⟩ := S.hold.lst r1 e
    exact ⟨a, k, vs, rfl, rfl, h1, b1, b2, by rw [rr.1]; exact l, fun p n => mkL_go q S (rr.rep _) hd n⟩
  | _ => exact False.elim h
end
end DL

/-! DLF: data seen through the store to a depth. -/
namespace DL
open PySem PySem.Spec PyProof.Rows L2
def dvs (f : D → Option D) : List D → Option (List D)
  | [] => some []
  | x :: r => match f x, dvs f r with
    | some a, some b => some (a :: b)
    | _, _ => none
theorem dvs_cons {f : D → Option D} {x a : D} {r b : List D} (h : f x = some a) (h2 : dvs f r = some b) : dvs f (x :: r) = some (a :: b) := by simp [dvs, h, h2]
theorem dvs_len {f : D → Option D} : ∀ {xs ys : List D}, dvs f xs = some ys → xs.length = ys.length
  | [], ys, h => by cases h; rfl
  | x :: r, ys, h => by
    simp only [dvs] at h
    split at h
    · next a b e1 e2 => cases h; simp [dvs_len e2]
    · cases h
theorem dvs_get {f : D → Option D} : ∀ {xs ys : List D}, dvs f xs = some ys → ∀ (i : Nat) x, xs[i]? = some x → ∃ y, f x = some y ∧ ys[i]? = some y
  | [], ys, h, i, x, e => by simp at e
  | x :: r, ys, h, i, z, e => by
    simp only [dvs] at h
    split at h
    · next a b e1 e2 =>
      cases h
      cases i with
      | zero => simp at e; subst e; exact ⟨a, e1, rfl⟩
      | succ i => exact dvs_get e2 i z (by simpa using e)
    · cases h
theorem dvs_of {f : D → Option D} : ∀ {xs ys : List D}, xs.length = ys.length → (∀ (i : Nat) x y, xs[i]? = some x → ys[i]? = some y → f x = some y) → dvs f xs = some ys
  | [], [], _, _ => rfl
  | x :: r, y :: s, l, h => dvs_cons (h 0 x y rfl rfl) (dvs_of (by simpa using l) fun i a b e1 e2 => h (i + 1) a b (by simpa using e1) (by simpa using e2))
theorem dvs_app {f : D → Option D} : ∀ {xs ys us vs : List D}, dvs f xs = some us → dvs f ys = some vs → dvs f (xs ++ ys) = some (us ++ vs)
  | [], ys, us, vs, h, h2 => by cases h; exact h2
  | x :: r, ys, us, vs, h, h2 => by
    simp only [dvs] at h
    split at h
    · next a b e1 e2 => cases h; exact dvs_cons e1 (dvs_app e2 h2)
    · cases h
theorem dvs_id {f : D → Option D} {xs : List D} (h : ∀ x ∈ xs, f x = some x) : dvs f xs = some xs := by
  induction xs with
  | nil => rfl
  | cons x r ih => exact dvs_cons (h x List.mem_cons_self) (ih fun y hy => h y (List.mem_cons_of_mem _ hy))
theorem dvs_mono {f g : D → Option D} : ∀ {xs ys : List D}, dvs f xs = some ys → (∀ x ∈ xs, ∀ y, f x = some y → g x = some y) → dvs g xs = some ys
  | [], ys, h, _ => by cases h; rfl
  | x :: r, ys, h, k => by
    simp only [dvs] at h
    split at h
    · next a b e1 e2 => cases h; exact dvs_cons (k x List.mem_cons_self a e1) (dvs_mono e2 fun z hz => k z (List.mem_cons_of_mem _ hz))
    · cases h
def atomO : D → Option D
  | .non => some .non | .bl b => some (.bl b) | .int i => some (.int i) | .str s => some (.str s) | _ => none
def dview (μ : Mu) : Nat → D → Option D
  | 0, d => atomO d
  | n + 1, d => match vw μ d with
    | .lst xs => if xs.length ≤ 16000000 then (dvs (dview μ n) xs).map .lst else none
    | .tup xs => if xs.length ≤ 16000000 then (dvs (dview μ n) xs).map .tup else none
    | v => atomO v
theorem atomO_vw {μ : Mu} {d t : D} (h : atomO d = some t) : vw μ d = d := by cases d <;> first | rfl | cases h
theorem dview_cases {μ : Mu} {n : Nat} {x t : D} (h : dview μ n x = some t) : (t = .non ∧ vw μ x = .non) ∨ (∃ b, t = .bl b ∧ vw μ x = .bl b) ∨ (∃ b, t = .int b ∧ vw μ x = .int b) ∨ (∃ b, t = .str b ∧ vw μ x = .str b) ∨
    (∃ m xs ys, n = m + 1 ∧ t = .lst ys ∧ vw μ x = .lst xs ∧ xs.length ≤ 16000000 ∧ dvs (dview μ m) xs = some ys) ∨ (∃ m xs ys, n = m + 1 ∧ t = .tup ys ∧ vw μ x = .tup xs ∧ xs.length ≤ 16000000 ∧ dvs (dview μ m) xs = some ys) := by
  have atom : ∀ {v : D}, atomO v = some t → (t = .non ∧ v = .non) ∨ (∃ b, t = .bl b ∧ v = .bl b) ∨ (∃ b, t = .int b ∧ v = .int b) ∨ (∃ b, t = .str b ∧ v = .str b) := by
    intro v hv
    cases v <;> simp [atomO] at hv <;> subst hv <;> simp
  cases n with
  | zero =>
    have h' : atomO x = some t := h
    have e := atomO_vw (μ := μ) h'
    rw [e]
    rcases atom h' with h | h | h | h
    · exact .inl h
    · exact .inr (.inl h)
    · exact .inr (.inr (.inl h))
    · exact .inr (.inr (.inr (.inl h)))
  | succ m =>
    unfold dview at h
    split at h
    · next xs e =>
      split at h
      · next l =>
        rw [Option.map_eq_some_iff] at h
        obtain ⟨ys, h, rfl⟩ := h
        exact .inr (.inr (.inr (.inr (.inl ⟨m, xs, ys, rfl, rfl, e, l, h⟩))))
      · cases h
    · next xs e =>
      split at h
      · next l =>
        rw [Option.map_eq_some_iff] at h
        obtain ⟨ys, h, rfl⟩ := h
        exact .inr (.inr (.inr (.inr (.inr ⟨m, xs, ys, rfl, rfl, e, l, h⟩))))
      · cases h
    · rcases atom h with h | h | h | h
      · exact .inl h
      · exact .inr (.inl h)
      · exact .inr (.inr (.inl h))
      · exact .inr (.inr (.inr (.inl h)))
theorem dview_lst {μ : Mu} {n : Nat} {d : D} {xs ys : List D} (e : vw μ d = .lst xs) (l : xs.length ≤ 16000000) (h : dvs (dview μ n) xs = some ys) : dview μ (n + 1) d = some (.lst ys) := by
  unfold dview; rw [e]; simp [l, h]
theorem dview_tup {μ : Mu} {n : Nat} {d : D} {xs ys : List D} (e : vw μ d = .tup xs) (l : xs.length ≤ 16000000) (h : dvs (dview μ n) xs = some ys) : dview μ (n + 1) d = some (.tup ys) := by
  unfold dview; rw [e]; simp [l, h]
theorem dview_atom {μ : Mu} {n : Nat} {d : D} (h : atomD d) : dview μ n d = some d := by
  cases n <;> cases d <;> first | rfl | exact h.elim
@[simp] theorem dview_non {μ : Mu} {n : Nat} : dview μ n .non = some .non := dview_atom trivial
@[simp] theorem dview_bl {μ : Mu} {n : Nat} {b : Bool} : dview μ n (.bl b) = some (.bl b) := dview_atom trivial
@[simp] theorem dview_int {μ : Mu} {n : Nat} {b : Int} : dview μ n (.int b) = some (.int b) := dview_atom trivial
@[simp] theorem dview_str {μ : Mu} {n : Nat} {b : Str} : dview μ n (.str b) = some (.str b) := dview_atom trivial
theorem dview_pure {μ : Mu} {n : Nat} {d : D} (h : Pd n d) : dview μ n d = some d := by
  induction n generalizing d with
  | zero => exact dview_atom h
  | succ n ih =>
    rcases h with h | ⟨xs, rfl | rfl, l, h⟩
    · exact dview_atom h
    · exact dview_lst rfl l (dvs_id fun x hx => ih (h x hx))
    · exact dview_tup rfl l (dvs_id fun x hx => ih (h x hx))
theorem dview_up {μ : Mu} {n : Nat} {d t : D} (h : dview μ n d = some t) : dview μ (n + 1) d = some t := by
  induction n generalizing d t with
  | zero =>
    have h' : atomO d = some t := h
    cases d <;> first | exact h' | cases h'
  | succ n ih =>
    rcases dview_cases h with ⟨rfl, e⟩ | ⟨b, rfl, e⟩ | ⟨b, rfl, e⟩ | ⟨b, rfl, e⟩ | ⟨m, xs, ys, e0, rfl, e, l, k⟩ | ⟨m, xs, ys, e0, rfl, e, l, k⟩
    · unfold dview; rw [e]; rfl
    · unfold dview; rw [e]; rfl
    · unfold dview; rw [e]; rfl
    · unfold dview; rw [e]; rfl
    · cases e0; exact dview_lst e l (dvs_mono k fun x _ y hy => ih hy)
    · cases e0; exact dview_tup e l (dvs_mono k fun x _ y hy => ih hy)
theorem dview_le {μ : Mu} {n m : Nat} {d t : D} (h : dview μ n d = some t) (l : n ≤ m) : dview μ m d = some t := by
  induction m with
  | zero => cases Nat.le_zero.mp l; exact h
  | succ m ih =>
    by_cases e : n = m + 1
    · subst e; exact h
    · exact dview_up (ih (by omega))
theorem Pd.le {n m : Nat} {d : D} (h : Pd n d) (l : n ≤ m) : Pd m d := by
  induction m with
  | zero => cases Nat.le_zero.mp l; exact h
  | succ m ih =>
    by_cases e : n = m + 1
    · subst e; exact h
    · exact (ih (by omega)).up
/-- what is seen is plain -/
theorem dview_Pd {μ : Mu} {n : Nat} {d t : D} (h : dview μ n d = some t) : Pd n t := by
  induction n generalizing d t with
  | zero =>
    have h' : atomO d = some t := h
    cases d <;> simp [atomO] at h' <;> subst h' <;> exact trivial
  | succ n ih =>
    rcases dview_cases h with ⟨rfl, e⟩ | ⟨b, rfl, e⟩ | ⟨b, rfl, e⟩ | ⟨b, rfl, e⟩ | ⟨m, xs, ys, e0, rfl, e, l, k⟩ | ⟨m, xs, ys, e0, rfl, e, l, k⟩
    · exact .inl trivial
    · exact .inl trivial
    · exact .inl trivial
    · exact .inl trivial
    · cases e0
      refine .inr ⟨ys, .inl rfl, by rw [← dvs_len k]; exact l, fun y hy => ?_⟩
      obtain ⟨i, hi, rfl⟩ := List.getElem_of_mem hy
      have hx : i < xs.length := by rw [dvs_len k]; exact hi
      obtain ⟨y, f1, f2⟩ := dvs_get k i xs[i] (List.getElem?_eq_getElem hx)
      rw [List.getElem?_eq_getElem hi] at f2; cases f2
      exact ih f1
    · cases e0
      refine .inr ⟨ys, .inr rfl, by rw [← dvs_len k]; exact l, fun y hy => ?_⟩
      obtain ⟨i, hi, rfl⟩ := List.getElem_of_mem hy
      have hx : i < xs.length := by rw [dvs_len k]; exact hi
      obtain ⟨y, f1, f2⟩ := dvs_get k i xs[i] (List.getElem?_eq_getElem hx)
      rw [List.getElem?_eq_getElem hi] at f2; cases f2
      exact ih f1
/-- lists of plain data that are seen as such -/
theorem Pd_lst {n : Nat} {xs : List D} (l : xs.length ≤ 16000000) (h : ∀ x ∈ xs, Pd n x) : Pd (n + 1) (.lst xs) := .inr ⟨xs, .inl rfl, l, h⟩
theorem Pd_tup {n : Nat} {xs : List D} (l : xs.length ≤ 16000000) (h : ∀ x ∈ xs, Pd n x) : Pd (n + 1) (.tup xs) := .inr ⟨xs, .inr rfl, l, h⟩
@[simp] theorem Pd_str' {n : Nat} {s : Str} : Pd n (.str s) := by cases n <;> simp [Pd, atomD]
@[simp] theorem Pd_int' {n : Nat} {s : Int} : Pd n (.int s) := by cases n <;> simp [Pd, atomD]
@[simp] theorem Pd_bl' {n : Nat} {s : Bool} : Pd n (.bl s) := by cases n <;> simp [Pd, atomD]
@[simp] theorem Pd_non' {n : Nat} : Pd n .non := by cases n <;> simp [Pd, atomD]
/-- the law's own comparison of data -/
def sp_same (n : Nat) : DSp := fun ds μ Q _ => ∃ x y a b, ds = [x, y] ∧ dview μ n x = some a ∧ dview μ n y = some b ∧ Q (.bl (eqD a b)) μ
def sp_row (n : Nat) : DSp := fun ds μ Q _ => ∃ x y xs ys as bs, ds = [x, y] ∧ ((vw μ x = .lst xs ∧ vw μ y = .lst ys) ∨ (vw μ x = .tup xs ∧ vw μ y = .tup ys)) ∧ xs.length ≤ 16000000 ∧ ys.length ≤ 16000000 ∧ dvs (dview μ n) xs = some as ∧ dvs (dview μ n) ys = some bs ∧ Q (.bl (eqD (.lst as) (.lst bs))) μ
def sp_rowN : Nat → DSp
  | 0 => fun _ _ _ _ => False
  | n + 1 => sp_row n
theorem len_row (n : Nat) : ∀ ds μ Q E, sp_row n ds μ Q E → ds.length = 2 := by
  rintro ds μ Q E ⟨x, y, xs, ys, as, bs, rfl, _⟩; rfl
theorem len_same (n : Nat) : ∀ ds μ Q E, sp_same n ds μ Q E → ds.length = 2 := by
  rintro ds μ Q E ⟨x, y, a, b, rfl, _⟩; rfl
@[simp ↓] theorem e_same {n : Nat} {x y : D} {μ : Mu} {Q : QD} {E : XDt} : sp_same n [x, y] μ Q E = (oS (dview μ n x) fun a => oS (dview μ n y) fun b => Q (.bl (eqD a b)) μ) := by
  simp only [sp_same, List.cons.injEq, and_true, and_assoc, exists_and_left, exists_eq_left', oS_eq]
@[simp ↓] theorem e_draw {sz : Int} {μ : Mu} {Q : QD} {E : XDt} : sp_draw [.src, .int sz] μ Q E = (0 < sz ∧ sz < 1073741824 ∧ ∀ n, 0 ≤ n → n < sz → Q (.int n) μ) := by
  simp only [sp_draw, List.cons.injEq, D.int.injEq, true_and, and_true, exists_eq_left']
end DL

/-! DLG: counters in a one-item list (rooms), walks over a cell that stays. -/
namespace DL
open PySem PySem.Spec PyProof.Rows L2
section
variable {K : PySem.W.Frag} {G : Gh} {μ : Mu} {H : Hp} {ρ : DR} {σ : St} {a p : Addr}
theorem Hold.roomSet (h : Hold K G μ H) (m : a ∈ G.rooms) (n : Int) : Hold K G μ (upd H a (.lst [.int n])) := by
  obtain ⟨f1, f2, f3, _⟩ := h.rooms a m
  refine ⟨h.fr.mut f1, fun b c q => ?_, fun b q => ?_, fun b q => ?_⟩
  · obtain ⟨x, o, y, z⟩ := h.cell b c q
    have ne : b ≠ a := fun e => by rw [e, f2] at q; cases q
    exact ⟨x, o, (upd_ne ne).trans y, z⟩
  · obtain ⟨x, y, z⟩ := h.src b q
    have ne : b ≠ a := fun e => f3 (e ▸ q)
    exact ⟨x, y, z.mono (Ext.refl _) fun o q => (upd_ne ne).trans q⟩
  · obtain ⟨x, y, z, k, w⟩ := h.rooms b q
    by_cases e : b = a
    · subst e; exact ⟨x, y, z, n, upd_same⟩
    · exact ⟨x, y, z, k, (upd_ne e).trans w⟩
theorem Sat.roomNew (S : Sat K B G ρ μ σ H) (n : H p = none) (k : Int) : ∃ G', Gle G G' ∧ Sat K B G' ρ μ σ (upd H p (.lst [.int k])) ∧ p ∈ G'.rooms := by
  obtain ⟨f1, f2, f3, f4⟩ := S.hold.free n
  have g : Gle G { G with rooms := p :: G.rooms } := ⟨Ext.refl _, fun _ h => h, fun _ h => List.mem_cons_of_mem _ h⟩
  refine ⟨_, g, ⟨?_, S.env.mono g⟩, List.mem_cons_self⟩
  refine ⟨S.hold.fr.trans (Ext.new n), fun b c q => ?_, fun b q => ?_, fun b q => ?_⟩
  · obtain ⟨x, o, y, z⟩ := S.hold.cell b c q
    have ne : b ≠ p := fun e => by rw [e, f2] at q; cases q
    exact ⟨x, o, (upd_ne ne).trans y, z.mono g⟩
  · obtain ⟨x, y, z⟩ := S.hold.src b q
    have ne : b ≠ p := fun e => f3 (e ▸ q)
    exact ⟨x, y, z.mono (Ext.refl _) fun o q => (upd_ne ne).trans q⟩
  · by_cases e : b = p
    · subst e; exact ⟨f1, f2, f3, k, upd_same⟩
    · obtain ⟨x, y, z, j, w⟩ := S.hold.rooms b ((List.mem_cons.mp q).resolve_left e)
      exact ⟨x, y, z, j, (upd_ne e).trans w⟩
end
section
variable {X : Cx} {pos : Pos} {a b : Expr} {ta tb : TE} {Ta Tb : TDE}
/-- room[0] -/
def opIxR : R2D := fun x y μ Q => match x, y with
  | .room, .int 0 => ∀ n : Int, Q (.int n) μ
  | _, _ => False
@[simp ↓] theorem opIxR_p {μ : Mu} {Q : QD} : opIxR .room (.int 0) μ Q = (∀ n : Int, Q (.int n) μ) := id rfl
theorem ref_ixR : Ref2 X.K B opIxR (rIx X.K) := by
  intro ρ μ σ H G x y dx dy Q Qn S r1 r2 h hd
  unfold opIxR at h
  split at h
  · cases r2
    cases r1 with
    | room m =>
      obtain ⟨_, _, _, n, w⟩ := S.hold.rooms _ m
      exact .inl ⟨_, _, 0, _, rfl, rfl, SqL.of w, rfl, hd.now S (.int n) (h n)⟩
  · exact h.elim
theorem de_ixR (ha : DE X B a ta Ta) (hb : DE X B b tb Tb) (hs : PlainIx b := by exact fun _ _ => rfl) : DE X B (.Subscript a b pos) (tOp (rIx X.K) ta tb) (dOp opIxR Ta Tb) := ⟨pe_ix ix_seq ha.pe hb.pe hs, ref_op ref_ixR ha.ref hb.ref⟩
/-- room[0] = an int -/
def dgSubR (To Ti : TDE) : TDG := fun d ρ μ Q => To ρ μ fun o μ1 => Ti ρ μ1 fun i μ2 => match o, i, d with | .room, .int 0, .int _ => Q ρ μ2 | _, _, _ => False
@[simp ↓] theorem dgSubR_p {To Ti : TDE} {d : D} {ρ} {μ} {Q} : dgSubR To Ti d ρ μ Q = (To ρ μ fun o μ1 => Ti ρ μ1 fun i μ2 => match o, i, d with | .room, .int 0, .int _ => Q ρ μ2 | _, _, _ => False) := id rfl
theorem dg_subR {o i : Expr} {to ti : TE} {To Ti : TDE} (ho : DE X B o to To) (hi : DE X B i ti Ti) (ha : ∀ v, assign (.Subscript o i pos) X.env v = (do
      let ov ← holding [v] (eval o X.env)
      let iv ← holding [v, ov] (eval i X.env)
      standAt pos
      holding [v, ov, iv] (setItem ov iv v)
      release [v, ov, iv] []) := by intro _; rfl) : DG X B (.Subscript o i pos) (gSub to ti rSetL) (dgSubR To Ti) :=
  ⟨pg_sub ho.pe hi.pe set_list ha, fun d v ρ μ σ H G Q Qn S r h hd => ho.ref ρ μ σ H G _ _ S h fun o' μ1 ov H1 G1 g1 S1 r1 q1 => hi.ref ρ μ1 σ H1 G1 _ _ S1 q1 fun i' μ2 iv H2 G2 g2 S2 r2 q2 => by
    split at q2
    · cases r2
      cases r1 with
      | room m =>
        obtain ⟨_, _, _, n, w⟩ := S2.hold.rooms _ (g2.rooms _ m)
        have ev := r.ofInt
        subst ev
        exact ⟨_, _, 0, 0, rfl, rfl, w, rfl, hd ρ _ _ _ G2 (g1.trans g2) ⟨S2.hold.roomSet (g2.rooms _ m) _, S2.env⟩ q2⟩
    · exact q2.elim⟩
/-- [e] handed over as a room -/
def dRoom (T : TDA) : TDE := fun ρ μ Q => T ρ μ fun ds μ1 => match ds with | [.int _] => Q .room μ1 | _ => False
@[simp ↓] theorem dRoom_p {T : TDA} {ρ} {μ} {Q} : dRoom T ρ μ Q = (T ρ μ fun ds μ1 => match ds with | [.int _] => Q .room μ1 | _ => False) := id rfl
theorem de_room {es : List Expr} {t : TA} {T : TDA} (h : DA X B es t T) : DE X B (.List es pos) (tLst t) (dRoom T) :=
  ⟨pe_lst h.pa, fun ρ μ σ H G Q Qn S q hd => h.ref ρ μ σ H G _ _ S q fun ds μ1 vs H1 G1 g1 S1 r1 q1 => by
    split at q1
    · next n =>
      obtain ⟨v, rfl, rv⟩ := reps1 r1
      cases rv
      refine ⟨by show 1 ≤ sizeLine; decide, fun p np => ?_⟩
      obtain ⟨G2, g2, S2, m⟩ := S1.roomNew np n
      exact hd .room μ1 _ _ G2 (g1.trans g2) S2 (.room m) q1
    · exact q1.elim⟩
/-- the items of a cell that stays as it is -/
def iCell (T : TDE) : TDIK := fun ρ μ Q => T ρ μ fun d μ1 => pS d fun a => cS (μ1 a) fun xs => Q xs (fun μ' => μ' a = some (.lst xs)) μ1
@[simp ↓] theorem iCell_p {T : TDE} {ρ} {μ} {Q} : iCell T ρ μ Q = (T ρ μ fun d μ1 => pS d fun a => cS (μ1 a) fun xs => Q xs (fun μ' => μ' a = some (.lst xs)) μ1) := id rfl
theorem di_cell {tg e : Expr} {te : TE} {T : TDE} (h : DE X B e te T) : DIK X B tg e (iList X.K te) (iCell T) := ⟨pi_list h.pe, fun ρ μ σ H G Q R S q hd => h.ref ρ μ σ H G _ _ S q fun d μ1 v H1 G1 g1 S1 r1 q1 => by
  cases d with
  | ptr a =>
    cases r1
    have q2 : cS (μ1 a) fun xs => Q xs (fun μ' => μ' a = some (.lst xs)) μ1 := q1
    rw [cS_eq] at q2
    obtain ⟨xs, e1, q3⟩ := q2
    obtain ⟨vs0, h0, rr0⟩ := S1.hold.lstAt e1
    refine ⟨a, rfl, ⟨vs0, SqL.of h0⟩, hd xs _ μ1 _ H1 G1 g1 S1 q3 (fun n H' G' μ' g h' kp => ⟨fun hn => ?_, fun hn => ?_⟩) fun n x w H' H2 G' μ' g h' kp ex y => ?_⟩
    · obtain ⟨vs, h1, rr⟩ := h'.lstAt kp
      exact ⟨vs, vs[n]'(by rw [rr.1]; exact hn), SqL.of h1, List.getElem?_eq_getElem _⟩
    · obtain ⟨vs, h1, rr⟩ := h'.lstAt kp
      exact ⟨vs, SqL.of h1, by rw [rr.1]; exact hn⟩
    · obtain ⟨rfl, y⟩ := y
      obtain ⟨vs, h1, rr⟩ := h'.lstAt kp
      have e2 := y vs (SqL.of h1)
      exact ⟨G', Gle.refl _, h', rr.2 n w x e2 ex⟩
  | _ => exact False.elim q1⟩
/-- the items of a list, frozen or a cell that stays as it is -/
def Stays (d : D) (xs : List D) (μ : Mu) : Prop := match d with | .ptr a => μ a = some (.lst xs) | _ => True
def iAny (T : TDE) : TDIK := fun ρ μ Q => T ρ μ fun d μ1 => lS (vw μ1 d) fun xs => Q xs (Stays d xs) μ1
@[simp ↓] theorem iAny_p {T : TDE} {ρ} {μ} {Q} : iAny T ρ μ Q = (T ρ μ fun d μ1 => lS (vw μ1 d) fun xs => Q xs (Stays d xs) μ1) := id rfl
@[simp] theorem Stays_lst {xs ys : List D} {μ : Mu} : Stays (.lst xs) ys μ = True := rfl
@[simp] theorem Stays_ptr {a : Addr} {ys : List D} {μ : Mu} : Stays (.ptr a) ys μ = (μ a = some (.lst ys)) := rfl
theorem di_any {tg e : Expr} {te : TE} {T : TDE} (h : DE X B e te T) : DIK X B tg e (iList X.K te) (iAny T) := ⟨pi_list h.pe, fun ρ μ σ H G Q R S q hd => h.ref ρ μ σ H G _ _ S q fun d μ1 v H1 G1 g1 S1 r1 q1 => by
  rw [lS_eq] at q1
  obtain ⟨xs, e1, q3⟩ := q1
  obtain ⟨a, vs0, rfl, h0, rr0⟩ := S1.hold.lst r1 e1
  have key : ∀ {H' : Hp} {G' : Gh} {μ' : Mu}, Gle G1 G' → Hold X.K G' μ' H' → Stays d xs μ' → ∃ vs, H' a = some (.lst vs) ∧ Reps X.K G' vs xs := by
    intro H' G' μ' g h' kp
    cases d with
    | lst ys =>
      cases e1
      cases r1 with
      | lst hh l r => exact ⟨_, h'.fr _ _ (g.fr _ _ hh), l, fun i v d a b => (r i v d a b).mono g⟩
    | ptr b => cases r1; exact h'.lstAt kp
    | _ => cases e1
  refine ⟨a, rfl, ⟨vs0, SqL.of h0⟩, hd xs _ μ1 _ H1 G1 g1 S1 q3 (fun n H' G' μ' g h' kp => ⟨fun hn => ?_, fun hn => ?_⟩) fun n x w H' H2 G' μ' g h' kp ex y => ?_⟩
  · obtain ⟨vs, h1, rr⟩ := key g h' kp
    exact ⟨vs, vs[n]'(by rw [rr.1]; exact hn), SqL.of h1, List.getElem?_eq_getElem _⟩
  · obtain ⟨vs, h1, rr⟩ := key g h' kp
    exact ⟨vs, SqL.of h1, by rw [rr.1]; exact hn⟩
  · obtain ⟨rfl, y⟩ := y
    obtain ⟨vs, h1, rr⟩ := key g h' kp
    have e2 := y vs (SqL.of h1)
    exact ⟨G', Gle.refl _, h', rr.2 n w x e2 ex⟩⟩
end
theorem loopK_it {g : TDG} {T : TDS} {E : DEnds} {Kp : Mu → Prop} (I : List D → DR → Mu → Prop) {xs : List D} {ρ : DR} {μ : Mu} (h : I xs ρ μ) (hk : ∀ r ρ μ, I r ρ μ → Kp μ) (hn : ∀ ρ μ, I [] ρ μ → E.nx ρ μ)
    (hc : ∀ x r ρ μ (N : DR → Mu → Prop), I (x :: r) ρ μ → (∀ ρ' μ', I r ρ' μ' → N ρ' μ') → g x ρ μ fun ρ2 μ2 => T (lpE E N) ρ2 μ2) : loopK g T E Kp xs ρ μ := loopK_ind I h hk hn hc
/-- the loop is a letter while its items are found -/
theorem forK_hide {I : TDIK} {g : TDG} {T : TDS} {E : DEnds} {ρ : DR} {μ : Mu} (h : ∀ L : List D → (Mu → Prop) → DR → Mu → Prop, (∀ xs Kp ρ μ, L xs Kp ρ μ = loopK g T E Kp xs ρ μ) → I ρ μ fun xs Kp μ1 => L xs Kp ρ μ1) : dForK I g T E ρ μ := h (fun xs Kp ρ μ => loopK g T E Kp xs ρ μ) (fun _ _ _ _ => rfl)
/-- a statement that leaves all as it is, or goes out -/
theorem seq_same {T U : TDS} {E : DEnds} {ρ : DR} {μ : Mu} (h1 : ∀ N : DR → Mu → Prop, N ρ μ → T (sqE E N) ρ μ) (h2 : U E ρ μ) : dSeq T U E ρ μ := h1 _ h2
theorem frzS_mup {i : Nat} {T : TDS} {E : DEnds} {ρ : DR} {μ : Mu} {a : Addr} {xs : List D} (e : ρ[i]? = some (some (.ptr a))) (n : μ a = none) (h : T E (ρ.set i (some (.lst xs))) μ) : dFrzS i T E ρ (mup μ a (.lst xs)) := by
  unfold dFrzS
  rw [e]
  simp only [mup_same]
  rw [mdel_mup n]
  exact h
theorem frzS_at {i : Nat} {T : TDS} {E : DEnds} {ρ : DR} {μ : Mu} {a : Addr} {xs : List D} (e : ρ[i]? = some (some (.ptr a))) (n : μ a = some (.lst xs)) (h : T E (ρ.set i (some (.lst xs))) (mdel μ a)) : dFrzS i T E ρ μ := by
  unfold dFrzS
  rw [e]
  simp only [n]
  exact h
/-- a def that is never called -/
theorem dead_fn {P : Program} {w : World} {K : PySem.W.Frag} {mg : Str → Option Value} {base : Heap} {CX : CXT} {k : Nat} {f : Addr} {fd : FuncData} {ps : List Str} : FnOk P w K mg base CX k f fd ps (toSp K fun _ _ _ _ => False) := by
  refine ⟨?_, ?_⟩
  · rintro vs H Q E ⟨_, _, _, _, _, _, _, h, _⟩; exact h.elim
  · rintro _ _ _ _ _ _ vs Q E _ _ _ _ ⟨_, _, _, _, _, _, _, h, _⟩; exact h.elim
end DL

/-! DLH: own errors: an __init__ that says super().__init__('m') first. -/
namespace DL
open PySem PySem.Spec PyProof.Rows L2 NdefX

section
variable {M : Model} {prog : Program} {w : World} {A : Around} {E : Value → Shared → Prop} {h : Heap} {g : Array GenState} {d : Drawn} {t : Nat} {os : OsState}
theorem bound_init {nm q : Str} {C N : Addr} {bs bm : List Value} {hdct : Bool} {sn : List Str} {sub : List Value} {ab : Bool} {col : Option Bool} {dd : Option Addr} {k0 k1 k2 k3 k5 : Option Value} {u e t0 : Addr} {rest : List Value} {Q : Value → Shared → Prop}
    (hC : h.get? C = some (excClassObj nm q C N bs bm hdct sn sub ab col dd k0 k1 k2 k3 k5 "ValueError.__new__")) (hu : h.get? u = some (PySem.W.kxs_mw "ValueError.__init__" e)) (he : h.get? e = some (PySem.HandSPX.excO C t0)) (hrest : rest.length ≤ sizeLine)
    (hq : ∀ h' t1, (∀ b o, b ≠ e → h.get? b = some o → h'.get? b = some o) → h'.get? e = some (PySem.HandSPX.excO C t1) → Q .none ⟨h', g, d, t, os⟩) :
    wpAny (model prog w) A (call (.ref u) rest) Q E ⟨h, g, d, t, os⟩ := by
  refine wpAny_call (codeAny_of_tree ?_)
  show wpAny _ A.in1 (callAny (.ref u) ⟨rest, []⟩) _ _ _
  simp only [callAny]
  refine wpAny_bind (wpAny_load hu ?_)
  simp only [PySem.W.kxs_mw, show (Value.type "method-wrapper" == Value.type "method" || Value.type "method-wrapper" == Value.type "builtin_function_or_method" || Value.type "method-wrapper" == Value.type "method-wrapper") = true by decide, if_true]
  refine PySem.W.KFB.if_so (by decide) ?_
  refine wpAny_bind (PySem.W.check_bound_init PySem.F.excBase_ValueError.toExcCallFacts hC he rfl ?_)
  refine wpAny_bind (wpAny_pure (wpAny_pure ?_))
  refine ⟨plainId_quiet PySem.F.excBase_ValueError.init.plain _, codeAny_builtin PySem.F.excBase_ValueError.initEntry ?_⟩
  exact PySem.W.exc_init_tree (cls := .ref C) (t0 := t0) (dv := none) (c2 := .none) (c3 := .none) (b4 := .bool false) he hrest fun h' k e1 e2 => hq h' _ k e1
end

/-- what the written part says of such an __init__, at f -/
structure SupFn (P : Program) (K : PySem.W.Frag) (mg : Str → Option Value) (D : Addr) (st : Stmt) (f : Addr) (fd : FuncData) (F : NF) : Prop where
  ex : ∃ (oc : Value) (od : Option Addr) (kV doc pm ct : Value) (an : Option Addr) (osl : Array (Option Value)), fd = PySem.W.fnX F.name F.qual (defArgs st) (defBody st) (defScope st) F.cl .none kV doc pm an (.ref F.c) ct ∧ K.lookup f = some ⟨oc, od, .func fd, osl⟩
  sc : F.scope = defScope st
  cd : PySem.W.codeIn K (.ref F.c) F.qual = true
  file : ∃ (vs : Array Value) (file : Str) (tf : Tok) (ccl : Value) (cdd : Option Addr) (ccs : Array (Option Value)), K.lookup F.c = some ⟨ccl, cdd, .fields vs, ccs⟩ ∧ vs[2]? = some (.str file tf) ∧ ((P.main.file : Str) == file) = true
  cell : ∃ (cc : Addr) (cl : Value) (cld : Option Addr) (csl : Array (Option Value)), F.cl = [(("__class__" : Str), cc)] ∧ K.lookup cc = some ⟨cl, cld, .cell (some (.ref D)), csl⟩
  top : (P.main.scope.names.lookup ("super" : Str)).isSome = false
  sup : mg "super" = none
  opq : PySem.W.nsIn K cStatics "thirdparty.any" = some none
  cls : OexC K D
  ini : PySem.W.ks_superIn K D D "__init__" = some (some (.builtin "ValueError.__init__"))
  ve : PySem.W.subIn K (.ref D) (.type "ValueError") = some true

variable {P : Program} {w : World} {K : PySem.W.Frag} {mg : Str → Option Value} {base : Heap}
theorem sup_ok {CX : CXT} {D f : Addr} {st : Stmt} {fd : FuncData} {F : NF} {N ps : List Str} {k : Nat} {sp : Sp} {p0 p1 p2 p3 p4 p5 : Pos} {m : Str} {j : Nat} {rest : List Stmt} {ar : Arg} (U : SupFn P K mg D st f fd F) (S : NScope N ps ["__class__"] F.scope)
    (hbd : defBody st = .Expr (.Call (.Attribute (.Call (.Name "super" p0) [] [] p1) "__init__" p2) [.Constant (.str m) j p3] [] p4) p5 :: rest)
    (hp : ((defArgs st).posonlyargs ++ (defArgs st).args).head? = some ar) (har : ps[0]? = some ar.arg) (hks : F.scope.names.lookup ("super" : Str) = some .globalImplicit) (len : ∀ vs H Q E, sp vs H Q E → vs.length = ps.length)
    (he : ∀ L : Addr, ∃ pl : Sem Bool, eval (.Call (.Attribute (.Call (.Name "super" p0) [] [] p1) "__init__" p2) [.Constant (.str m) j p3] [] p4) (envF F f L) = (do
      let ov ← attributeBase (.Call (.Name "super" p0) [] [] p1) "__init__" (envF F f L) (eval (.Call (.Name "super" p0) [] [] p1) (envF F f L))
      standAt p2.atName
      let (f1, first) ← holding [ov] (getMethod ov "__init__" pl)
      callWith p4 f1 first (backTo p4 (starEach [.Constant (.str m) j p3] (envF F f L))) []))
    (hin : ∀ L : Addr, interactive (envF F f L) = false) (hsw : ∀ L : Addr, swapsWith (.Call (.Attribute (.Call (.Name "super" p0) [] [] p1) "__init__" p2) [.Constant (.str m) j p3] [] p4) none p5.line (envF F f L) = pure false)
    (hb : ∀ (A : Around) (outer : List Env) (s : Shared) (H : Hp) (vs : List V) (Q : VK) (E : XK), Room k (A.deeper (envF F f s.heap.objs.size)) → sp vs H Q E → ∃ (a : Addr) (ws : List V), vs = .ref a :: ws ∧ H a = some (exo a D none) ∧
      ∃ t, PSs (ncx CX P w K mg base N F f A outer s H E) rest t ∧ t { nx := fun _ H' => Q .non H', rt := Q } (startF N vs [none]) H) : FnOk P w K mg base CX (k + 1) f fd ps sp := by
  refine ⟨len, fun A outer s H args us vs Q E hr e0 hbi r hsp => ?_⟩
  have hl := len _ _ _ _ hsp
  have KX : K.In s.heap := e0.mod.kin.keeps fun b o e => (e0.bs b o e).1
  have lim : s.heap.NoLimit := e0.mod.nolimit.keeps fun b o e => (e0.bs b o e).1
  obtain ⟨oc, od, kV, doc, pm, ct, an, osl, rfl, lk⟩ := U.ex
  obtain ⟨cc, ccl, ccd, ccs, hcl, hcell⟩ := U.cell
  obtain ⟨fvs, file, tf, c1, c2, c3, lkc, hv2, hfile⟩ := U.file
  have T := U.cls
  obtain ⟨nm, q, Nn, bs, bm, sn, sub, ab, col, dd, k0, k1, k2, k3, k5, hC, hbm⟩ := T.cls
  obtain ⟨mb, hmb1, hmb2⟩ := e0.mod.blt
  have hsc := U.sc
  refine PySem.ks_codeAny_call_defAt (body := defBody st) (binds := ps.zip us) hr.depth (KX _ _ lk) rfl lim (PySem.W.codeRec_of KX U.cd) rfl hbi (by rw [← hsc]; exact S.nocell) (fun ⟨n, _⟩ hy => by rw [← hsc]; exact S.par n (List.of_mem_zip hy).1) (fun h₁ hns kp => ?_) (by rw [← hsc]; exact S.co) (by rw [← hsc]; exact S.gen) (by rw [← hsc]; exact S.kind)
  obtain ⟨a, ws, ev, ea, t, ht, hq⟩ := hb A outer s H vs Q E (hr.deeper _) hsp
  have C : CellsAt F.cl ["__class__"] [none] s.heap H := by
    rw [hcl]
    have hcb := e0.bs cc _ (e0.mod.kin _ _ hcell)
    refine ⟨rfl, fun y c e => ?_, fun x y c e1 e2 => ?_, fun i y e => ?_⟩
    · simp only [List.lookup] at e
      split at e <;> cases e
      exact ⟨hcb.2, _, _, hcb.1, rfl⟩
    · simp only [List.lookup] at e1 e2
      split at e1 <;> cases e1
      split at e2 <;> cases e2
      rename_i g1 _ g2
      rw [beq_iff_eq.mp g1, beq_iff_eq.mp g2]
    · cases i with
      | zero =>
        simp at e
        subst e
        exact ⟨cc, by simp [List.lookup], fun v z => by simp at z⟩
      | succ i => simp at e
  have I : Inv (ncx CX P w K mg base N F f A outer s H E) [] (startF N vs [none]) H { s with heap := h₁, toks := s.toks + (ps.zip us).length } := inv_startN S hr.hd e0 hl r C hns kp
  obtain ⟨hp0, g, d, tk, os⟩ := s
  obtain ⟨pl, hev⟩ := he hp0.objs.size
  show PySem.wpAt _ _ (.func (defBody st) (PySem.W.envX F.qual (defScope st) hp0.objs.size f (.ref F.c) F.cl)) (execs (defBody st) (PySem.W.envX F.qual (defScope st) hp0.objs.size f (.ref F.c) F.cl)) _ _ _
  rw [← hsc]
  show PySem.wpAt _ _ _ (execs (defBody st) (envF F f hp0.objs.size)) _ _ _
  rw [hbd]
  refine PySem.ks_wpAt_execs_cons (PySem.ks_wpAt_Expr_any (PySem.ks_wpAt_MethodCall (pl := pl) ?_ hev) (hin _) (hsw _))
  have hcb := e0.mod.kin _ _ hcell
  obtain ⟨m1, hns1, hlook⟩ := I.loc
  refine PySem.ks_wpAt_super_base (env := envF F f hp0.objs.size) hks (S.frk _ (List.mem_singleton.mpr rfl)) rfl rfl (I.kIn _ _ lk) rfl hp rfl (I.kIn _ _ lkc) rfl hv2 hfile U.top ?_
  refine PySem.W.ks_loadName_global S.kind hks (Calls.loadGlobal_builtin (I.mod.glob.keeps I.bk) U.sup (hmb1.keeps I.bk) ((hmb2 "super" (by decide)).trans (by first | exact PyProof.Rows.Boot.«super» | rfl | kernel_rfl)) ⟨rfl, ?_⟩)
  refine wpAny_loadName_free S.kind (S.frk _ (List.mem_singleton.mpr rfl)) (c := cc) (by show F.cl.lookup _ = _; rw [hcl]; rfl) ⟨_, I.kIn _ _ hcell, rfl⟩ ?_
  have hl1 : vs[0]? = some (.ref a) := by rw [ev]; rfl
  obtain ⟨u0, hu0, ru0⟩ := r.get hl1
  cases ru0
  have hself : (ps.zip us).reverse.lookup ar.arg = some (.ref a) := zip_look (by
    have q := S.nd.sublist (List.take_sublist (ps.length + 1) N)
    have q2 := S.pre
    simp only [List.length_cons, List.length_nil] at q2
    rw [q2] at q
    exact (List.nodup_append.mp q).1) har hu0
  refine wpAny_loadName_local S.kind (S.par _ (List.mem_of_getElem? har)) hns hself ?_
  obtain ⟨t1, ho⟩ := exo_at I.hok ea
  have hD1 := I.kIn _ _ hC
  refine PySem.ks_wpAny_isType_cls hD1 rfl ⟨rfl, ?_⟩
  have hsub : PySem.W.mroIn K D (.ref D) = some true := by
    unfold PySem.W.mroIn PySem.W.clsIn
    rw [hC]
    simp
  refine PySem.ks_wpAny_call_super hD1 rfl ho rfl (fun c e => by cases e) (PySem.W.looks_mroIn I.kIn hsub) (fun h' e kp2 => ?_)
  have I2 : Inv (ncx CX P w K mg base N F f A outer ⟨hp0, g, d, tk, os⟩ H E) [] (startF N vs [none]) H ⟨h', g, d, tk + (ps.zip us).length, os⟩ := I.kept (t' := tk + (ps.zip us).length) kp2
  have ho2 := kp2 _ _ ho
  have KX2 : K.In h' := I2.kIn
  have LT : PySem.W.Looks (model P w) h' (typeOf (.ref a)) (.ref D) := fun A Q E s k q => wpAny_typeOf_ref (k _ _ ho2) q
  have hI : PySem.W.Looks (model P w) h' (isInstance (.ref a) (.type "ValueError")) true := LT.andThen (PySem.W.looks_subIn I2.kIn U.ve)
  have haD : a ≠ D := fun z => by
    rw [z] at ho2
    have y := I2.kIn _ _ hC
    rw [ho2] at y
    cases y
  have hini := U.ini
  unfold PySem.W.ks_superIn PySem.W.clsIn at hini
  rw [hC] at hini
  have hci : PySem.W.clsIn K D = some { name := nm, bases := bs, mro := .ref D :: bm, ns := Nn, qualname := q, hasDict := true, slotNames := sn, subclasses := sub, abstract := ab, collection := col, hasDel := false } := by unfold PySem.W.clsIn; rw [hC] <;> rfl
  have hlk : PySem.W.Looks (model P w) h' (mroOf (.ref D)) (.ref D :: bm) := fun A Q E s k q => wpAny_bind ((PySem.W.looks_clsIn KX2 hci) A _ E s k (wpAny_pure q))
  refine PySem.W.kxs_getMethod PySem.W.kxs_ValueError e (PySem.W.looks_opaque KX2 U.opq) hlk rfl KX2 hini hI haD rfl ?_
  have hmw : (h'.push (PySem.W.kxs_mw "ValueError.__init__" a)).get? h'.objs.size = some (PySem.W.kxs_mw "ValueError.__init__" a) := Heap.get?_push_at rfl rfl
  have kp3 : ∀ b o, h'.get? b = some o → (h'.push (PySem.W.kxs_mw "ValueError.__init__" a)).get? b = some o := fun b o z => Heap.get?_push_of_some _ z
  refine PySem.W.kxs_callWith (i := "ValueError.__init__") (x := a) rfl (Calls.evalArgs_plain (spliced_more (wpAny_Constant_str (spliced_none ⟨hmw, ?_⟩))))
  refine bound_init (C := D) (t0 := t1) (kp3 _ _ (KX2 _ _ hC)) hmw (kp3 _ _ ho2) (by show 1 ≤ sizeLine; rw [sizeLine_eq]; omega) (fun h4 t2 kp4 hx => ?_)
  have I3 : Inv (ncx CX P w K mg base N F f A outer ⟨hp0, g, d, tk, os⟩ H E) [] (startF N vs [none]) H ⟨h'.push (PySem.W.kxs_mw "ValueError.__init__" a), g, d, tk + (ps.zip us).length, os⟩ := I2.kept (t' := tk + (ps.zip us).length) kp3
  have J := I3.write (t' := tk + (ps.zip us).length + 1 + 1) (x := a) (e := a) (o := exo a D none) (by rw [ea]; exact True.intro) (.inl rfl) kp4 ⟨_, hx⟩ (exo_ok hx)
  have eu : upd H a (exo a D none) = H := by
    funext b
    by_cases hb : b = a
    · rw [hb, upd_same, ea]
    · rw [upd_ne hb]
  rw [eu] at J
  refine wpAt_of_wpAny (wpAny_mono (ht.run [] _ (startF N vs [none]) H _ J hq) (fun fl s' hs => ?_) fun e s' hs => hs)
  have fin : ∀ {σ' : L2.St} {H' : Hp} {v : V} {u : Value}, Inv (ncx CX P w K mg base N F f A outer ⟨hp0, g, d, tk, os⟩ H E) [] σ' H' s' → L2.RelV v u → Q v H' → CE outer P w H ⟨hp0, g, d, tk, os⟩ Q u s' :=
    fun {σ' H' v u} J rv q => ⟨v, H', J.os, J.bare, J.base, J.hok, rv, q⟩
  cases fl with
  | ret u =>
    obtain ⟨v, σ', H', J, rv, q⟩ := hs
    exact fin J rv q
  | next =>
    obtain ⟨σ', H', J, q⟩ := hs
    exact fin (v := V.non) (u := Value.none) J rfl q
  | brk =>
    obtain ⟨_, _, _, q⟩ := hs
    exact False.elim q
  | cont =>
    obtain ⟨_, _, _, q⟩ := hs
    exact False.elim q
end DL

/-! DLI: exceptions over data. -/
namespace DL
open PySem PySem.Spec PyProof.Rows L2 NdefX

/-! ### C(e, ..): an error made -/
section
variable {X : Cx} {e : Expr} {es : List Expr} {ta : TA} {p pos : Pos}
theorem pmk_oexN {CX : CXT} {x : Str} {C fI : Addr} {k : Nat} {fd : FuncData} {ps : List Str} {sp : Sp} (T : OexC X.K C) (iC : PySem.W.findIn X.K (.ref C) "__init__" = some (some (.ref fI))) (tI : PySem.W.typeIn X.K (.ref fI) = some (.type "function"))
    (F1 : FnOk X.prog X.w X.K X.mg X.base CX k fI fd ps sp) (hr : Room (k + 1) X.A) (hb : Binds X.K fd ps []) (hx : Passes CX X (fun _ _ _ => False)) (hg : Gl X x) (hm : X.mg x = some (.ref C)) (ha : PA X (e :: es) ta)
    (hdb : (x == ("__debug__" : Str)) = false := by decide) (he : starEach (e :: es) X.env = (false, eval e X.env) :: starEach es X.env := by rfl) (hpl : (backTo pos (starEach es X.env)).any (·.1) = false := by rfl) :
    L2N.PMk X (.Call (.Name x p) (e :: es) [] pos) (tMkO C sp [] ta) := by
  intro pins s σ H Q I h
  obtain ⟨nm, q, N, bs, bm, sn, sub, ab, col, dd, k0, k1, k2, k3, k5, hC, hbm⟩ := T.cls
  refine wpAny_Call_Name_kw (ld_glob I hg hm ?_ hdb)
  refine PySem.W.callWith_K (h₀ := X.base) I.ok.mod.kin T.kC (thn (ha.run pos pins s σ H _ I h) fun us s1 ⟨vs, H1, I1, r1, hz, q1⟩ => ⟨I1.kIn, ?_⟩) he hpl
  show wpAny _ _ (call (.ref C) us) _ _ _
  obtain ⟨hp, g, dr, tk, os⟩ := s1
  have hsz : hp.objs.size ≤ hp.objs.size + 1 := Nat.le_succ _
  have hn : H1 (hp.objs.size + 1) = none := I1.hok.fresh hsz
  have hq := q1 (hp.objs.size + 1) hn
  rw [List.append_nil] at hq
  have kk : ∀ b o, hp.get? b = some o → ((hp.push (PySem.W.kdv_tup us)).push (PySem.HandSPX.excO C hp.objs.size)).get? b = some o := fun b o e => Heap.get?_push_of_some _ (Heap.get?_push_of_some _ e)
  have hget : ((hp.push (PySem.W.kdv_tup us)).push (PySem.HandSPX.excO C hp.objs.size)).get? (hp.objs.size + 1) = some (PySem.HandSPX.excO C hp.objs.size) := by heap_get
  have I2 : Inv X pins σ (upd H1 (hp.objs.size + 1) (exo (hp.objs.size + 1) C none)) ⟨(hp.push (PySem.W.kdv_tup us)).push (PySem.HandSPX.excO C hp.objs.size), g, dr, tk, os⟩ :=
    I1.laid (t' := tk) (a := hp.objs.size + 1) (o := exo (hp.objs.size + 1) C none) (h' := (hp.push (PySem.W.kdv_tup us)).push (PySem.HandSPX.excO C hp.objs.size)) kk hsz (exo_ok hget)
  have r2 : Vals (V.ref (hp.objs.size + 1) :: vs) (Value.ref (hp.objs.size + 1) :: us) := .cons rfl r1
  have hl : (Value.ref (hp.objs.size + 1) :: us ++ []).length = ps.length := by
    have e := r2.length
    rw [F1.len _ _ _ _ hq] at e
    rw [List.append_nil]
    exact e.symm
  have hus : us.length ≤ sizeLine := by
    rw [← Paired.length r1, sizeLine_eq]
    omega
  have b2 := hb _ (Value.ref (hp.objs.size + 1) :: us) I2.kIn hl
  rw [List.append_nil] at b2
  refine wpAny_call (PySem.HandSPX.call_own PySem.F.excBase_ValueError (fun Y => PySem.HandSPX.refsVE_contains Y bm hbm) (I1.kIn _ _ hC) (PySem.W.looks_findIn I1.kIn iC) (fun self => PySem.W.bind_fn I1.kIn self tI) hus
    (codeAny_mono (F1.run _ X.stack _ _ ⟨Value.ref (hp.objs.size + 1) :: us, []⟩ (Value.ref (hp.objs.size + 1) :: us) _ _ (fun _ _ _ => False) (hr.make C us []) (I2.env0.make C us []) b2 r2 hq) fun r s' hq' => ?_))
  cases r with
  | error er => exact hx pins σ _ _ er s' I2 hq'
  | ok fl =>
    cases fl with
    | ret u =>
      obtain ⟨v, H2, os2, bare2, un2, hok2, rv, ev, d, fs, ea, ed, hd1, q2⟩ := hq'
      subst ev
      obtain ⟨h2, g2, d2, t2, os'⟩ := s'
      obtain ⟨t0, G, J, kG, ge, hoe, na⟩ := mk_end0 (d2 := d2) (t2 := t2) I1 hsz kk un2 hok2 os2 bare2 ea ed hd1
      refine ⟨rv, hp.objs.size + 1, _, _, ⟨G, g2, d2, t2, os'⟩, _, .ref C, some d, rfl, J, kG, ge, hoe, ⟨rfl, rfl, fun vs hv => ?_⟩, rfl, rfl, na, rfl, bare2, raises_own T.exC T.tyC, q2⟩
      cases hv
      rfl
    | next => exact False.elim hq'
    | brk => exact False.elim hq'
    | cont => exact False.elim hq'
end

/-! ### wishes over data -/
abbrev XD := Value → List (Str × D) → DR → Mu → Prop
def XRel (K : PySem.W.Frag) (B : Gh) (W : WX) (V : XD) : Prop := ∀ cls fs od ρ μ σ H G, Sat K B G ρ μ σ H → XRep K G fs od → V cls fs ρ μ → W cls od σ H
def noV : XD := fun _ _ _ _ => False
theorem XRel.no {K : PySem.W.Frag} {B : Gh} {W : WX} : XRel K B W noV := fun _ _ _ _ _ _ _ _ _ _ h => h.elim
theorem Sat.base {K : PySem.W.Frag} {B G : Gh} {ρ : DR} {μ : Mu} {σ : St} {H : Hp} (S : Sat K B G ρ μ σ H) : Sat K G G ρ μ σ H := ⟨S.hold, ⟨⟨S.env.1.1, Gle.refl G⟩, S.env.2⟩⟩
theorem Sat.under {K : PySem.W.Frag} {B B' G : Gh} {ρ : DR} {μ : Mu} {σ : St} {H : Hp} (S : Sat K B' G ρ μ σ H) (g : Gle B B') : Sat K B G ρ μ σ H := ⟨S.hold, ⟨⟨S.env.1.1, g.trans S.env.1.2⟩, S.env.2⟩⟩
theorem XRel.under {K : PySem.W.Frag} {B B' : Gh} {W : WX} {V : XD} (h : XRel K B W V) (g : Gle B B') : XRel K B' W V := fun cls fs od ρ μ σ H G S x v => h cls fs od ρ μ σ H G (S.under g) x v
theorem EndsR.under {K : PySem.W.Frag} {B B' G : Gh} {E : DEnds} {Dn : Ends} (h : EndsR K B G E Dn) (g : Gle B B') : EndsR K B' G E Dn :=
  ⟨fun ρ' μ' σ' H' G' g' S => h.nx ρ' μ' σ' H' G' g' (S.under g), h.rt, fun ρ' μ' σ' H' G' g' S => h.bk ρ' μ' σ' H' G' g' (S.under g), fun ρ' μ' σ' H' G' g' S => h.ct ρ' μ' σ' H' G' g' (S.under g)⟩
theorem xrep_some {K : PySem.W.Frag} (d : Option Addr) : ∃ G fs, XRep K G fs d := by
  cases d with
  | none => exact ⟨⟨fun _ => none, [], []⟩, [], rfl⟩
  | some a => exact ⟨⟨fun b => if b = a then some (.xd []) else none, [], []⟩, [], [], if_pos rfl, rfl, Reps.nil⟩

/-! ### a call of a def that may raise -/
section
variable {X : Cx} {B : Gh} {W : WX} {V : XD} {pos : Pos} {k : Nat} {f : Addr} {fd : FuncData} {ps : List Str} {S : DSp} {x : Str} {p : Pos} {e : Expr} {es : List Expr} {t : TA} {T : TDA}
def dCallX (V : XD) (S : DSp) (T : TDA) : TDE := fun ρ μ Q => T ρ μ fun ds μ1 => S ds μ1 Q (fun cls fs μ2 => V cls fs ρ μ2)
@[simp ↓] theorem dCallX_p {ρ} {μ} {Q} : dCallX V S T ρ μ Q = (T ρ μ fun ds μ1 => S ds μ1 Q (fun cls fs μ2 => V cls fs ρ μ2)) := id rfl
theorem ref_callX {K : PySem.W.Frag} (xr : XRel K B W V) (h : RefA K B T t) : RefE K B (dCallX V S T) (tCallS (toSp K S) (WE W) t) := fun ρ μ σ H G Q Qn St q hd => h ρ μ σ H G _ _ St q fun ds μ1 vs H1 G1 g1 S1 r1 q1 =>
  ⟨G1, ds, μ1, Q, _, S1.hold, r1, q1, fun d μ' v H' G' g' h' r' q' => hd d μ' v H' G' (g1.trans g') ⟨h', S1.env.mono g'⟩ r' q', fun cls fs μ' od H' G' g' h' x' z => xr cls fs od ρ μ' σ H' G' ⟨h', S1.env.mono g'⟩ x' z⟩
theorem de_callX (F : FnOk X.prog X.w X.K X.mg X.base (L2N.CX X.prog X.w) k f fd ps (toSp X.K S)) (tk : L2N.Takes X W) (xr : XRel X.K B W V) (hr : Room k X.A) (hm : X.mg x = some (.ref f)) (hk : PySem.W.keepIn X.K (.ref f) = true) (hb : Binds X.K fd ps []) (ha : DA X B (e :: es) t T) (hg : Gl X x := by rfl)
    (hdb : (x == ("__debug__" : Str)) = false := by decide) (he : starEach (e :: es) X.env = (false, eval e X.env) :: starEach es X.env := by rfl) (hpl : (backTo pos (starEach es X.env)).any (·.1) = false := by rfl) :
    DE X B (.Call (.Name x p) (e :: es) [] pos) (tCallS (toSp X.K S) (WE W) t) (dCallX V S T) := ⟨pe_callS F hr hg hm hk hb (fun σ => L2N.passAt tk σ) ha.pa hdb he hpl, ref_callX xr ha.ref⟩
end
/-! ### a def that may raise -/
section
variable {P : Program} {w : World} {K : PySem.W.Frag} {mg : Str → Option Value} {base : Heap}
theorem fn_okX {x qual : Str} {st : Stmt} {f : Addr} {fd : FuncData} {N ps : List Str} {k : Nat} {S : DSp} (F : Fun K x qual st f fd) (SC : FnScope N ps (defScope st)) (len : ∀ ds μ Q E, S ds μ Q E → ds.length = ps.length)
    (hb : ∀ (B : Gh) (EE : XDt) (cdv : Value) (A : Around) (outer : List Env) (s : Shared) (H : Hp) (E : XK), Room k (A.deeper (envOfC qual (defScope st) s.heap.objs.size f cdv)) → XRel K B (fun cls d _ H => E cls d H) (fun cls fs _ μ => EE cls fs μ) →
      L2N.Takes (cxOf (L2N.CX P w) P w K mg base N qual (defScope st) f cdv A outer s H E) (fun cls d _ H => E cls d H) → PassesOwn (model P w) (A.deeper (envOfC qual (defScope st) s.heap.objs.size f cdv)) (envOfC qual (defScope st) s.heap.objs.size f cdv) (cxOf (L2N.CX P w) P w K mg base N qual (defScope st) f cdv A outer s H E).xe →
      ∃ t T, DSs (cxOf (L2N.CX P w) P w K mg base N qual (defScope st) f cdv A outer s H E) B (defBody st) t T ∧ ∀ ds μ Q, S ds μ Q EE → T { nx := fun _ μ' => Q .non μ', rt := Q } (startD N ds) μ) :
    FnOk P w K mg base (L2N.CX P w) (k + 1) f fd ps (toSp K S) := by
  obtain ⟨oc, od, kV, doc, pm, an, cdv, ct, osl, rfl, lk, hcd⟩ := F.ex
  refine fn_of lk hcd SC (fun vs H Q E ⟨G, ds, μ, QQ, EE, _, r, s, _⟩ => r.1.trans (len ds μ QQ EE s)) fun A outer s H vs Q E hr ⟨G, ds, μ, QQ, EE, hh, r, sp, q, qe⟩ => ?_
  obtain ⟨t, T, h, b⟩ := hb G EE cdv A outer s H E hr (fun cls fs od ρ μ' σ H' G' S' x v => qe cls fs μ' od H' G' S'.env.1.2 S'.hold x v) (L2N.takes_of rfl rfl rfl rfl) PassesOwn.leaving
  refine ⟨t, h.pss, h.ref (startD N ds) μ (start N vs) H G _ _ ⟨hh, envr_start N r (Gle.refl G)⟩ (b ds μ QQ sp) ⟨?_, ?_, ?_, ?_⟩⟩
  · exact fun ρ' μ' σ' H' G' g S' z => q .non μ' .non H' G' g S'.hold .non z
  · exact fun d μ' v H' G' g S' rv z => q d μ' v H' G' g S' rv z
  · exact fun _ _ _ _ _ _ _ z => z.elim
  · exact fun _ _ _ _ _ _ _ z => z.elim
end

/-! ### raise -/
abbrev QX := Value → List (Str × D) → Mu → Prop
abbrev TDMk := DR → Mu → QX → Prop
def RefMk (K : PySem.W.Frag) (B : Gh) (T : TDMk) (t : St → Hp → XK → Prop) : Prop := ∀ ρ μ σ H G (Q : QX) (Qn : XK), Sat K B G ρ μ σ H → T ρ μ Q → (∀ cls fs od μ' H' G', Gle G G' → Sat K B G' ρ μ' σ H' → XRep K G' fs od → Q cls fs μ' → Qn cls od H') → t σ H Qn
structure DMk (X : Cx) (B : Gh) (e : Expr) (t : St → Hp → XK → Prop) (T : TDMk) : Prop where
  pm : L2N.PMk X e t
  ref : RefMk X.K B T t
section
variable {X : Cx} {B : Gh} {W : WX} {V : XD} {pos : Pos} {e : Expr} {t : St → Hp → XK → Prop} {T : TDMk}
def dRaise (V : XD) (T : TDMk) : TDS := fun _ ρ μ => T ρ μ fun cls fs μ' => V cls fs ρ μ'
@[simp ↓] theorem dRaise_p {E} {ρ} {μ} : dRaise V T E ρ μ = (T ρ μ fun cls fs μ' => V cls fs ρ μ') := id rfl
theorem ds_raise (hc : X.calm = true) (tk : L2N.Takes X W) (xr : XRel X.K B W V) (h : DMk X B e t T) : DS X B (.Raise (some e) none pos) (fun _ σ H => t σ H fun cls d H' => W cls d σ H') (dRaise V T) :=
  ⟨L2N.ps_raise hc tk h.pm, fun ρ μ σ H G E Dn S q hd => h.ref ρ μ σ H G _ _ S q fun cls fs od μ' H' G' g' S' x z => xr cls fs od ρ μ' σ H' G' S' x z⟩
end
/-- what such an __init__ of one field does -/
def initSp (C : Addr) (fl : Str) : Sp := fun vs H Q _ => ∃ a v, vs = [.ref a, v] ∧ H a = some (exo a C none) ∧ ∀ dx, H dx = none → dx ≠ a → Q .non (upd (upd H dx (exd dx [(fl, v)])) a (exo a C (some dx)))
section
variable {X : Cx} {B : Gh} {pos p : Pos} {C fI : Addr} {k : Nat} {fd : FuncData} {x fl : Str} {e : Expr} {t : TA} {T : TDA}
def dErr (C : Addr) (fl : Str) (T : TDA) : TDMk := fun ρ μ Q => T ρ μ fun ds μ1 => match ds with | [d] => Q (.ref C) [(fl, d)] μ1 | _ => False
@[simp ↓] theorem dErr_p {ρ} {μ} {Q : QX} : dErr C fl T ρ μ Q = (T ρ μ fun ds μ1 => match ds with | [d] => Q (.ref C) [(fl, d)] μ1 | _ => False) := id rfl
theorem ref_err {K : PySem.W.Frag} (h : RefA K B T t) : RefMk K B (dErr C fl T) (tMkO C (initSp C fl) [] t) := fun ρ μ σ H G Q Qn S q hd => h ρ μ σ H G _ _ S q fun ds μ1 vs H1 G1 g1 S1 r1 q1 => by
  match ds, q1 with
  | [d], q1 =>
    obtain ⟨v, r, rfl, rv, rr⟩ := r1.cons_inv
    obtain rfl := rr.nil_inv
    refine ⟨by simp, fun a na => ⟨a, v, rfl, upd_same, fun dx n1 ne => ⟨rfl, dx, [(fl, v)], upd_same, by rw [upd_ne ne]; exact upd_same, by rwa [upd_ne ne] at n1, ?_⟩⟩⟩
    rw [upd_ne ne] at n1
    have eH : upd (del (upd (upd (upd H1 a (exo a C none)) dx (exd dx [(fl, v)])) a (exo a C (some dx))) a) dx (.xd [(fl, v)]) = upd H1 dx (.xd [(fl, v)]) := by
      funext b
      by_cases h1 : b = dx
      · subst h1; rw [upd_same, upd_same]
      · rw [upd_ne h1, upd_ne h1]
        by_cases h2 : b = a
        · subst h2; rw [del_same, na]
        · rw [del_ne h2, upd_ne h2, upd_ne h1, upd_ne h2]
    rw [eH]
    have g2 := Gle.frz (o := .xd [(fl, v)]) (S1.hold.free n1).1
    have S2 : Sat K B (G1.frz dx (.xd [(fl, v)])) ρ μ1 σ (upd H1 dx (.xd [(fl, v)])) := ⟨S1.hold.new n1, S1.env.mono g2⟩
    exact hd (.ref C) [(fl, d)] (some dx) μ1 _ _ (g1.trans g2) S2 ⟨[(fl, v)], upd_same, rfl, Reps.one (rv.mono g2)⟩ q1
theorem dm_err (T0 : OexC X.K C) (iC : PySem.W.findIn X.K (.ref C) "__init__" = some (some (.ref fI))) (tI : PySem.W.typeIn X.K (.ref fI) = some (.type "function"))
    (F1 : FnOk X.prog X.w X.K X.mg X.base CX0 k fI fd ["self", fl] (initSp C fl)) (hr : Room (k + 1) X.A) (hb : Binds X.K fd ["self", fl] []) (hm : X.mg x = some (.ref C)) (ha : DA X B [e] t T) (hg : Gl X x := by rfl)
    (hdb : (x == ("__debug__" : Str)) = false := by decide) (he : starEach [e] X.env = (false, eval e X.env) :: starEach [] X.env := by rfl) (hpl : (backTo pos (starEach [] X.env)).any (·.1) = false := by rfl) :
    DMk X B (.Call (.Name x p) [e] [] pos) (tMkO C (initSp C fl) [] t) (dErr C fl T) := ⟨pmk_oexN T0 iC tI F1 hr hb pass0 hg hm ha.pa hdb he hpl, ref_err ha.ref⟩
end

section
variable {P : Program} {w : World} {K : PySem.W.Frag} {mg : Str → Option Value} {base : Heap}
theorem err1_ok {D f : Addr} {st : Stmt} {fd : FuncData} {F : NF} {fl : Str} {k : Nat} {p0 p1 p2 p3 p4 p5 q0 q1 q2 q3 : Pos} {m : Str} {j : Nat} {ar : Arg} (U : SupFn P K mg D st f fd F) (S : NScope ["self", fl, "__class__"] ["self", fl] ["__class__"] F.scope)
    (hbd : defBody st = [.Expr (.Call (.Attribute (.Call (.Name "super" p0) [] [] p1) "__init__" p2) [.Constant (.str m) j p3] [] p4) p5, .Assign [.Attribute (.Name "self" q0) fl q1] (.Name fl q2) q3])
    (hp : ((defArgs st).posonlyargs ++ (defArgs st).args).head? = some ar) (har : ar.arg = "self") (hks : F.scope.names.lookup ("super" : Str) = some .globalImplicit)
    (he : ∀ L : Addr, ∃ pl : Sem Bool, eval (.Call (.Attribute (.Call (.Name "super" p0) [] [] p1) "__init__" p2) [.Constant (.str m) j p3] [] p4) (envF F f L) = (do
      let ov ← attributeBase (.Call (.Name "super" p0) [] [] p1) "__init__" (envF F f L) (eval (.Call (.Name "super" p0) [] [] p1) (envF F f L))
      standAt p2.atName
      let (f1, first) ← holding [ov] (getMethod ov "__init__" pl)
      callWith p4 f1 first (backTo p4 (starEach [.Constant (.str m) j p3] (envF F f L))) []))
    (hin : ∀ L : Addr, interactive (envF F f L) = false) (hsw : ∀ L : Addr, swapsWith (.Call (.Attribute (.Call (.Name "super" p0) [] [] p1) "__init__" p2) [.Constant (.str m) j p3] [] p4) none p5.line (envF F f L) = pure false)
    (hsw2 : ∀ L : Addr, swapsWith (.Name fl q2) (some (.Attribute (.Name "self" q0) fl q1)) q3.line (envF F f L) = pure false) (hno : PySem.W.findIn K (.ref D) fl = some none) (hd1 : (fl == ("__debug__" : Str)) = false) (hd2 : (fl == ("__classdict__" : Str)) = false) :
    FnOk P w K mg base CX0 (k + 1) f fd ["self", fl] (initSp D fl) :=
  sup_ok U S hbd hp (by rw [har]; rfl) hks (fun vs H Q E ⟨a, v, e, _⟩ => by rw [e]; rfl) he hin hsw fun A outer s H vs Q E hr ⟨a, v, ev, ea, q⟩ => by
    subst ev
    refine ⟨a, [v], rfl, ea, _, pss_one (ps_ost (pe_var (i := 0) rfl (.inl (S.par _ (by simp)))) (pe_var (i := 1) rfl (.inl (S.par _ (by simp))) hd1 hd2) (hsw2 _)), ?_⟩
    exact ⟨v, rfl, .ref a, rfl, a, D, rfl, U.cls, hno, .inl ⟨ea, fun dx n1 n2 => q dx n1 n2⟩⟩
end

/-! ### try: .. except X as n: .. -/
theorem EndsR.asS {K : PySem.W.Frag} {B G : Gh} {E : DEnds} {Dn : Ends} (h : EndsR K B G E Dn) (i : Nat) : EndsR K B G { nx := fun ρ μ => E.nx (ρ.set i none) μ, rt := E.rt, bk := fun ρ μ => E.bk (ρ.set i none) μ, ct := fun ρ μ => E.ct (ρ.set i none) μ }
    { nx := fun σ' H' => Dn.nx (σ'.set i none) H', rt := Dn.rt, bk := fun σ' H' => Dn.bk (σ'.set i none) H', ct := fun σ' H' => Dn.ct (σ'.set i none) H' } :=
  ⟨fun ρ' μ' σ' H' G' g S q => h.nx _ μ' _ H' G' g ⟨S.hold, S.env.unset i⟩ q, h.rt, fun ρ' μ' σ' H' G' g S q => h.bk _ μ' _ H' G' g ⟨S.hold, S.env.unset i⟩ q, fun ρ' μ' σ' H' G' g S q => h.ct _ μ' _ H' G' g ⟨S.hold, S.env.unset i⟩ q⟩
/-- an except suite: of the caught error at a, its class, its fields -/
abbrev TDU := Addr → Value → List (Str × D) → TDS
/-- what the clause makes of an error -/
def asV (K : PySem.W.Frag) (c : Value) (i : Nat) (TU : TDU) (V : XD) (E : DEnds) : XD := fun cls fs ρ μ => match PySem.W.exmOne K cls c with
  | some true => ∀ a, μ a = none → TU a cls fs { nx := fun ρ μ => E.nx (ρ.set i none) μ, rt := E.rt, bk := fun ρ μ => E.bk (ρ.set i none) μ, ct := fun ρ μ => E.ct (ρ.set i none) μ } (ρ.set i (some (.ptr a))) μ
  | some false => V cls fs ρ μ
  | none => False
def dTryAs (K : PySem.W.Frag) (c : Value) (i : Nat) (TB : XD → TDS) (TU : TDU) (V : XD) : TDS := fun E ρ μ => TB (asV K c i TU V E) E ρ μ
@[simp ↓] theorem dTryAs_p {K : PySem.W.Frag} {c : Value} {i : Nat} {TB : XD → TDS} {TU : TDU} {V : XD} {E} {ρ} {μ} : dTryAs K c i TB TU V E ρ μ = TB (asV K c i TU V E) E ρ μ := id rfl
theorem asV_yes {K : PySem.W.Frag} {c : Value} {i : Nat} {TU : TDU} {V : XD} {E : DEnds} {cls : Value} {fs : List (Str × D)} {ρ : DR} {μ : Mu} (h : PySem.W.exmOne K cls c = some true) : asV K c i TU V E cls fs ρ μ = ∀ a, μ a = none → TU a cls fs { nx := fun ρ μ => E.nx (ρ.set i none) μ, rt := E.rt, bk := fun ρ μ => E.bk (ρ.set i none) μ, ct := fun ρ μ => E.ct (ρ.set i none) μ } (ρ.set i (some (.ptr a))) μ := by
  unfold asV; rw [h]
theorem asV_no {K : PySem.W.Frag} {c : Value} {i : Nat} {TU : TDU} {V : XD} {E : DEnds} {cls : Value} {fs : List (Str × D)} {ρ : DR} {μ : Mu} (h : PySem.W.exmOne K cls c = some false) : asV K c i TU V E cls fs ρ μ = V cls fs ρ μ := by
  unfold asV; rw [h]
section
variable {X : Cx} {B : Gh} {x n : Str} {c : Value} {i : Nat} {body suite : List Stmt} {b₀ : Stmt} {np pos pos' : Pos} {tb : WX → TS} {ts : Addr → Value → Option Addr → TS} {Wout : WX} {TB : XD → TDS} {TU : TDU} {V : XD}
theorem ds_try_as (hs : X.stack = X.env :: X.outer) (hf : X.env.frame = some X.env.locals) (hN : X.N.Nodup) (hi : X.N[i]? = some n) (hln : X.env.kindOf n = some .local) (hc : Names X x c) (tk : L2N.Takes X Wout) (xr : XRel X.K B Wout V)
    (hb : ∀ (W : WX) (V' : XD) (B' : Gh) (pn : List (Addr × Obj)) (xe : Value → Shared → Prop), Gle B B' → XRel X.K B' W V' → L2N.Takes (X.tr pn xe) W → PassesOwn (model X.prog X.w) X.A X.env xe → DSs (X.tr pn xe) B' body (tb W) (TB V'))
    (hsu : ∀ (a : Addr) (oe : Obj) (cls : Value) (d : Option Addr) (pn : List (Addr × Obj)) (B' : Gh) (fs : List (Str × D)), XRep X.K B' fs d → L2N.Zn cls d oe → (∃ vs, oe.data = .fields vs) → DSs (X.suite a ((a, oe) :: pn)) B' (b₀ :: suite) (ts a cls d) (TU a cls fs)) :
    DS X B (.Try body [.ExceptHandler (some (.Name x np)) (some n) (b₀ :: suite) pos'] [] [] pos) (fun D σ H => tb (wAs X.K c i ts Wout D) D σ H) (dTryAs X.K c i TB TU V) :=
  ⟨L2N.ps_try_as hs hf hN hi hln hc tk (fun W pn xe tk' po => (hb W noV B pn xe (Gle.refl B) XRel.no tk' po).pss) (fun a oe cls d pn hz hd => by
      obtain ⟨B', fs, xrep⟩ := xrep_some (K := X.K) d
      exact (hsu a oe cls d pn B' fs xrep hz hd).pss),
    fun ρ μ σ H G E Dn S q hd => by
      have hgb : Gle B G := S.env.1.2
      have xr2 : XRel X.K G (wAs X.K c i ts Wout Dn) (asV X.K c i TU V E) := fun cls fs od ρ2 μ2 σ2 H2 G2 S2 x2 v2 => by
        unfold asV at v2
        have gg : Gle G G2 := S2.env.1.2
        split at v2
        · next h =>
          refine ⟨true, h, fun _ a na => ?_, fun z => by cases z⟩
          have q2 := v2 a (S2.hold.free na).2.1
          -- an object of this class, as the suite's rule asks for one
          have hz : L2N.Zn cls od ⟨cls, od, .fields #[.none, .none, .none], #[]⟩ := ⟨rfl, rfl, fun vs e => by cases e; rfl⟩
          have D2 := hsu a ⟨cls, od, .fields #[.none, .none, .none], #[]⟩ cls od [] G2 fs x2 hz ⟨_, rfl⟩
          exact D2.ref _ μ2 _ H2 G2 _ _ ⟨S2.hold, (S2.base).env.set (.ptr a) i⟩ q2 (((hd.mono gg).under (hgb.trans gg)).asS i)
        · next h => exact ⟨false, h, fun z => (by cases z), fun _ => xr cls fs od ρ2 μ2 σ2 H2 G2 (S2.under hgb) x2 v2⟩
        · exact v2.elim
      have tk2 : L2N.Takes (X.tr [] (fun e s₁ => wpAny (model X.prog X.w) X.A (noteFrame e X.env) (fun _ s₂ => wpAny (model X.prog X.w) X.A (setFlight e none) (fun _ s₃ => wpAny (model X.prog X.w) X.A (pure ()) (fun _ _ => True) (fun _ _ => True) s₃) (fun _ _ => True) s₂) (fun _ _ => True) s₁)) (wAs X.K c i ts Wout Dn) := fun u s' xx => by
        obtain ⟨a, B1, sI, pins, σ1, H1, cls, d, rfl, I, nb, up, sky, na, os, ag, w1⟩ := xx
        have ok := I.ok.ofTry
        have hfr : X.A.frames = some (X.env :: X.outer) := by rw [ok.frames, hs]
        have sky' : Sky B1 (X.env :: X.outer) a (L2N.Zn cls d) X.env.locals s'.heap := by rw [← hs]; exact sky
        exact L2N.Sky.land L2N.Zn.steady hfr hf sky' fun _ _ _ => wpAny_pure True.intro
      exact (hb _ _ G [] _ hgb xr2 tk2 PassesOwn.looking).ref ρ μ σ H G E Dn S.base q (hd.under hgb)⟩
end

/-! ### within an except suite: why.f, isinstance(why, C) -/
section
variable {X : Cx} {B : Gh} {a C C2 : Addr} {oe : Obj} {cls : Value} {d : Option Addr} {fs : List (Str × D)} {pn : List (Addr × Obj)} {e : Expr} {te : TE} {T : TDE} {pos p p2 : Pos} {n x : Str}
def dXf (a : Addr) (cls : Value) (fs : List (Str × D)) (C : Addr) (n : Str) (T : TDE) : TDE := fun ρ μ Q => T ρ μ fun x μ1 => pS x fun b => b = a ∧ cls = .ref C ∧ oS (fget fs n) fun v => Q v μ1
@[simp ↓] theorem dXf_p {ρ} {μ} {Q} : dXf a cls fs C n T ρ μ Q = (T ρ μ fun x μ1 => pS x fun b => b = a ∧ cls = .ref C ∧ oS (fget fs n) fun v => Q v μ1) := id rfl
theorem de_xf (xr : XRep X.K B fs d) (TC : XfC X.K C) (hno : PySem.W.findIn X.K (.ref C) n = some none) (hz : L2N.Zn cls d oe) (hf : ∃ vs, oe.data = .fields vs) (he : DE (X.suite a ((a, oe) :: pn)) B e te T) (hb : attributeBase e n X.env (eval e X.env) = eval e X.env := by rfl) :
    DE (X.suite a ((a, oe) :: pn)) B (.Attribute e n pos) (tXf a cls d C n te) (dXf a cls fs C n T) :=
  ⟨pe_xf TC hno hz.zc hf he.pe hb, fun ρ μ σ H G Q Qn S q hd => he.ref ρ μ σ H G _ _ S q fun x μ1 v H1 G1 g1 S1 r1 q1 => by
    cases x with
    | ptr b =>
      cases r1
      obtain ⟨rfl, hc, q2⟩ := q1
      rw [oS_eq] at q2
      obtain ⟨dv, e1, q3⟩ := q2
      have x1 := xr.mono S1.env.1.2
      cases d with
      | none => rw [show fs = [] from x1] at e1; cases e1
      | some dd =>
        obtain ⟨fvs, e2, rr⟩ := x1
        obtain ⟨v, l, rv⟩ := (rr.fget n).1 dv e1
        exact ⟨rfl, hc, dd, fvs, v, rfl, S1.hold.fr _ _ e2, l, (hd.mono g1).now S1 rv q3⟩
    | _ => exact False.elim q1⟩
/-- isinstance(why, C2) -/
def rIsEd (K : PySem.W.Frag) (cls : Value) (C a C2 : Addr) (d : Option Addr) : List V → Hp → VK → Prop := fun xs H Q => cls = .ref C ∧ xs = [.ref a, .ref C2] ∧ (∀ dd, d = some dd → ∃ fs, H dd = some (.xd fs)) ∧ ∃ b, PySem.W.kitOne K (.ref C) (.ref C2) = some b ∧ Q (.bl b) H
theorem call_isEd (TC : ExcC X.K C) (hz : Zc cls d oe) (hf : ∃ vs, oe.data = .fields vs) : CallR (X.suite a ((a, oe) :: pn)) (.builtin "isinstance") (rIsEd X.K cls C a C2 d) := by
  intro pins s σ H xs us Q I r h
  obtain ⟨rfl, rfl, hdd, b, e, q⟩ := h
  cases r with
  | cons rx rr =>
    cases rr with
    | cons rt rr =>
      cases rr
      cases rx
      cases rt
      obtain ⟨hget, _⟩ := I.pin (a, oe) (List.mem_append.mpr (.inl List.mem_cons_self))
      obtain ⟨vs, hv⟩ := hf
      have J : ∃ od, PySem.W.InstAt s.heap a oe C od := by
        obtain ⟨oc, odx, oda, osl⟩ := oe
        obtain ⟨h1, h2⟩ := hz
        dsimp only at h1 h2 hv
        subst h1 h2 hv
        cases odx with
        | none => exact ⟨none, hget, rfl, rfl, trivial⟩
        | some dd =>
          obtain ⟨fs, hf⟩ := hdd dd rfl
          obtain ⟨mA, ⟨o, es, ep, ho, _⟩, _⟩ := (show ObjOk X.prog X.w H s.heap dd (.xd fs) from I.hok dd _ hf)
          exact ⟨some o, hget, rfl, rfl, ho⟩
      obtain ⟨od, J⟩ := J
      have hcl : (PySem.W.clsIn X.K C).isSome = true := by
        obtain ⟨cd, hc, _⟩ := PySem.W.any_some TC.hd
        rw [hc]; rfl
      exact PySem.W.kia_one (PySem.W.kitx_exc hcl TC.hg TC.hk TC.hs TC.ha TC.hn TC.ht TC.hm) I.kIn J e (fun z => nomatch z) fun tk => ⟨.bl b, H, I.kept (t' := tk) fun _ _ z => z, rfl, q⟩
def dIsE (K : PySem.W.Frag) (a : Addr) (cls : Value) (C C2 : Addr) (T : TDE) : TDE := fun ρ μ Q => T ρ μ fun x μ1 => pS x fun b => b = a ∧ cls = .ref C ∧ oS (PySem.W.kitOne K (.ref C) (.ref C2)) fun r => Q (.bl r) μ1
@[simp ↓] theorem dIsE_p {K : PySem.W.Frag} {ρ} {μ} {Q} : dIsE K a cls C C2 T ρ μ Q = (T ρ μ fun x μ1 => pS x fun b => b = a ∧ cls = .ref C ∧ oS (PySem.W.kitOne K (.ref C) (.ref C2)) fun r => Q (.bl r) μ1) := id rfl
theorem de_isE (xr : XRep X.K B fs d) (TC : ExcC X.K C) (hz : L2N.Zn cls d oe) (hf : ∃ vs, oe.data = .fields vs) (he : DE (X.suite a ((a, oe) :: pn)) B e te T) (hm : X.mg "isinstance" = none) (hm2 : X.mg x = some (.ref C2)) (hg : Gl X "isinstance" := by rfl) (hg2 : Gl X x := by rfl) (hdb : (x == ("__debug__" : Str)) = false := by decide)
    (h1 : starEach [e, .Name x p2] X.env = (false, eval e X.env) :: starEach [.Name x p2] X.env := by rfl) (h1' : starEach [.Name x p2] X.env = (false, eval (.Name x p2) X.env) :: starEach [] X.env := by rfl) (h2 : (backTo pos (starEach [.Name x p2] X.env)).any (·.1) = false := by rfl) :
    DE (X.suite a ((a, oe) :: pn)) B (.Call (.Name "isinstance" p) [e, .Name x p2] [] pos) (tCB (rIsEd X.K cls C a C2 d) (tCons te (tCons (tC (.ref C2)) tNil))) (dIsE X.K a cls C C2 T) :=
  ⟨pe_callB (X := X.suite a ((a, oe) :: pn)) (call_isEd TC hz.zc hf) hg hm (by decide +kernel) (pa_cons he.pe (pa_cons (pe_glob (X := X.suite a ((a, oe) :: pn)) hg2 hm2 rfl hdb) pa_nil h1') h1) (by decide) (by decide) h1 h2, fun ρ μ σ H G Q Qn S h hd => he.ref ρ μ σ H G _ _ S h fun y μ1 v H1 G1 g1 S1 r1 q1 => by
    cases y with
    | ptr b =>
      cases r1
      obtain ⟨rfl, hc, q2⟩ := q1
      rw [oS_eq] at q2
      obtain ⟨r, e1, q3⟩ := q2
      have x1 := xr.mono S1.env.1.2
      refine ⟨hc, rfl, fun dd hd => ?_, r, e1, (hd.mono g1).now S1 (.bl r) q3⟩
      subst hd
      obtain ⟨fvs, e2, rr⟩ := x1
      exact ⟨fvs, S1.hold.fr _ _ e2⟩
    | _ => exact False.elim q1⟩
end
end DL

/-! DLJ: defs called within an except suite. -/
namespace DL
open PySem PySem.Spec PyProof.Rows L2 NdefX L2H

theorem takes0N {X : Cx} : L2N.Takes X (fun _ _ _ _ => False) := fun _ _ x => by
  obtain ⟨_, _, _, _, _, _, _, _, _, _, _, _, _, _, _, _, z⟩ := x
  exact z.elim
section
variable {P : Program} {w : World} {K : PySem.W.Frag} {mg : Str → Option Value} {base : Heap}
theorem fn_okH {x qual : Str} {st : Stmt} {f : Addr} {fd : FuncData} {N ps : List Str} {k : Nat} {S : DSp} (F : Fun K x qual st f fd) (SC : FnScope N ps (defScope st)) (len : ∀ ds μ Q E, S ds μ Q E → ds.length = ps.length)
    (hb : ∀ (B : Gh) (cdv : Value) (A : Around) (outer : List Env) (s : Shared) (H : Hp) (E : XK) (p : Addr × Obj), RoomH k (A.deeper (envOfC qual (defScope st) s.heap.objs.size f cdv)) → HotC (cxH CX0 P w K mg base N qual (defScope st) f cdv A outer s H E p) →
      ∃ t T, DSs (cxH CX0 P w K mg base N qual (defScope st) f cdv A outer s H E p) B (defBody st) t T ∧ ∀ ds μ Q EE, S ds μ Q EE → T { nx := fun _ μ' => Q .non μ', rt := Q } (startD N ds) μ) : FnH P w K mg base CX0 (k + 1) f fd ps (toSp K S) := by
  obtain ⟨oc, od, kV, doc, pm, an, cdv, ct, osl, rfl, lk, hcd⟩ := F.ex
  refine fn_ofH lk hcd SC (fun vs H Q E ⟨G, ds, μ, QQ, EE, _, r, s, _⟩ => r.1.trans (len ds μ QQ EE s)) fun A outer s H vs Q E p hot hr ⟨G, ds, μ, QQ, EE, hh, r, sp, q, _⟩ => ?_
  obtain ⟨t, T, h, b⟩ := hb G cdv A outer s H E p hr ⟨p, hot, List.mem_singleton.mpr rfl⟩
  refine ⟨t, h.pss, h.ref (startD N ds) μ (start N vs) H G _ _ ⟨hh, envr_start N r (Gle.refl G)⟩ (b ds μ QQ EE sp) ⟨?_, ?_, ?_, ?_⟩⟩
  · exact fun ρ' μ' σ' H' G' g S' z => q .non μ' .non H' G' g S'.hold .non z
  · exact fun d μ' v H' G' g S' rv z => q d μ' v H' G' g S' rv z
  · exact fun _ _ _ _ _ _ _ z => z.elim
  · exact fun _ _ _ _ _ _ _ z => z.elim
def CalledH (P : Program) (w : World) (K : PySem.W.Frag) (mg : Str → Option Value) (base : Heap) (k : Nat) (x : Str) (ps : List Str) (S : DSp) : Prop :=
  ∃ f fd, mg x = some (.ref f) ∧ PySem.W.keepIn K (.ref f) = true ∧ Binds K fd ps [] ∧ FnH P w K mg base CX0 k f fd ps (toSp K S)
theorem DefAt.calledH {k : Nat} {x : Str} {st : Stmt} {ps : List Str} {f : Addr} {fd : FuncData} {S : DSp} (D : DefAt K mg x st ps f fd) (F : FnH P w K mg base CX0 k f fd ps (toSp K S)) : CalledH P w K mg base k x ps S := ⟨f, fd, D.m, D.F.kp, D.b, F⟩
theorem FnH.mono {CX : CXT} {j k : Nat} {f : Addr} {fd : FuncData} {ps : List Str} {sp : Sp} (F : FnH P w K mg base CX j f fd ps sp) (h : j ≤ k) : FnH P w K mg base CX k f fd ps sp := ⟨F.len, fun A outer s H args us vs Q E p hr => F.run A outer s H args us vs Q E p (hr.mono h)⟩
end
section
variable {X : Cx} {B : Gh} {pos : Pos} {k : Nat} {f : Addr} {fd : FuncData} {ps : List Str} {S : DSp} {x : Str} {p : Pos} {e : Expr} {es : List Expr} {t : TA} {T : TDA}
theorem ref_callH {K : PySem.W.Frag} (h : RefA K B T t) : RefE K B (dCall S T) (tCallS (toSp K S) (fun _ => E0) t) := fun ρ μ σ H G Q Qn St q hd => h ρ μ σ H G _ _ St q fun ds μ1 vs H1 G1 g1 S1 r1 q1 =>
  ⟨G1, ds, μ1, Q, noX, S1.hold, r1, q1, fun d μ' v H' G' g' h' r' q' => hd d μ' v H' G' (g1.trans g') ⟨h', S1.env.mono g'⟩ r' q', fun _ _ _ _ _ _ _ _ _ z => z.elim⟩
theorem de_callH (F : FnH X.prog X.w X.K X.mg X.base CX0 k f fd ps (toSp X.K S)) (hr : RoomH k X.A) (hc : HotC X) (hm : X.mg x = some (.ref f)) (hk : PySem.W.keepIn X.K (.ref f) = true) (hb : Binds X.K fd ps []) (ha : DA X B (e :: es) t T) (hg : Gl X x := by rfl)
    (hdb : (x == ("__debug__" : Str)) = false := by decide) (he : starEach (e :: es) X.env = (false, eval e X.env) :: starEach es X.env := by rfl) (hpl : (backTo pos (starEach es X.env)).any (·.1) = false := by rfl) :
    DE X B (.Call (.Name x p) (e :: es) [] pos) (tCallS (toSp X.K S) (fun _ => E0) t) (dCall S T) := ⟨pe_callH F hr hc hg hm hk hb (fun σ _ _ _ _ _ _ h => h.elim) ha.pa hdb he hpl, ref_callH ha.ref⟩
theorem do_eqH (hr : RoomH k X.A) : OpR X (compareOp .Eq) (rEqA X.K) ∧ Ref2 X.K B opEq (rEqA X.K) := ⟨op_eq.or (op_eqD (by have := hr.un; omega)), ref_eq⟩
theorem do_neH (hr : RoomH k X.A) : OpR X (compareOp .NotEq) (rNeA X.K) ∧ Ref2 X.K B opNe (rNeA X.K) := ⟨op_ne.or (op_neD (by have := hr.un; omega)), ref_ne⟩
structure DIH (X : Cx) (B : Gh) (tg e : Expr) (i : TI) (I : TDI) : Prop where
  pi : PIH X tg e i
  ref : RefI X.K B I i
theorem ds_forH {tg iter : Expr} {body : List Stmt} {i : TI} {I : TDI} {g : TG} {U : TDG} {t : TS} {T : TDS} (hp : PassesOwn (model X.prog X.w) X.A X.env X.xe) (hc : HotC X) (hi : DIH X B tg iter i I) (hg : DG X B tg g U) (hb : DSs X B body t T)
    (hs : ∀ x, foldedSetIterable iter X.env x = pure x := by intro _; rfl) : DS X B (.For tg iter body [] pos) (tFor i g t) (dFor I U T) := ⟨ps_forH hp hc hi.pi hg.pg hb.pss hs, ref_for hi.ref hg.ref hb.ref⟩
theorem di_range1H {a : Expr} {ta : TA} {T : TDA} {tg : Expr} {p : Pos} (hg : Gl X "range") (hm : X.mg "range" = none) (ha : DA X B [a] ta T) (hs : starEach [a] X.env = [(false, eval a X.env)] := by rfl) : DIH X B tg (.Call (.Name "range" p) [a] [] pos) (iRng1 ta) (iRg1 T) :=
  ⟨pi_range1H hg hm ha.pa hs, (di_range1 (X := X) (tg := tg) (pos := pos) (p := p) hg hm ha hs).ref⟩
/-- an except suite is hot -/
theorem hot_suite {a : Addr} {oe : Obj} {cls : Value} {d : Option Addr} {pn : List (Addr × Obj)} (hz : L2N.Zn cls d oe) (hf : ∃ vs, oe.data = .fields vs) : HotC (X.suite a ((a, oe) :: pn)) := by
  obtain ⟨vs, h⟩ := hf
  exact ⟨(a, oe), ⟨rfl, vs, h, hz.2.2 vs h⟩, List.mem_cons_self⟩
theorem roomH_suite {a : Addr} {pn : List (Addr × Obj)} (hr : Room k X.A) : RoomH k (X.suite a pn).A := roomH_mark hr _
end
end DL

/-! DLK: comprehensions of two fors. -/
namespace DL
open PySem PySem.Spec PyProof.Rows L2
theorem ref_in {K : PySem.W.Frag} {I1 : TDI} {i1 : TI} {g1 : TDG} {gn1 : TG} {tt1 : TDT} {ttn1 : TT} {te : TDE} {ten : TE} {vs1 : List Nat} {p : Addr} (hi : RefI K B I1 i1) (hg : RefG K B g1 gn1) (hk : KeepG gn1 vs1) (ht : RefT K B tt1 ttn1) (he : RefE K B te ten)
    {ρ : DR} {μ : Mu} {σ : St} {H : Hp} {G : Gh} {Q : Mu → Prop} {Nx : Hp → Prop} (S : Sat K B G ρ μ σ H) (h : I1 ρ μ fun ys μ1 => compL g1 tt1 te p (wipeD ρ vs1) Q ys μ1) (hd : ∀ μ' H' G', Gle G G' → Hold K G' μ' H' → Q μ' → Nx H') :
    i1 σ H fun J1 H4 => ∃ W1 : Nat → Nat → Hp → Prop, (∃ m, W1 0 m H4) ∧ ∀ j k H, W1 j k H →
      (J1.stop j H ∧ Nx H) ∨ (J1.go j H ∧ ∃ Nx1 : Hp → Prop, (∀ H', Nx1 H' → ∃ k', k' < k ∧ W1 (j + 1) k' H') ∧ ∀ x H', J1.yld j H x H' → gn1 x (L2.wipe σ vs1) H' fun σ3 H5 => L2.wipe σ3 vs1 = L2.wipe σ vs1 ∧ ttn1 σ3 H5 fun b H6 =>
        if b = true then ten σ3 H6 fun y H7 => ∃ acc, H7 p = some (.lst acc) ∧ acc.length < sizeLine ∧ Nx1 (upd H7 p (.lst (acc ++ [y]))) else Nx1 H6) := by
  refine hi ρ μ σ H G _ _ S h fun xs μ1 J H1 G1 g1' S1 q1 hgo hy => ?_
  refine ⟨fun n m H' => m = xs.length - n ∧ n ≤ xs.length ∧ ∃ G' μ', Gle G1 G' ∧ Hold K G' μ' H' ∧ compL g1 tt1 te p (wipeD ρ vs1) Q (xs.drop n) μ', ⟨xs.length, by simp, Nat.zero_le _, G1, _, Gle.refl _, S1.hold, by simpa using q1⟩, ?_⟩
  rintro n m H' ⟨rfl, hn, G', μ', g2, S2, q3⟩
  by_cases hlt : n < xs.length
  · refine .inr ⟨(hgo n H' G' μ' g2 S2).1 hlt, fun H3 => ∃ G3 μ3, Gle G1 G3 ∧ Hold K G3 μ3 H3 ∧ compL g1 tt1 te p (wipeD ρ vs1) Q (xs.drop (n + 1)) μ3, ?_, ?_⟩
    · rintro H3 ⟨G3, μ3, g3, S3, q4⟩
      exact ⟨xs.length - (n + 1), by omega, rfl, hlt, G3, μ3, g3, S3, q4⟩
    · intro v H2 yv
      obtain ⟨G2, g3, h2, rv⟩ := hy n xs[n] v H' H2 G' μ' g2 S2 (List.getElem?_eq_getElem hlt) yv
      rw [List.drop_eq_getElem_cons hlt] at q3
      have S3 : Sat K B G2 (wipeD ρ vs1) μ' (L2.wipe σ vs1) H2 := ⟨h2, (((S1.env.mono g2).mono g3).wipe vs1)⟩
      have q4 := hg xs[n] v (wipeD ρ vs1) μ' (L2.wipe σ vs1) H2 G2 _ (fun σ2 H3 => ttn1 σ2 H3 fun b H3 => if b = true then ten σ2 H3 fun y H4 => ∃ acc, H4 p = some (.lst acc) ∧ acc.length < sizeLine ∧ (∃ G3 μ3, Gle G1 G3 ∧ Hold K G3 μ3 (upd H4 p (.lst (acc ++ [y]))) ∧ compL g1 tt1 te p (wipeD ρ vs1) Q (xs.drop (n + 1)) μ3) else ∃ G3 μ3, Gle G1 G3 ∧ Hold K G3 μ3 H3 ∧ compL g1 tt1 te p (wipeD ρ vs1) Q (xs.drop (n + 1)) μ3) S3 rv q3 fun ρ4 μ4 σ4 H4 G4 g4 S4 q4 => by
        refine ht ρ4 μ4 σ4 H4 G4 _ _ S4 q4 fun b μ5 H5 G5 g5 S5 q5 => ?_
        cases b with
        | true =>
          refine he ρ4 μ5 σ4 H5 G5 _ _ S5 q5 fun d μ6 v6 H6 G6 g6 S6 r6 q6 => ?_
          obtain ⟨acc, e, l, q6⟩ := q6
          obtain ⟨ws, h1, rr⟩ := S6.hold.lstAt e
          exact ⟨ws, h1, by rw [rr.1]; exact l, G6, _, (((g2.trans g3).trans g4).trans g5).trans g6, S6.hold.cellSet e (show CellR K G6 (.lst (ws ++ [v6])) (.lst (acc ++ [d])) from rr.append (Reps.one r6)), q6⟩
        | false => exact ⟨G5, μ5, ((g2.trans g3).trans g4).trans g5, S5.hold, q5⟩
      have q5 := hk v (L2.wipe σ vs1) H2 _ q4
      rw [wipe_wipe] at q5
      exact q5
  · have e : n = xs.length := by omega
    subst e
    rw [List.drop_length] at q3
    exact .inl ⟨(hgo _ H' G' μ' g2 S2).2 (Nat.le_refl _), hd μ' H' G' (g1'.trans g2) S2 q3⟩
def comp2L (g : TDG) (tt : TDT) (I1 : TDI) (g1 : TDG) (tt1 : TDT) (te : TDE) (vs1 : List Nat) (p : Addr) (ρ0 : DR) (Q : Mu → Prop) : List D → Mu → Prop
  | [], μ => Q μ
  | x :: r, μ => g x ρ0 μ fun ρ2 μ2 => tt ρ2 μ2 fun b μ3 => if b = true then I1 ρ2 μ3 fun ys μ4 => compL g1 tt1 te p (wipeD ρ2 vs1) (comp2L g tt I1 g1 tt1 te vs1 p ρ0 Q r) ys μ4 else comp2L g tt I1 g1 tt1 te vs1 p ρ0 Q r μ3
def dLc2 (c : Bool) (I : TDI) (g : TDG) (tt : TDT) (I1 : TDI) (g1 : TDG) (tt1 : TDT) (te : TDE) (vs vs1 : List Nat) : TDE := fun ρ μ Q => I ρ μ fun xs μ1 => ∀ p, μ1 p = none → comp2L g tt I1 g1 tt1 te vs1 p (wipeD ρ vs) (fun μ2 => endL c p μ2 Q) xs (mup μ1 p (.lst []))
@[simp ↓] theorem dLc2_p {c : Bool} {I : TDI} {g : TDG} {tt : TDT} {I1 : TDI} {g1 : TDG} {tt1 : TDT} {te : TDE} {vs vs1 : List Nat} {ρ} {μ} {Q} : dLc2 c I g tt I1 g1 tt1 te vs vs1 ρ μ Q = (I ρ μ fun xs μ1 => ∀ p, μ1 p = none → comp2L g tt I1 g1 tt1 te vs1 p (wipeD ρ vs) (fun μ2 => endL c p μ2 Q) xs (mup μ1 p (.lst []))) := id rfl
theorem ref_lc2 {K : PySem.W.Frag} {c : Bool} {I I1 : TDI} {i i1 : TI} {g g1 : TDG} {gn gn1 : TG} {tt tt1 : TDT} {ttn ttn1 : TT} {te : TDE} {ten : TE} {vs vs1 : List Nat} (hi : RefI K B I i) (hg : RefG K B g gn) (hk : KeepG gn vs) (ht : RefT K B tt ttn)
    (hi1 : RefI K B I1 i1) (hg1 : RefG K B g1 gn1) (hk1 : KeepG gn1 vs1) (ht1 : RefT K B tt1 ttn1) (he : RefE K B te ten) : RefE K B (dLc2 c I g tt I1 g1 tt1 te vs vs1) (tLc2 i gn ttn i1 gn1 ttn1 ten vs vs1) := fun ρ μ σ H G Q Qn S h hd => by
  refine hi ρ μ σ H G _ _ S h fun xs μ1 J H1 G1 g1' S1 q1 hgo hy => ?_
  intro p np
  have hc1 : Hold K G1 (mup μ1 p (.lst [])) (upd H1 p (.lst [])) := S1.hold.cellNew np (show CellR K G1 (.lst []) (.lst []) from Reps.nil)
  have q2 := q1 p (S1.hold.free np).2.1
  refine ⟨fun n m H' => m = xs.length - n ∧ n ≤ xs.length ∧ ∃ G' μ', Gle G1 G' ∧ Hold K G' μ' H' ∧ comp2L g tt I1 g1 tt1 te vs1 p (wipeD ρ vs) (fun μ2 => endL c p μ2 Q) (xs.drop n) μ', ⟨xs.length, by simp, Nat.zero_le _, G1, _, Gle.refl _, hc1, by simpa using q2⟩, ?_⟩
  rintro n m H' ⟨rfl, hn, G', μ', g2, S2, q3⟩
  by_cases hlt : n < xs.length
  · refine .inr ⟨(hgo n H' G' μ' g2 S2).1 hlt, fun H3 => ∃ G3 μ3, Gle G1 G3 ∧ Hold K G3 μ3 H3 ∧ comp2L g tt I1 g1 tt1 te vs1 p (wipeD ρ vs) (fun μ2 => endL c p μ2 Q) (xs.drop (n + 1)) μ3, ?_, ?_⟩
    · rintro H3 ⟨G3, μ3, g3, S3, q4⟩
      exact ⟨xs.length - (n + 1), by omega, rfl, hlt, G3, μ3, g3, S3, q4⟩
    · intro v H2 yv
      obtain ⟨G2, g3, h2, rv⟩ := hy n xs[n] v H' H2 G' μ' g2 S2 (List.getElem?_eq_getElem hlt) yv
      rw [List.drop_eq_getElem_cons hlt] at q3
      have S3 : Sat K B G2 (wipeD ρ vs) μ' (L2.wipe σ vs) H2 := ⟨h2, (((S1.env.mono g2).mono g3).wipe vs)⟩
      have q4 := hg xs[n] v (wipeD ρ vs) μ' (L2.wipe σ vs) H2 G2 _ (fun σ2 H3 => ttn σ2 H3 fun b H3 => if b = true then i1 σ2 H3 fun J1 H4 => ∃ W1 : Nat → Nat → Hp → Prop, (∃ m, W1 0 m H4) ∧ ∀ j k H, W1 j k H →
      (J1.stop j H ∧ (∃ G3 μ3, Gle G1 G3 ∧ Hold K G3 μ3 H ∧ comp2L g tt I1 g1 tt1 te vs1 p (wipeD ρ vs) (fun μ2 => endL c p μ2 Q) (xs.drop (n + 1)) μ3)) ∨ (J1.go j H ∧ ∃ Nx1 : Hp → Prop, (∀ H', Nx1 H' → ∃ k', k' < k ∧ W1 (j + 1) k' H') ∧ ∀ x H', J1.yld j H x H' → gn1 x (L2.wipe σ2 vs1) H' fun σ3 H5 => L2.wipe σ3 vs1 = L2.wipe σ2 vs1 ∧ ttn1 σ3 H5 fun b H6 =>
        if b = true then ten σ3 H6 fun y H7 => ∃ acc, H7 p = some (.lst acc) ∧ acc.length < sizeLine ∧ Nx1 (upd H7 p (.lst (acc ++ [y]))) else Nx1 H6) else ∃ G3 μ3, Gle G1 G3 ∧ Hold K G3 μ3 H3 ∧ comp2L g tt I1 g1 tt1 te vs1 p (wipeD ρ vs) (fun μ2 => endL c p μ2 Q) (xs.drop (n + 1)) μ3) S3 rv q3 fun ρ4 μ4 σ4 H4 G4 g4 S4 q4 => by
        refine ht ρ4 μ4 σ4 H4 G4 _ _ S4 q4 fun b μ5 H5 G5 g5 S5 q5 => ?_
        cases b with
        | true => exact ref_in hi1 hg1 hk1 ht1 he S5 q5 fun μ6 H6 G6 g6 S6 q6 => ⟨G6, μ6, (((g2.trans g3).trans g4).trans g5).trans g6, S6, q6⟩
        | false => exact ⟨G5, μ5, ((g2.trans g3).trans g4).trans g5, S5.hold, q5⟩
      have q5 := hk v (L2.wipe σ vs) H2 _ q4
      rw [wipe_wipe] at q5
      exact q5
  · have e : n = xs.length := by omega
    subst e
    rw [List.drop_length] at q3
    exact .inl ⟨(hgo _ H' G' μ' g2 S2).2 (Nat.le_refl _), endL_go q3 ⟨S2, S1.env.mono g2⟩ (hd.mono (g1'.trans g2))⟩
section
variable {X : Cx} {pos : Pos}
theorem ds_setLc2 (c : Bool) (i : Nat) {y : Str} {py : Pos} {elt tg iter tg1 iter1 : Expr} {ifs ifs1 : List Expr} {scope : Scope} {own : List (Str × Nat)} {vs1 : List Nat} {spos : Pos} {wi wi1 : TI} {I I1 : TDI} {g g1 : TG} {U U1 : TDG} {tt tt1 : TT} {Tt Tt1 : TDT} {te : TE} {Te : TDE} (hc : X.calm = true) (hN : X.N.Nodup) (hy : X.N[i]? = some y) (hyl : X.env.scope.names.lookup y = some .local)
    (hsw : swapsWith (.ListComp elt [⟨tg, iter, ifs, 0⟩, ⟨tg1, iter1, ifs1, 0⟩] scope pos) (some (.Name y py)) spos.line X.env = pure true) (hi : DI X B tg iter wi I) (ok : BlkOk X.N X.env.scope scope own) (hv : ∀ i ∈ vs1, i ∈ own.map (·.2))
    (hg : ∀ (s : Shared) (H : Hp) (C : Addr) (cl : List (Str × Addr)) (fp : List Addr), DG (X.blk s H scope (compEnvC scope cl C X.env) fp) B tg g U) (hk : KeepG g (own.map (·.2))) (ht : ∀ (s : Shared) (H : Hp) (C : Addr) (cl : List (Str × Addr)) (fp : List Addr), DTs (X.blk s H scope (compEnvC scope cl C X.env) fp) B ifs tt Tt)
    (hi1 : ∀ (s : Shared) (H : Hp) (C : Addr) (cl : List (Str × Addr)) (fp : List Addr), DI (X.blk s H scope (compEnvC scope cl C X.env) fp) B tg1 iter1 wi1 I1)
    (hg1 : ∀ (s : Shared) (H : Hp) (C : Addr) (cl : List (Str × Addr)) (fp : List Addr), DG (X.blk s H scope (compEnvC scope cl C X.env) fp) B tg1 g1 U1) (hk1 : KeepG g1 vs1) (ht1 : ∀ (s : Shared) (H : Hp) (C : Addr) (cl : List (Str × Addr)) (fp : List Addr), DTs (X.blk s H scope (compEnvC scope cl C X.env) fp) B ifs1 tt1 Tt1)
    (he : ∀ (s : Shared) (H : Hp) (C : Addr) (cl : List (Str × Addr)) (fp : List Addr), DE (X.blk s H scope (compEnvC scope cl C X.env) fp) B elt te Te) (hs : ∀ x, foldedSetIterable iter X.env x = pure x := by intro _; rfl) (hs1 : ∀ env x, foldedSetIterable iter1 env x = pure x := by intro _ _; rfl) :
    DS X B (.Assign [.Name y py] (.ListComp elt [⟨tg, iter, ifs, 0⟩, ⟨tg1, iter1, ifs1, 0⟩] scope pos) spos) (tAsg (tLc2 wi g tt wi1 g1 tt1 te (own.map (·.2)) vs1) (gName i)) (dAsg (dLc2 c I U Tt I1 U1 Tt1 Te (own.map (·.2)) vs1) (dgName i)) :=
  ⟨ps_setLc2 hc hN hy hyl hsw hi.pi ok hv (fun s H C cl fp => (hg s H C cl fp).pg) (fun s H C cl fp => (ht s H C cl fp).pts) (fun s H C cl fp => (hi1 s H C cl fp).pi) (fun s H C cl fp => (hg1 s H C cl fp).pg) (fun s H C cl fp => (ht1 s H C cl fp).pts) (fun s H C cl fp => (he s H C cl fp).pe) hs hs1,
    ref_asg (ref_lc2 hi.ref (hg X.s_0 X.H_0 0 [] []).ref hk (ht X.s_0 X.H_0 0 [] []).ref (hi1 X.s_0 X.H_0 0 [] []).ref (hg1 X.s_0 X.H_0 0 [] []).ref hk1 (ht1 X.s_0 X.H_0 0 [] []).ref (he X.s_0 X.H_0 0 [] []).ref) (fun d v ρ μ σ H G Q Qn S r h hd => hd _ μ _ H G (Gle.refl G) ⟨S.hold, S.env.set r i⟩ h)⟩
theorem de_lc2 (c : Bool) {elt tg iter tg1 iter1 : Expr} {ifs ifs1 : List Expr} {scope : Scope} {own : List (Str × Nat)} {vs1 : List Nat} {wi wi1 : TI} {I I1 : TDI} {g g1 : TG} {U U1 : TDG} {tt tt1 : TT} {Tt Tt1 : TDT} {te : TE} {Te : TDE} (hc : X.calm = true) (hN : X.N.Nodup) (hi : DI X B tg iter wi I) (ok : BlkOk X.N X.env.scope scope own) (hv : ∀ i ∈ vs1, i ∈ own.map (·.2))
    (hg : ∀ (s : Shared) (H : Hp) (C : Addr) (cl : List (Str × Addr)) (fp : List Addr), DG (X.blk s H scope (compEnvC scope cl C X.env) fp) B tg g U) (hk : KeepG g (own.map (·.2))) (ht : ∀ (s : Shared) (H : Hp) (C : Addr) (cl : List (Str × Addr)) (fp : List Addr), DTs (X.blk s H scope (compEnvC scope cl C X.env) fp) B ifs tt Tt)
    (hi1 : ∀ (s : Shared) (H : Hp) (C : Addr) (cl : List (Str × Addr)) (fp : List Addr), DI (X.blk s H scope (compEnvC scope cl C X.env) fp) B tg1 iter1 wi1 I1)
    (hg1 : ∀ (s : Shared) (H : Hp) (C : Addr) (cl : List (Str × Addr)) (fp : List Addr), DG (X.blk s H scope (compEnvC scope cl C X.env) fp) B tg1 g1 U1) (hk1 : KeepG g1 vs1) (ht1 : ∀ (s : Shared) (H : Hp) (C : Addr) (cl : List (Str × Addr)) (fp : List Addr), DTs (X.blk s H scope (compEnvC scope cl C X.env) fp) B ifs1 tt1 Tt1)
    (he : ∀ (s : Shared) (H : Hp) (C : Addr) (cl : List (Str × Addr)) (fp : List Addr), DE (X.blk s H scope (compEnvC scope cl C X.env) fp) B elt te Te) (hs : ∀ x, foldedSetIterable iter X.env x = pure x := by intro _; rfl) (hs1 : ∀ env x, foldedSetIterable iter1 env x = pure x := by intro _ _; rfl) :
    DE X B (.ListComp elt [⟨tg, iter, ifs, 0⟩, ⟨tg1, iter1, ifs1, 0⟩] scope pos) (tLc2 wi g tt wi1 g1 tt1 te (own.map (·.2)) vs1) (dLc2 c I U Tt I1 U1 Tt1 Te (own.map (·.2)) vs1) :=
  ⟨pe_lc2 hc hN hi.pi ok hv (fun s H C cl fp => (hg s H C cl fp).pg) (fun s H C cl fp => (ht s H C cl fp).pts) (fun s H C cl fp => (hi1 s H C cl fp).pi) (fun s H C cl fp => (hg1 s H C cl fp).pg) (fun s H C cl fp => (ht1 s H C cl fp).pts) (fun s H C cl fp => (he s H C cl fp).pe) hs hs1,
    ref_lc2 hi.ref (hg X.s_0 X.H_0 0 [] []).ref hk (ht X.s_0 X.H_0 0 [] []).ref (hi1 X.s_0 X.H_0 0 [] []).ref (hg1 X.s_0 X.H_0 0 [] []).ref hk1 (ht1 X.s_0 X.H_0 0 [] []).ref (he X.s_0 X.H_0 0 [] []).ref⟩
theorem ds_setLc2A (c : Bool) (i : Nat) {y : Str} {py : Pos} {elt tg iter tg1 iter1 : Expr} {ifs ifs1 : List Expr} {scope : Scope} {own : List (Str × Nat)} {vs1 : List Nat} {spos : Pos} {wi wi1 : TI} {wi1' : Fam TI} {I I1 : TDI} {g g1 : TG} {U U1 : TDG} {tt tt1 : TT} {tt' tt1' : Fam TT} {Tt Tt1 : TDT} {te : TE} {te' : Fam TE} {Te : TDE} (hc : X.calm = true) (hN : X.N.Nodup) (hy : X.N[i]? = some y) (hyl : X.env.scope.names.lookup y = some .local)
    (hsw : swapsWith (.ListComp elt [⟨tg, iter, ifs, 0⟩, ⟨tg1, iter1, ifs1, 0⟩] scope pos) (some (.Name y py)) spos.line X.env = pure true) (hi : DI X B tg iter wi I) (ok : BlkOk X.N X.env.scope scope own) (hv : ∀ i ∈ vs1, i ∈ own.map (·.2))
    (hg : ∀ (s : Shared) (H : Hp) (C : Addr) (cl : List (Str × Addr)) (fp : List Addr), DG (X.blk s H scope (compEnvC scope cl C X.env) fp) B tg g U) (hk : KeepG g (own.map (·.2))) (ht : ∀ (s : Shared) (H : Hp) (C : Addr) (cl : List (Str × Addr)) (fp : List Addr), DTs (X.blk s H scope (compEnvC scope cl C X.env) fp) B ifs (tt' s H C cl fp) Tt)
    (hi1 : ∀ (s : Shared) (H : Hp) (C : Addr) (cl : List (Str × Addr)) (fp : List Addr), DI (X.blk s H scope (compEnvC scope cl C X.env) fp) B tg1 iter1 (wi1' s H C cl fp) I1)
    (hg1 : ∀ (s : Shared) (H : Hp) (C : Addr) (cl : List (Str × Addr)) (fp : List Addr), DG (X.blk s H scope (compEnvC scope cl C X.env) fp) B tg1 g1 U1) (hk1 : KeepG g1 vs1) (ht1 : ∀ (s : Shared) (H : Hp) (C : Addr) (cl : List (Str × Addr)) (fp : List Addr), DTs (X.blk s H scope (compEnvC scope cl C X.env) fp) B ifs1 (tt1' s H C cl fp) Tt1)
    (he : ∀ (s : Shared) (H : Hp) (C : Addr) (cl : List (Str × Addr)) (fp : List Addr), DE (X.blk s H scope (compEnvC scope cl C X.env) fp) B elt (te' s H C cl fp) Te) (e0 : tt' = fun _ _ _ _ _ => tt := by (first | rfl | (simp only [Cx.blk]; rfl))) (e1 : wi1' = fun _ _ _ _ _ => wi1 := by (first | rfl | (simp only [Cx.blk]; rfl))) (e2 : tt1' = fun _ _ _ _ _ => tt1 := by (first | rfl | (simp only [Cx.blk]; rfl))) (e3 : te' = fun _ _ _ _ _ => te := by (first | rfl | (simp only [Cx.blk]; rfl))) (hs : ∀ x, foldedSetIterable iter X.env x = pure x := by intro _; rfl) (hs1 : ∀ env x, foldedSetIterable iter1 env x = pure x := by intro _ _; rfl) :
    DS X B (.Assign [.Name y py] (.ListComp elt [⟨tg, iter, ifs, 0⟩, ⟨tg1, iter1, ifs1, 0⟩] scope pos) spos) (tAsg (tLc2 wi g tt wi1 g1 tt1 te (own.map (·.2)) vs1) (gName i)) (dAsg (dLc2 c I U Tt I1 U1 Tt1 Te (own.map (·.2)) vs1) (dgName i)) := by
  subst e0; subst e1; subst e2; subst e3
  exact ds_setLc2 c i hc hN hy hyl hsw hi ok hv hg hk ht hi1 hg1 hk1 ht1 he hs hs1
theorem de_lc2A (c : Bool) {elt tg iter tg1 iter1 : Expr} {ifs ifs1 : List Expr} {scope : Scope} {own : List (Str × Nat)} {vs1 : List Nat} {wi wi1 : TI} {wi1' : Fam TI} {I I1 : TDI} {g g1 : TG} {U U1 : TDG} {tt tt1 : TT} {tt' tt1' : Fam TT} {Tt Tt1 : TDT} {te : TE} {te' : Fam TE} {Te : TDE} (hc : X.calm = true) (hN : X.N.Nodup) (hi : DI X B tg iter wi I) (ok : BlkOk X.N X.env.scope scope own) (hv : ∀ i ∈ vs1, i ∈ own.map (·.2))
    (hg : ∀ (s : Shared) (H : Hp) (C : Addr) (cl : List (Str × Addr)) (fp : List Addr), DG (X.blk s H scope (compEnvC scope cl C X.env) fp) B tg g U) (hk : KeepG g (own.map (·.2))) (ht : ∀ (s : Shared) (H : Hp) (C : Addr) (cl : List (Str × Addr)) (fp : List Addr), DTs (X.blk s H scope (compEnvC scope cl C X.env) fp) B ifs (tt' s H C cl fp) Tt)
    (hi1 : ∀ (s : Shared) (H : Hp) (C : Addr) (cl : List (Str × Addr)) (fp : List Addr), DI (X.blk s H scope (compEnvC scope cl C X.env) fp) B tg1 iter1 (wi1' s H C cl fp) I1)
    (hg1 : ∀ (s : Shared) (H : Hp) (C : Addr) (cl : List (Str × Addr)) (fp : List Addr), DG (X.blk s H scope (compEnvC scope cl C X.env) fp) B tg1 g1 U1) (hk1 : KeepG g1 vs1) (ht1 : ∀ (s : Shared) (H : Hp) (C : Addr) (cl : List (Str × Addr)) (fp : List Addr), DTs (X.blk s H scope (compEnvC scope cl C X.env) fp) B ifs1 (tt1' s H C cl fp) Tt1)
    (he : ∀ (s : Shared) (H : Hp) (C : Addr) (cl : List (Str × Addr)) (fp : List Addr), DE (X.blk s H scope (compEnvC scope cl C X.env) fp) B elt (te' s H C cl fp) Te) (e0 : tt' = fun _ _ _ _ _ => tt := by (first | rfl | (simp only [Cx.blk]; rfl))) (e1 : wi1' = fun _ _ _ _ _ => wi1 := by (first | rfl | (simp only [Cx.blk]; rfl))) (e2 : tt1' = fun _ _ _ _ _ => tt1 := by (first | rfl | (simp only [Cx.blk]; rfl))) (e3 : te' = fun _ _ _ _ _ => te := by (first | rfl | (simp only [Cx.blk]; rfl))) (hs : ∀ x, foldedSetIterable iter X.env x = pure x := by intro _; rfl) (hs1 : ∀ env x, foldedSetIterable iter1 env x = pure x := by intro _ _; rfl) :
    DE X B (.ListComp elt [⟨tg, iter, ifs, 0⟩, ⟨tg1, iter1, ifs1, 0⟩] scope pos) (tLc2 wi g tt wi1 g1 tt1 te (own.map (·.2)) vs1) (dLc2 c I U Tt I1 U1 Tt1 Te (own.map (·.2)) vs1) := by
  subst e0; subst e1; subst e2; subst e3
  exact de_lc2 c hc hN hi ok hv hg hk ht hi1 hg1 hk1 ht1 he hs hs1
end
end DL

/-! DLL: an own error class of one field, all that is known of it. -/
namespace DL
open PySem PySem.Spec PyProof.Rows L2 NdefX
structure ErrC (P : Program) (w : World) (K : PySem.W.Frag) (mg : Str → Option Value) (base : Heap) (C : Addr) (x fl : Str) : Prop where
  m : mg x = some (.ref C)
  ox : OexC K C
  made : ∃ fI fd, PySem.W.findIn K (.ref C) "__init__" = some (some (.ref fI)) ∧ PySem.W.typeIn K (.ref fI) = some (.type "function") ∧ Binds K fd ["self", fl] [] ∧ FnOk P w K mg base CX0 1 fI fd ["self", fl] (initSp C fl)
  xf : XfC K C
  no : PySem.W.findIn K (.ref C) fl = some none
  ec : ExcC K C
section
variable {X : Cx} {B : Gh} {pos p : Pos} {C : Addr} {x fl : Str} {e : Expr} {t : TA} {T : TDA}
theorem dm_errC (E : ErrC X.prog X.w X.K X.mg X.base C x fl) (hr : Room 2 X.A) (ha : DA X B [e] t T) (hg : Gl X x := by rfl)
    (hdb : (x == ("__debug__" : Str)) = false := by decide) (he : starEach [e] X.env = (false, eval e X.env) :: starEach [] X.env := by rfl) (hpl : (backTo pos (starEach [] X.env)).any (·.1) = false := by rfl) :
    DMk X B (.Call (.Name x p) [e] [] pos) (tMkO C (initSp C fl) [] t) (dErr C fl T) := by
  obtain ⟨fI, fd, iC, tI, b, F⟩ := E.made
  exact dm_err E.ox iC tI F hr b E.m ha hg hdb he hpl
end
section
variable {P : Program} {w : World} {K : PySem.W.Frag} {mg : Str → Option Value} {base h : Heap}
theorem exc_of {C : Addr} (hg : PySem.W.findIn K (.ref C) "__getattribute__" = some (some (.builtin "BaseException.__getattribute__"))) (hk : PySem.W.findIn K (.ref C) "__getattr__" = some none) (hs : PySem.W.subIn K (.ref C) (.type "BaseException") = some true) (hd : PySem.W.hasDictIn K C = true)
    (ha : PySem.W.findIn K (.ref C) "__class__" = some (some (.builtin "object.__class__"))) (hn : PySem.W.specialIn K (.builtin "object.__class__") "__get__" = some (some (.builtin "getset_descriptor.__get__"))) (ht : PySem.W.takesIn K (.builtin "object.__class__") = some true) (hm : PySem.W.mroIn K C (.type "object") = some true) : XfC K C ∧ ExcC K C :=
  ⟨⟨hg, hk, hs, hd⟩, ⟨hg, hk, hs, hd, ha, hn, ht, hm⟩⟩
theorem supfn_mk {C f cc cda : Addr} {st : Stmt} {qual : Str} {nm q : Str} {N : Addr} {bs bm : List Value} {sn : List Str} {sub : List Value} {ab : Bool} {col : Option Bool} {dd od : Option Addr} {k0 k1 k2 k3 k5 : Option Value} {oc kV doc pm ct c1 cl : Value} {an c2 cld : Option Addr} {osl c3 csl : Array (Option Value)} {vs : Array Value} {file : Str} {tf : Tok}
    (lc : K.lookup C = some (excClassObj nm q C N bs bm true sn sub ab col dd k0 k1 k2 k3 k5 "ValueError.__new__")) (rv : PySem.HandSPX.refsVE bm = true) (sa : PySem.W.findIn K (.ref C) "__setattr__" = some (some (.builtin "object.__setattr__"))) (eb : PySem.W.subIn K (.ref C) (.type "BaseException") = some true)
    (tc : PySem.W.typeIn K (.ref C) = some (.type "type")) (kc : PySem.W.keepIn K (.ref C) = true)
    (lf : K.lookup f = some ⟨oc, od, .func (PySem.W.fnX "__init__" qual (defArgs st) (defBody st) (defScope st) [("__class__", cc)] .none kV doc pm an (.ref cda) ct), osl⟩) (ci : PySem.W.codeIn K (.ref cda) qual = true)
    (lk : K.lookup cda = some ⟨c1, c2, .fields vs, c3⟩) (v2 : vs[2]? = some (.str file tf)) (fi : ((P.main.file : Str) == file) = true) (lcc : K.lookup cc = some ⟨cl, cld, .cell (some (.ref C)), csl⟩) (tp : (P.main.scope.names.lookup ("super" : Str)).isSome = false) (zs : mg "super" = none)
    (oq : PySem.W.nsIn K cStatics "thirdparty.any" = some none) (si : PySem.W.ks_superIn K C C "__init__" = some (some (.builtin "ValueError.__init__"))) (ve : PySem.W.subIn K (.ref C) (.type "ValueError") = some true) :
    SupFn P K mg C st f (PySem.W.fnX "__init__" qual (defArgs st) (defBody st) (defScope st) [("__class__", cc)] .none kV doc pm an (.ref cda) ct) ⟨"__init__", qual, defArgs st, defBody st, defScope st, [("__class__", cc)], cda⟩ :=
  ⟨⟨oc, od, kV, doc, pm, ct, an, osl, rfl, lf⟩, rfl, ci, ⟨vs, file, tf, c1, c2, c3, lk, v2, fi⟩, ⟨cc, cl, cld, csl, rfl, lcc⟩, tp, zs, oq, ⟨⟨_, _, _, _, _, _, _, _, _, _, _, _, _, _, _, lc, rv⟩, sa, eb, tc, kc⟩, si, ve⟩
theorem binds_of {f : Addr} {fd : FuncData} {ps : List Str} (hb : ∀ us : List Value, us.length = ps.length → bindArgs fd ⟨us, []⟩ = pure (ps.zip us)) : Binds K fd ps [] := fun s us kin hl => by
  rw [List.append_nil] at hl ⊢
  exact .of_eq (hb us hl)
end
def CalledX (P : Program) (w : World) (K : PySem.W.Frag) (mg : Str → Option Value) (base : Heap) (k : Nat) (x : Str) (ps : List Str) (S : DSp) : Prop :=
  ∃ f fd, mg x = some (.ref f) ∧ PySem.W.keepIn K (.ref f) = true ∧ Binds K fd ps [] ∧ FnOk P w K mg base (L2N.CX P w) k f fd ps (toSp K S)
theorem DefAt.calledX {P : Program} {w : World} {K : PySem.W.Frag} {mg : Str → Option Value} {base : Heap} {k : Nat} {x : Str} {st : Stmt} {ps : List Str} {f : Addr} {fd : FuncData} {S : DSp} (D : DefAt K mg x st ps f fd) (F : FnOk P w K mg base (L2N.CX P w) k f fd ps (toSp K S)) : CalledX P w K mg base k x ps S := ⟨f, fd, D.m, D.F.kp, D.b, F⟩
/-- an int constant of the module -/
def GlobI (i : Int) (x : Str) (mg : Str → Option Value) : Prop := ∃ t, mg x = some (.int i t)
section
variable {X : Cx} {B : Gh} {x n : Str} {c : Value} {i : Nat} {body suite : List Stmt} {b₀ : Stmt} {np pos pos' : Pos} {tb : WX → TS} {tb' : List (Addr × Obj) → (Value → Shared → Prop) → WX → TS} {ts : Addr → Value → Option Addr → TS} {ts' : Addr → Obj → Value → Option Addr → List (Addr × Obj) → TS} {Wout : WX} {TB : XD → TDS} {TU : TDU} {V : XD}
theorem ds_try_asA (hs : X.stack = X.env :: X.outer) (hf : X.env.frame = some X.env.locals) (hN : X.N.Nodup) (hi : X.N[i]? = some n) (hln : X.env.kindOf n = some .local) (hc : Names X x c) (tk : L2N.Takes X Wout) (xr : XRel X.K B Wout V)
    (hb : ∀ (W : WX) (V' : XD) (B' : Gh) (pn : List (Addr × Obj)) (xe : Value → Shared → Prop), Gle B B' → XRel X.K B' W V' → L2N.Takes (X.tr pn xe) W → PassesOwn (model X.prog X.w) X.A X.env xe → DSs (X.tr pn xe) B' body (tb' pn xe W) (TB V'))
    (hsu : ∀ (a : Addr) (oe : Obj) (cls : Value) (d : Option Addr) (pn : List (Addr × Obj)) (B' : Gh) (fs : List (Str × D)), XRep X.K B' fs d → L2N.Zn cls d oe → (∃ vs, oe.data = .fields vs) → DSs (X.suite a ((a, oe) :: pn)) B' (b₀ :: suite) (ts' a oe cls d pn) (TU a cls fs))
    (e1 : tb' = fun _ _ => tb := by (first | rfl | (simp only [Cx.tr]; rfl))) (e2 : ts' = fun a _ cls d _ => ts a cls d := by (first | rfl | (simp only [Cx.suite]; rfl))) :
    DS X B (.Try body [.ExceptHandler (some (.Name x np)) (some n) (b₀ :: suite) pos'] [] [] pos) (fun D σ H => tb (wAs X.K c i ts Wout D) D σ H) (dTryAs X.K c i TB TU V) := by
  subst e1; subst e2
  exact ds_try_as hs hf hN hi hln hc tk xr hb hsu
end
end DL

/-! PL: places as lists of signs; the six words (plain). -/
namespace DL
open PySem PySem.Spec PyProof.Rows L2
def isMk (n : Nat) : Prop := n = 46 ∨ n = 94
instance (n : Nat) : Decidable (isMk n) := inferInstanceAs (Decidable (n = 46 ∨ n = 94))
def beneath (a b : List Nat) : Bool := decide (b.length < a.length) && (b.isPrefixOf a && decide (∃ h : b.length < a.length, isMk a[b.length]))
inductive W6 | same | over | overbox | under | underbox | apart deriving DecidableEq
def W6.txt : W6 → Str
  | .same => "same" | .over => "over" | .overbox => "overbox" | .under => "under" | .underbox => "underbox" | .apart => "apart"
def W6.inv : W6 → W6
  | .same => .same | .over => .under | .overbox => .underbox | .under => .over | .underbox => .overbox | .apart => .apart
def overW (t : List Nat) : W6 := if 94 ∈ t then .overbox else .over
def underW (t : List Nat) : W6 := if 94 ∈ t then .underbox else .under
def relW (a b : List Nat) : W6 := if a = b then .same else if beneath a b then overW (a.drop b.length) else if beneath b a then underW (b.drop a.length) else .apart
def Ben (a b : List Nat) : Prop := ∃ m t, isMk m ∧ a = b ++ m :: t
theorem beneath_iff {a b : List Nat} : beneath a b = true ↔ Ben a b := by
  unfold beneath Ben
  simp only [Bool.and_eq_true, decide_eq_true_eq, List.isPrefixOf_iff_prefix]
  constructor
  · rintro ⟨h, ⟨t, rfl⟩, h1, h2⟩
    cases t with
    | nil => simp at h
    | cons m t =>
      refine ⟨m, t, ?_, rfl⟩
      simpa using h2
  · rintro ⟨m, t, h, rfl⟩
    refine ⟨by simp, ⟨_, rfl⟩, by simp, by simpa using h⟩
theorem Ben.ne {a b : List Nat} (h : Ben a b) : a ≠ b := by
  rintro rfl
  obtain ⟨m, t, _, e⟩ := h
  have := congrArg List.length e
  simp at this
theorem Ben.len {a b : List Nat} (h : Ben a b) : b.length < a.length := by
  obtain ⟨m, t, _, rfl⟩ := h; simp
theorem Ben.asymm {a b : List Nat} (h : Ben a b) : ¬ Ben b a := fun h' => by have := h.len; have := h'.len; omega
theorem Ben.trans {a b c : List Nat} (h : Ben a b) (g : Ben b c) : Ben a c := by
  obtain ⟨m, t, hm, rfl⟩ := h
  obtain ⟨m', t', hm', rfl⟩ := g
  exact ⟨m', t' ++ m :: t, hm', by simp⟩
theorem relW_self (a : List Nat) : relW a a = .same := by simp [relW]
theorem relW_over (b : List Nat) (m : Nat) (t : List Nat) (h : isMk m) : relW (b ++ m :: t) b = overW (m :: t) := by
  have g : Ben (b ++ m :: t) b := ⟨m, t, h, rfl⟩
  unfold relW
  rw [if_neg g.ne, if_pos (beneath_iff.mpr g), List.drop_left]
theorem relW_under (b : List Nat) (m : Nat) (t : List Nat) (h : isMk m) : relW b (b ++ m :: t) = underW (m :: t) := by
  have g : Ben (b ++ m :: t) b := ⟨m, t, h, rfl⟩
  unfold relW
  rw [if_neg g.ne.symm, if_neg (fun e => g.asymm (beneath_iff.mp e)), if_pos (beneath_iff.mpr g), List.drop_left]
theorem relW_apart {a b : List Nat} (h1 : a ≠ b) (h2 : ¬ Ben a b) (h3 : ¬ Ben b a) : relW a b = .apart := by
  unfold relW
  rw [if_neg h1, if_neg (fun e => h2 (beneath_iff.mp e)), if_neg (fun e => h3 (beneath_iff.mp e))]
theorem relC (a b : List Nat) : a = b ∨ (∃ m t, isMk m ∧ a = b ++ m :: t) ∨ (∃ m t, isMk m ∧ b = a ++ m :: t) ∨ (a ≠ b ∧ ¬ Ben a b ∧ ¬ Ben b a) := by
  by_cases h1 : a = b
  · exact .inl h1
  · by_cases h2 : Ben a b
    · exact .inr (.inl h2)
    · by_cases h3 : Ben b a
      · exact .inr (.inr (.inl h3))
      · exact .inr (.inr (.inr ⟨h1, h2, h3⟩))
theorem relW_inv (a b : List Nat) : relW b a = (relW a b).inv := by
  rcases relC a b with rfl | ⟨m, t, h, rfl⟩ | ⟨m, t, h, rfl⟩ | ⟨h1, h2, h3⟩
  · rw [relW_self]; rfl
  · rw [relW_over _ _ _ h, relW_under _ _ _ h]; unfold overW underW; split <;> rfl
  · rw [relW_over _ _ _ h, relW_under _ _ _ h]; unfold overW underW; split <;> rfl
  · rw [relW_apart h1 h2 h3, relW_apart (fun e => h1 e.symm) h3 h2]; rfl
def W6.side : W6 → W6
  | .overbox => .over | .underbox => .under | w => w
def crossed (w : W6) (b : Bool) : W6 := if b then (match w with | .over => .overbox | .under => .underbox | w => w) else w
/-- the words that two words leave possible -/
def fits (near far : W6) : List W6 :=
  let one := near.side; let two := far.side; let b0 := decide (near ≠ one); let b1 := decide (far ≠ two)
  if one = .same then [far] else if two = .same then [near]
  else if one = two ∧ one ≠ .apart then [crossed one (b0 || b1)]
  else if (one = .over ∧ two = .apart) ∨ (one = .apart ∧ two = .under) then [.apart]
  else if one = .under ∧ two = .apart then [.under, .underbox, .apart]
  else if one = .apart ∧ two = .over then [.over, .overbox, .apart]
  else
    let ap : List W6 := if one = two ∨ one = .over then [.apart] else []
    let rows : List W6 := [.same, .over, .overbox, .under, .underbox] ++ ap
    if one = two ∨ (b0 = true ∧ b1 = true) then rows
    else if b0 = false ∧ b1 = false then [.same, .over, .under] ++ ap
    else (if b0 = decide (one = .over) then .overbox else .underbox) :: ap
theorem overW_c (t : List Nat) : overW t = if 94 ∈ t then .overbox else .over := rfl
theorem pre_cmp {a b : List Nat} {m m' : Nat} {t t' : List Nat} (hm : isMk m) (hm' : isMk m') (e : a ++ m :: t = b ++ m' :: t') : a = b ∨ Ben a b ∨ Ben b a := by
  rcases List.append_eq_append_iff.mp e with ⟨s, h1, h2⟩ | ⟨s, h1, h2⟩
  · cases s with
    | nil => left; simpa using h1.symm
    | cons x s =>
      simp only [List.cons_append, List.cons.injEq] at h2
      right; right; exact ⟨x, s, h2.1 ▸ hm, h1⟩
  · cases s with
    | nil => left; simpa using h1
    | cons x s =>
      simp only [List.cons_append, List.cons.injEq] at h2
      right; left; exact ⟨x, s, h2.1 ▸ hm', h1⟩
theorem fits_rel (a b c : List Nat) : relW a c ∈ fits (relW a b) (relW b c) := by
  rcases relC a b with rfl | ⟨m, t, h, rfl⟩ | ⟨m, t, h, rfl⟩ | ⟨h1, h2, h3⟩
  · rw [relW_self]; generalize relW a c = w; revert w; intro w; cases w <;> decide
  · rcases relC b c with rfl | ⟨m', t', h', rfl⟩ | ⟨m', t', h', rfl⟩ | ⟨g1, g2, g3⟩
    · rw [relW_self]; rw [relW_over _ _ _ h]; unfold overW; split <;> decide
    · rw [relW_over _ _ _ h, relW_over _ _ _ h', List.append_assoc, List.cons_append, relW_over _ _ _ h']
      have e : (94 ∈ m' :: (t' ++ m :: t)) ↔ (94 ∈ m' :: t' ∨ 94 ∈ m :: t) := by rw [← List.cons_append, List.mem_append]
      unfold overW
      by_cases q1 : 94 ∈ m :: t <;> by_cases q2 : 94 ∈ m' :: t' <;> simp only [e, q1, q2, if_true, if_false, or_true, true_or, or_false, or_self] <;> decide
    · rw [relW_over _ _ _ h, relW_under _ _ _ h']
      rcases relC (b ++ m :: t) (b ++ m' :: t') with e | ⟨n, s, hn, e⟩ | ⟨n, s, hn, e⟩ | ⟨e1, e2, e3⟩
      · rw [← e, relW_self]
        have e' := List.append_cancel_left e
        rw [← e']; unfold overW underW
        by_cases q1 : 94 ∈ m :: t <;> simp only [q1, if_true, if_false] <;> decide
      · rw [e, relW_over _ _ _ hn]
        rw [List.append_assoc] at e
        have e' := List.append_cancel_left e
        rw [e']; unfold overW underW
        by_cases q1 : 94 ∈ m' :: t' <;> by_cases q2 : 94 ∈ n :: s <;> simp only [List.mem_append, q1, q2, if_true, if_false, or_true, true_or, or_self] <;> decide
      · rw [e, relW_under _ _ _ hn]
        rw [List.append_assoc] at e
        have e' := List.append_cancel_left e
        rw [e']; unfold overW underW
        by_cases q1 : 94 ∈ m :: t <;> by_cases q2 : 94 ∈ n :: s <;> simp only [List.mem_append, q1, q2, if_true, if_false, or_true, true_or, or_self] <;> decide
      · rw [relW_apart e1 e2 e3]; unfold overW underW
        split <;> split <;> decide
    · rw [relW_over _ _ _ h, relW_apart g1 g2 g3]
      have : relW (b ++ m :: t) c = .apart := by
        refine relW_apart (fun e => g3 ⟨m, t, h, e.symm⟩) (fun ⟨n, s, hn, e⟩ => ?_) (fun g => g3 (g.trans ⟨m, t, h, rfl⟩))
        rcases pre_cmp h hn e with q | q | q
        · exact g1 q
        · exact g2 q
        · exact g3 q
      rw [this]; unfold overW; split <;> decide
  · rcases relC (a ++ m :: t) c with rfl | ⟨m', t', h', e⟩ | ⟨m', t', h', rfl⟩ | ⟨g1, g2, g3⟩
    · rw [relW_self, relW_under _ _ _ h]; unfold underW; split <;> decide
    · rw [relW_under _ _ _ h]
      have e0 := e
      rw [e, relW_over _ _ _ h']
      rcases relC a c with rfl | ⟨n, s, hn, rfl⟩ | ⟨n, s, hn, rfl⟩ | ⟨e1, e2, e3⟩
      · rw [relW_self]
        have e' := List.append_cancel_left e
        rw [← e']; unfold overW underW
        by_cases q1 : 94 ∈ m :: t <;> simp only [q1, if_true, if_false] <;> decide
      · rw [relW_over _ _ _ hn]
        rw [List.append_assoc] at e
        have e' := List.append_cancel_left e
        rw [← e']; unfold overW underW
        by_cases q1 : 94 ∈ m :: t <;> by_cases q2 : 94 ∈ n :: s <;> simp only [List.mem_append, q1, q2, if_true, if_false, or_true, true_or, or_self] <;> decide
      · rw [relW_under _ _ _ hn]
        rw [List.append_assoc] at e
        have e' := List.append_cancel_left e
        rw [e']; unfold overW underW
        by_cases q1 : 94 ∈ m' :: t' <;> by_cases q2 : 94 ∈ n :: s <;> simp only [List.mem_append, q1, q2, if_true, if_false, or_true, true_or, or_self] <;> decide
      · rcases pre_cmp h h' e with q | q | q
        · exact absurd q e1
        · exact absurd q e2
        · exact absurd q e3
    · rw [relW_under _ _ _ h, relW_under _ _ _ h', List.append_assoc, List.cons_append, relW_under _ _ _ h]
      have e : (94 ∈ m :: (t ++ m' :: t')) ↔ (94 ∈ m :: t ∨ 94 ∈ m' :: t') := by rw [← List.cons_append, List.mem_append]
      unfold underW
      by_cases q1 : 94 ∈ m :: t <;> by_cases q2 : 94 ∈ m' :: t' <;> simp only [e, q1, q2, if_true, if_false, or_true, true_or, or_false, or_self] <;> decide
    · rw [relW_under _ _ _ h, relW_apart g1 g2 g3]
      have key : relW a c ∈ [W6.under, .underbox, .apart] := by
        rcases relC a c with rfl | ⟨n, s, hn, rfl⟩ | ⟨n, s, hn, rfl⟩ | ⟨e1, e2, e3⟩
        · exact absurd ⟨m, t, h, rfl⟩ g2
        · exact absurd (Ben.trans ⟨m, t, h, rfl⟩ ⟨n, s, hn, rfl⟩) g2
        · rw [relW_under _ _ _ hn]; unfold underW; split <;> decide
        · rw [relW_apart e1 e2 e3]; decide
      revert key
      generalize relW a c = w
      unfold underW
      split <;> cases w <;> decide
  · rw [relW_apart h1 h2 h3]
    rcases relC b c with rfl | ⟨m', t', h', rfl⟩ | ⟨m', t', h', rfl⟩ | ⟨g1, g2, g3⟩
    · rw [relW_self, relW_apart h1 h2 h3]; decide
    · rw [relW_over _ _ _ h']
      have key : relW a c ∈ [W6.over, .overbox, .apart] := by
        rcases relC a c with rfl | ⟨n, s, hn, rfl⟩ | ⟨n, s, hn, rfl⟩ | ⟨e1, e2, e3⟩
        · exact absurd ⟨m', t', h', rfl⟩ h3
        · rw [relW_over _ _ _ hn]; unfold overW; split <;> decide
        · exact absurd (Ben.trans ⟨m', t', h', rfl⟩ ⟨n, s, hn, rfl⟩) h3
        · rw [relW_apart e1 e2 e3]; decide
      revert key
      generalize relW a c = w
      unfold overW
      split <;> cases w <;> decide
    · rw [relW_under _ _ _ h']
      have : relW a (b ++ m' :: t') = .apart := by
        refine relW_apart (fun e => h2 ⟨m', t', h', e⟩) (fun g => h2 (g.trans ⟨m', t', h', rfl⟩)) (fun ⟨n, s, hn, e⟩ => ?_)
        rcases pre_cmp h' hn e with q | q | q
        · exact h1 q.symm
        · exact h3 q
        · exact h2 q
      rw [this]; unfold underW; split <;> decide
    · rw [relW_apart g1 g2 g3]
      generalize relW a c = w
      cases w <;> decide
/-- the number of marks -/
def marks (a : List Nat) : Nat := a.countP fun n => decide (isMk n)
@[simp] theorem marks_nil : marks [] = 0 := rfl
@[simp] theorem mksA (a b : List Nat) : marks (a ++ b) = marks a + marks b := by simp [marks]
theorem mksC (n : Nat) (a : List Nat) : marks (n :: a) = marks a + (if isMk n then 1 else 0) := by simp [marks, List.countP_cons]
theorem marks_le (a : List Nat) : marks a ≤ a.length := List.countP_le_length
theorem W6.txt_inj {a b : W6} : a.txt = b.txt ↔ a = b := ⟨fun h => by revert h; cases a <;> cases b <;> decide, fun h => by rw [h]⟩
def W6.of (s : Str) : Option W6 := if s = W6.txt .same then some .same else if s = W6.txt .over then some .over else if s = W6.txt .overbox then some .overbox else if s = W6.txt .under then some .under else if s = W6.txt .underbox then some .underbox else if s = W6.txt .apart then some .apart else none
@[simp] theorem W6.of_txt (w : W6) : W6.of w.txt = some w := by cases w <;> decide
theorem W6.of_some {s : Str} {w : W6} : W6.of s = some w → s = w.txt := by
  unfold W6.of
  intro h
  repeat' split at h
  all_goals cases h
  all_goals assumption
theorem W6.f_same : (Str.ofString "same") = W6.txt .same := rfl
theorem W6.f_over : (Str.ofString "over") = W6.txt .over := rfl
theorem W6.f_overbox : (Str.ofString "overbox") = W6.txt .overbox := rfl
theorem W6.f_under : (Str.ofString "under") = W6.txt .under := rfl
theorem W6.f_underbox : (Str.ofString "underbox") = W6.txt .underbox := rfl
theorem W6.f_apart : (Str.ofString "apart") = W6.txt .apart := rfl
def W6.box : W6 → Bool
  | .overbox => true | .underbox => true | _ => false
theorem W6.ends (w : W6) : Txt.endswith w.txt (Str.ofString "box") = w.box := by cases w <;> decide
theorem exW {s : Str} {P : W6 → Prop} : (∃ w : W6, s = w.txt ∧ P w) ↔ (match W6.of s with | some w => P w | none => False) := by
  constructor
  · rintro ⟨w, rfl, h⟩; rw [W6.of_txt]; exact h
  · intro h
    split at h
    · next w e => exact ⟨w, W6.of_some e, h⟩
    · exact h.elim
theorem exS {s : Str} {P : List Nat → Prop} : (∃ a, s = mk a ∧ P a) ↔ P s.cps.toList := by
  constructor
  · rintro ⟨a, rfl, h⟩; rwa [mk_cps]
  · intro h; exact ⟨_, (mk_of s).symm, h⟩
end DL

/-! PN: settings of unknown numbers (k05), plain. -/
namespace DL
open PySem PySem.Spec PyProof.Rows L2
def Fresh (l : List Int) (n : Int) : Prop := 0 ≤ n ∧ n ∉ l ∧ ∀ m, 0 ≤ m → m < n → m ∈ l
theorem Fresh.uniq {l : List Int} {n m : Int} (a : Fresh l n) (b : Fresh l m) : n = m := by
  rcases Int.lt_trichotomy n m with h | h | h
  · exact absurd (b.2.2 n a.1 h) a.2.1
  · exact h
  · exact absurd (a.2.2 m b.1 h) b.2.1
theorem fill_le : ∀ (n : Nat) (l : List Int), (∀ m : Nat, m < n → (m : Int) ∈ l) → n ≤ l.length
  | 0, _, _ => Nat.zero_le _
  | n + 1, l, h => by
    have h1 : (n : Int) ∈ l := h n (Nat.lt_succ_self n)
    have h2 := fill_le n (l.erase (n : Int)) fun m hm => (List.mem_erase_of_ne (by omega)).mpr (h m (by omega))
    have h3 := List.length_erase_of_mem h1
    have h4 : 0 < l.length := List.length_pos_of_mem h1
    omega
theorem fresh_ex (l : List Int) : ∃ n, Fresh l n := by
  have key : ∀ k : Nat, (∃ n, Fresh l n) ∨ ∀ m : Nat, m < k → (m : Int) ∈ l := by
    intro k
    induction k with
    | zero => exact .inr fun m h => absurd h (Nat.not_lt_zero m)
    | succ k ih =>
      rcases ih with h | h
      · exact .inl h
      · by_cases e : (k : Int) ∈ l
        · exact .inr fun m hm => by
            by_cases q : m = k
            · subst q; exact e
            · exact h m (by omega)
        · exact .inl ⟨k, by omega, e, fun m h0 h1 => by
            obtain ⟨j, rfl⟩ := Int.eq_ofNat_of_zero_le h0
            exact h j (by omega)⟩
  rcases key (l.length + 1) with h | h
  · exact h
  · have := fill_le _ _ h; omega
noncomputable def fresh (l : List Int) : Int := Classical.choose (fresh_ex l)
theorem fresh_is (l : List Int) : Fresh l (fresh l) := Classical.choose_spec (fresh_ex l)
theorem fresh_eq {l : List Int} {n : Int} (h : Fresh l n) : fresh l = n := (fresh_is l).uniq h
theorem fresh_le (l : List Int) : fresh l ≤ l.length := by
  obtain ⟨h0, _, h2⟩ := fresh_is l
  obtain ⟨j, e⟩ := Int.eq_ofNat_of_zero_le h0
  rw [e] at h2 ⊢
  have := fill_le j l fun m hm => h2 m (by omega) (by omega)
  omega
def spairD (p : Str × Int) : D := .tup [.str p.1, .int p.2]
/-- the numbers of a setting that are not known, each once -/
def usedStep (kn : List Int) (u : List Int) (p : Str × Int) : List Int := if p.2 ∈ kn ∨ p.2 ∈ u then u else u ++ [p.2]
def usedOf (kn : List Int) (st : List (Str × Int)) : List Int := st.foldl (usedStep kn) []
theorem usedOf_len (kn : List Int) (st : List (Str × Int)) : (usedOf kn st).length ≤ st.length := by
  have : ∀ (st : List (Str × Int)) (u : List Int), (st.foldl (usedStep kn) u).length ≤ u.length + st.length := by
    intro st
    induction st with
    | nil => intro u; simp
    | cons p r ih =>
      intro u
      rw [List.foldl_cons]
      have := ih (usedStep kn u p)
      have h2 : (usedStep kn u p).length ≤ u.length + 1 := by unfold usedStep; split <;> simp
      rw [List.length_cons]; omega
  simpa [usedOf] using this st []
/-- one more name -/
noncomputable def settNums (kn : List Int) (st : List (Str × Int)) : List Int := kn ++ usedOf kn st ++ [fresh (kn ++ usedOf kn st)]
noncomputable def longerS (kn : List Int) (st : List (Str × Int)) (x : Str) : List (List (Str × Int)) := (settNums kn st).map fun n => st ++ [(x, n)]
noncomputable def stepS (kn : List Int) (l : List (List (Str × Int))) (x : Str) : List (List (Str × Int)) := (l.map fun st => longerS kn st x).flatten
noncomputable def enoughS (kn : List Int) (xs : List Str) : List (List (Str × Int)) := xs.foldl (stepS kn) [[]]
/-- settings as cells -/
def NestC (μ : Mu) (ps : List Addr) (S : List (List (Str × Int))) : Prop := ps.length = S.length ∧ ∀ (i : Nat) p st, ps[i]? = some p → S[i]? = some st → μ p = some (.lst (st.map spairD))
theorem NestC.ext {μ μ' : Mu} {ps : List Addr} {S : List (List (Str × Int))} (h : NestC μ ps S) (s : Sub μ μ') : NestC μ' ps S := ⟨h.1, fun i p st a b => s _ _ (h.2 i p st a b)⟩
theorem NestC.nil {μ : Mu} : NestC μ [] [] := ⟨rfl, fun i p st a _ => by simp at a⟩
theorem NestC.snoc {μ : Mu} {ps : List Addr} {S : List (List (Str × Int))} {p : Addr} {st : List (Str × Int)} (h : NestC μ ps S) (e : μ p = some (.lst (st.map spairD))) : NestC μ (ps ++ [p]) (S ++ [st]) := by
  refine ⟨by simp [h.1], fun i q s a b => ?_⟩
  by_cases hi : i < ps.length
  · rw [List.getElem?_append_left hi] at a
    rw [List.getElem?_append_left (by rw [← h.1]; exact hi)] at b
    exact h.2 i q s a b
  · rw [List.getElem?_append_right (by omega)] at a
    rw [List.getElem?_append_right (by rw [← h.1]; omega)] at b
    rw [← h.1] at b
    cases hk : i - ps.length with
    | zero => rw [hk] at a b; cases a; cases b; exact e
    | succ k => rw [hk] at a; simp at a
theorem NestC.append {μ : Mu} {ps qs : List Addr} {S T : List (List (Str × Int))} (h : NestC μ ps S) (k : NestC μ qs T) : NestC μ (ps ++ qs) (S ++ T) := by
  refine ⟨by simp [h.1, k.1], fun i q s a b => ?_⟩
  by_cases hi : i < ps.length
  · rw [List.getElem?_append_left hi] at a
    rw [List.getElem?_append_left (by rw [← h.1]; exact hi)] at b
    exact h.2 i q s a b
  · rw [List.getElem?_append_right (by omega)] at a
    rw [List.getElem?_append_right (by rw [← h.1]; omega)] at b
    rw [← h.1] at b
    exact k.2 _ q s a b
@[simp] theorem intsOf_ints (l : List Int) : intsOf (l.map D.int) = some l := intsOf_map l
theorem vw_lst_keep {μ μ' : Mu} {d : D} {xs : List D} (h : vw μ d = .lst xs) (k : ∀ b, d = .ptr b → μ b = some (.lst xs) → μ' b = some (.lst xs)) : vw μ' d = .lst xs := by
  cases d with
  | ptr b =>
    rw [vw_pd] at h
    split at h <;> first | cases h | skip
    next h1 => exact vw_of (k b rfl h1)
  | _ => exact h
theorem comp2_ind {g : TDG} {tt : TDT} {I1 : TDI} {g1 : TDG} {tt1 : TDT} {te : TDE} {vs1 : List Nat} {p : Addr} {ρ0 : DR} {Q : Mu → Prop} (I : List D → List D → Mu → Prop) {xs acc : List D} {μ : Mu} (hp : μ p = none) (h : I xs acc μ)
    (hn : ∀ acc μ, μ p = none → I [] acc μ → Q (mup μ p (.lst acc)))
    (hc : ∀ x r acc μ (N : Mu → Prop), μ p = none → I (x :: r) acc μ → (∀ acc' μ'', μ'' p = none → I r acc' μ'' → N (mup μ'' p (.lst acc'))) → g x ρ0 (mup μ p (.lst acc)) fun ρ2 μ2 => tt ρ2 μ2 fun b μ3 => if b = true then I1 ρ2 μ3 fun ys μ4 => compL g1 tt1 te p (wipeD ρ2 vs1) N ys μ4 else N μ3) :
    comp2L g tt I1 g1 tt1 te vs1 p ρ0 Q xs (mup μ p (.lst acc)) := by
  induction xs generalizing acc μ with
  | nil => exact hn acc μ hp h
  | cons x r ih => exact hc x r acc μ (comp2L g tt I1 g1 tt1 te vs1 p ρ0 Q r) hp h fun acc' μ'' h1 h2 => ih h1 h2
/-- how many settings -/
theorem longerS_len (kn : List Int) (st : List (Str × Int)) (x : Str) : (longerS kn st x).length ≤ kn.length + st.length + 1 := by
  have := usedOf_len kn st
  unfold longerS settNums
  simp
  omega
theorem longerS_each {kn : List Int} {st : List (Str × Int)} {x : Str} : ∀ t ∈ longerS kn st x, t.length = st.length + 1 := by
  intro t ht
  unfold longerS at ht
  obtain ⟨n, _, rfl⟩ := List.mem_map.mp ht
  simp
theorem stepS_cons (kn : List Int) (st : List (Str × Int)) (l : List (List (Str × Int))) (x : Str) : stepS kn (st :: l) x = longerS kn st x ++ stepS kn l x := by simp [stepS]
theorem stepS_len {kn : List Int} {x : Str} {i : Nat} (hk : kn.length + i + 1 ≤ 8) : ∀ {l : List (List (Str × Int))}, (∀ t ∈ l, t.length = i) → (stepS kn l x).length ≤ 8 * l.length
  | [], _ => by simp [stepS]
  | st :: l, h => by
    rw [stepS_cons, List.length_append, List.length_cons]
    have h1 := longerS_len kn st x
    have h2 := stepS_len (x := x) hk (l := l) fun t ht => h t (List.mem_cons_of_mem _ ht)
    have h3 := h st List.mem_cons_self
    omega
theorem stepS_each {kn : List Int} {x : Str} {i : Nat} : ∀ {l : List (List (Str × Int))}, (∀ t ∈ l, t.length = i) → ∀ t ∈ stepS kn l x, t.length = i + 1
  | [], _, t, ht => by simp [stepS] at ht
  | st :: l, h, t, ht => by
    rw [stepS_cons] at ht
    rcases List.mem_append.mp ht with q | q
    · rw [longerS_each t q, h st List.mem_cons_self]
    · exact stepS_each (fun u hu => h u (List.mem_cons_of_mem _ hu)) t q
theorem enoughS_snoc (kn : List Int) (xs : List Str) (x : Str) : enoughS kn (xs ++ [x]) = stepS kn (enoughS kn xs) x := by simp [enoughS]
theorem enoughS_ok {kn : List Int} (hk : kn.length ≤ 3) : ∀ (n : Nat) (xs : List Str), xs.length = n → n ≤ 4 → (enoughS kn xs).length ≤ 8 ^ n ∧ ∀ t ∈ enoughS kn xs, t.length = n := by
  intro n
  induction n with
  | zero =>
    intro xs h _
    rw [List.length_eq_zero_iff.mp h]
    simp [enoughS]
  | succ n ih =>
    intro xs h hn
    have hx : xs ≠ [] := by intro e; rw [e] at h; simp at h
    obtain ⟨ys, y, rfl⟩ : ∃ ys y, xs = ys ++ [y] := ⟨xs.dropLast, xs.getLast hx, (List.dropLast_concat_getLast hx).symm⟩
    have hl : ys.length = n := by simpa using h
    obtain ⟨i1, i2⟩ := ih ys hl (by omega)
    rw [enoughS_snoc]
    refine ⟨?_, stepS_each i2⟩
    have := stepS_len (x := y) (kn := kn) (i := n) (by omega) i2
    rw [Nat.pow_succ]
    omega
theorem spair_ptr {st : List (Str × Int)} {rs : List Addr} (h : st ≠ []) : st.map spairD ≠ rs.map D.ptr := by
  cases st with
  | nil => exact absurd rfl h
  | cons x st =>
    cases rs with
    | nil => simp
    | cons r rs => intro e; simp [spairD] at e
theorem NestC.cons_inv {μ : Mu} {p : Addr} {ps : List Addr} {S : List (List (Str × Int))} (h : NestC μ (p :: ps) S) : ∃ st T, S = st :: T ∧ μ p = some (.lst (st.map spairD)) ∧ NestC μ ps T := by
  cases S with
  | nil => have := h.1; simp at this
  | cons st T => exact ⟨st, T, rfl, h.2 0 p st rfl rfl, by have := h.1; simpa using this, fun i q s a b => h.2 (i + 1) q s (by simpa using a) (by simpa using b)⟩
theorem NestC.each {μ μ' : Mu} {ps : List Addr} {S : List (List (Str × Int))} (h : NestC μ ps S) (k : ∀ p st, p ∈ ps → st ∈ S → μ p = some (.lst (st.map spairD)) → μ' p = some (.lst (st.map spairD))) : NestC μ' ps S :=
  ⟨h.1, fun i p st a b => k p st (List.mem_of_getElem? a) (List.mem_of_getElem? b) (h.2 i p st a b)⟩
theorem NestC.has {μ : Mu} {ps : List Addr} {S : List (List (Str × Int))} (h : NestC μ ps S) {p : Addr} (m : p ∈ ps) : ∃ st ∈ S, μ p = some (.lst (st.map spairD)) := by
  obtain ⟨i, e⟩ := List.mem_iff_getElem?.mp m
  have l := (List.getElem?_eq_some_iff.mp e).1
  rw [h.1] at l
  exact ⟨S[i], List.getElem_mem l, h.2 i p _ e (List.getElem?_eq_getElem l)⟩
theorem mup_of_mdel {μ : Mu} {p : Addr} {c : Cell} (h : μ p = some c) : mup (mdel μ p) p c = μ := by
  funext b; unfold mup mdel; split
  · next e => rw [e, h]
  · rfl
def settD (S : List (List (Str × Int))) : D := .lst (S.map fun t => .lst (t.map spairD))
theorem Pd_pair (p : Str × Int) : Pd 1 (spairD p) := .inr ⟨_, .inr rfl, by simp, fun x hx => by
  simp at hx
  rcases hx with rfl | rfl <;> exact trivial⟩
theorem Pd_sett {t : List (Str × Int)} (h : t.length ≤ 16000000) : Pd 2 (.lst (t.map spairD)) := .inr ⟨_, .inl rfl, by simpa using h, fun x hx => by
  obtain ⟨p, _, rfl⟩ := List.mem_map.mp hx
  exact Pd_pair p⟩
theorem Pd_settD {S : List (List (Str × Int))} (h : S.length ≤ 16000000) (h2 : ∀ t ∈ S, t.length ≤ 16000000) : Pd 3 (settD S) := .inr ⟨_, .inl rfl, by simpa using h, fun x hx => by
  obtain ⟨t, ht, rfl⟩ := List.mem_map.mp hx
  exact Pd_sett (h2 t ht)⟩
theorem view_settD {μ : Mu} {S : List (List (Str × Int))} (h : S.length ≤ 16000000) (h2 : ∀ t ∈ S, t.length ≤ 16000000) : dview μ 19 (settD S) = some (settD S) := dview_le (dview_pure (Pd_settD h h2)) (by decide)
theorem view_nest {μ : Mu} {d : D} {ps : List Addr} {S : List (List (Str × Int))} (e : vw μ d = .lst (ps.map .ptr)) (n : NestC μ ps S) (h : S.length ≤ 16000000) (h2 : ∀ t ∈ S, t.length ≤ 16000000) : dview μ 19 d = some (settD S) := by
  refine dview_le (n := 3) (dview_lst e (by simpa [n.1] using h) (dvs_of (by simp [n.1]) fun i x y a b => ?_)) (by decide)
  rw [List.getElem?_map] at a b
  cases ha : ps[i]? with
  | none => rw [ha] at a; cases a
  | some p =>
    cases hb : S[i]? with
    | none => rw [hb] at b; cases b
    | some t =>
      rw [ha] at a; rw [hb] at b
      cases a; cases b
      refine dview_lst (n := 1) (vw_of (n.2 i p t ha hb)) (by simpa using h2 t (List.mem_of_getElem? hb)) (dvs_id fun x hx => ?_)
      obtain ⟨q, _, rfl⟩ := List.mem_map.mp hx
      exact dview_pure (Pd_pair q)
theorem frz_at {i : Nat} {T : TDS} {E : DEnds} {ρ : DR} {μ : Mu} {a : Addr} {xs : List D} (h : ρ[i]? = some (some (.ptr a))) (e : μ a = some (.lst xs)) (q : T E (ρ.set i (some (.lst xs))) (mdel μ a)) : dFrzS i T E ρ μ := by
  unfold dFrzS
  rw [h]
  dsimp only
  rw [e]
  exact q
theorem stepS_app (kn : List Int) (l m : List (List (Str × Int))) (x : Str) : stepS kn (l ++ m) x = stepS kn l x ++ stepS kn m x := by simp [stepS]
theorem enoughS_pos (kn : List Int) (xs : List Str) : 0 < (enoughS kn xs).length := by
  have : ∀ (xs : List Str) (l : List (List (Str × Int))), 0 < l.length → 0 < (xs.foldl (stepS kn) l).length := by
    intro xs
    induction xs with
    | nil => intro l h; exact h
    | cons x r ih =>
      intro l h
      rw [List.foldl_cons]
      refine ih _ ?_
      cases l with
      | nil => simp at h
      | cons st l =>
        rw [stepS_cons, List.length_append]
        have : 0 < (longerS kn st x).length := by unfold longerS settNums; simp; omega
        omega
  exact this xs [[]] (by simp)
theorem pyL_ints : ∀ l : List Int, pyL (l.map D.int) = some (l.map PyData.int)
  | [] => rfl
  | n :: r => by rw [List.map_cons, pyL, pyL_ints r]; rfl
theorem pyL_strs : ∀ l : List Str, pyL (l.map D.str) = some (l.map PyData.str)
  | [] => rfl
  | n :: r => by rw [List.map_cons, pyL, pyL_strs r]; rfl
theorem canLay_strs : ∀ l : List Str, (∀ x ∈ l, PyData.strOk x = true) → PyData.canLayAll0 (l.map PyData.str) = true
  | [], _ => by simp [PyData.canLayAll0]
  | n :: r, h => by simp [PyData.canLayAll0, PyData.canLay0, canLay_strs r fun x hx => h x (List.mem_cons_of_mem _ hx), h n List.mem_cons_self]
theorem depth_strs : ∀ l : List Str, PyData.depthAll (l.map PyData.str) ≤ 1
  | [] => by simp [PyData.depthAll]
  | n :: r => by
    have := depth_strs r
    simp only [List.map_cons, PyData.depthAll, PyData.depth]
    omega
theorem shaped_strs (l : List Str) (h : ∀ x ∈ l, PyData.strOk x = true) : SeqAt.shaped (.list (l.map PyData.str)) = true := by
  have h1 := depth_strs l
  have h2 : PyData.depth (.list (l.map PyData.str)) ≤ 64 := by simp only [PyData.depth]; omega
  show (PyData.canLay0 (.list (l.map PyData.str)) && decide (PyData.depth (.list (l.map PyData.str)) ≤ 64)) = true
  rw [Bool.and_eq_true]
  exact ⟨by simp only [PyData.canLay0]; exact canLay_strs l h, decide_eq_true h2⟩
end DL

namespace K05
open PySem PySem.Spec PyProof.Rows L2 DL
open L2H (FnH RoomH HotC)
local macro_rules | `(tactic| walk_at "dl0") => `(tactic| simp only [startD, List.map_cons, List.map_nil, List.cons_append, List.nil_append, List.length_cons, List.length_nil, Nat.reduceAdd, Nat.reduceSub, Nat.zero_add, List.reduceReplicate])
local macro_rules | `(tactic| walk_at "dl_vw") => `(tactic| first | rfl | (with_unfolding_all rfl) | exact vw_of (by assumption) | exact vw_of mup_same | (simp [vw, mup_ne, *]; done))
local macro_rules | `(tactic| walk_at "dl_at") => `(tactic| first | exact atI_c0 | exact atI_c1 | exact atI_c2 | exact atI_c3 | exact atI_c4 | exact atI_m1a | exact atI_m1s | assumption | rfl | (simp [*]; done))
local macro_rules | `(tactic| walk_at "dl_mu") => `(tactic| first | assumption | exact mup_same | (simp [mup_ne, *]; done))
local macro_rules | `(tactic| walk_at "dl_sz") => `(tactic| first | omega | (simp; omega) | (simp [*]; omega))
local macro_rules | `(tactic| walk_at "dl_cz") => `(tactic| first | (show (0 : Int) < _; first | omega | decide) | (unfold CDiv; constructor <;> omega) | (unfold CMul; first | (right; decide) | (left; decide) | (right; omega)) | (unfold CPow; decide))
local macro_rules | `(tactic| walk_at "dl_fin") => `(tactic| first | assumption | (refine ⟨by first | walk_at "dl_cz" | walk_at "dl_sz", ?_⟩; walk_at "dl_fin"))
local macro_rules | `(tactic| walk_at "dl_ev") => `(tactic| (intro Q hQ; simp only [dVar, dC, dOp, dCB, dCons, dNil, dB, dAnd, dOr, dNot, dAndV, dOrV, dNotV, dNeg, dTru, truD, dIf, dSl, dNoPart, dPart, slW, dLst, dTup, mkL_f, dIsi, isiD, dKd, dFrz, frz,
    opAdd, opZ0, opZ, eqW, opIs, isNonD, inW, inSeq, opIx, cLen, cInt, cMin2, cMax2, dBM, isTyD, mStarts, mEnds, iLst, iTupD, iScr, iTxt, iRg1, iRg2,
    vw_int, vw_str, vw_bl, vw_non, vw_lst, vw_tup, vw_dic, vw_obj, vw_scr, vw_pd, atI_c0, atI_c1, atI_c2, atI_c3, atI_c4, atI_m1s, atI_m1a, mk_cps, mk_length, mk_append, mk_inj, cutS_mk, mup_same,
    List.getElem?_cons_zero, List.getElem?_cons_succ, List.length_cons, List.length_nil, Option.some.injEq, exists_eq_left', exists_eq_left, exists_eq', true_and, and_true, Bool.false_xor, Bool.true_xor, ite_Qb, ite_Qo, ite_Vb, ite_Vo, Bool.true_and, Bool.false_and, Bool.and_true, Bool.and_false, Bool.true_or, Bool.false_or, strsOf_cons, strsOf_nil, strsOf_map, intsOf_cons, intsOf_nil, Option.map_some, startswith_mk, if_true, reduceIte, Bool.false_eq_true, decide_true, decide_false, reduceCtorEq, *]; walk_at "dl_fin"))
local macro_rules | `(tactic| walk_at "dl") => `(tactic| first
  | (with_reducible refine i_seq ?_)
  | (refine v_asg (by walk_at "dl_ev") ?_)
  | (refine v_if (by walk_at "dl_ev") ?_)
  | (refine v_ret (by walk_at "dl_ev") ?_)
  | (refine v_drop (by walk_at "dl_ev") ?_)
  | (refine v_for (by walk_at "dl_ev") ?_)
  | (refine v_sub (by walk_at "dl_ev") (by walk_at "dl_ev") ?_)
  | with_reducible refine i_op ?_
  | with_reducible refine i_var rfl ?_
  | with_reducible refine i_c ?_
  | with_reducible refine i_cons ?_
  | with_reducible refine i_nil ?_
  | with_reducible refine i_seq ?_
  | (with_reducible refine i_ixL (by walk_at "dl_vw") (by walk_at "dl_at") ?_)
  | (with_reducible refine i_CB ?_)
  | (with_reducible refine i_z0 ?_)
  | (with_reducible refine i_B ?_)
  | (with_reducible refine i_ifS ?_)
  | (with_reducible refine i_asg ?_)
  | (with_reducible refine i_dgName ?_; (try dsimp only [List.set_cons_zero, List.set_cons_succ]))
  | with_reducible refine i_call ?_
  | (with_reducible refine i_addI ?_)
  | (with_reducible refine i_addS (by walk_at "dl_sz") ?_)
  | (with_reducible refine i_eqS ?_)
  | (with_reducible refine i_eqI ?_)
  | (with_reducible refine i_ret ?_)
  | (with_reducible refine i_z (by walk_at "dl_cz") ?_)
  | (with_reducible refine i_setDm (by first | exact ixN_c0 | exact ixN_c1 | exact ixN_c2 | exact ixN_c3 | (with_unfolding_all rfl) | exact ixN_m1 (by walk_at "dl_sz") | exact ixN_nat (by walk_at "dl_sz")) ?_; (try dsimp only [List.set_cons_zero, List.set_cons_succ]))
  | (with_reducible refine i_dgSub ?_)
  | (with_reducible refine iteT ?_)
  | (with_reducible refine iteF ?_)
  | (with_reducible refine ite_xd (fun hb => ?_) (fun hb => ?_))
  | (with_reducible refine ite_d (fun hb => ?_) (fun hb => ?_))
  | (with_reducible refine i_BM ?_)
  | (with_reducible refine i_retN ?_)
  | (with_reducible refine i_drop ?_)
  | (with_reducible refine i_next ?_)
  | (with_reducible refine i_and ?_)
  | (with_reducible refine i_or ?_)
  | (with_reducible refine i_not ?_)
  | (with_reducible refine i_andV ?_)
  | (with_reducible refine i_orV ?_)
  | (with_reducible refine i_notV ?_)
  | (with_reducible refine i_if ?_)
  | (with_reducible refine i_neg ?_)
  | (with_reducible refine i_tru ?_)
  | (with_reducible refine i_truB ?_)
  | (with_reducible refine i_frz ?_)
  | (with_reducible refine i_isi ?_)
  | (with_reducible refine i_kd ?_)
  | (with_reducible refine i_yes ?_)
  | (with_reducible refine i_lst ?_)
  | (with_reducible refine i_tup ?_)
  | (with_reducible refine i_few (by walk_at "dl_sz") ?_)
  | (with_reducible refine i_fewT (by walk_at "dl_sz") ?_)
  | (with_reducible refine i_mkF ?_)
  | (with_reducible refine i_sl ?_)
  | (with_reducible refine i_noPart ?_)
  | (with_reducible refine i_part ?_)
  | (with_reducible refine i_for ?_)
  | (with_reducible refine i_forK ?_)
  | (with_reducible refine i_iLst ?_)
  | (with_reducible refine i_iTup ?_)
  | (with_reducible refine i_iScr ?_)
  | (with_reducible refine i_iTxt ?_)
  | (with_reducible refine i_setD (by walk_at "dl_mu") (by first | exact ixN_c0 | exact ixN_c1 | exact ixN_c2 | exact ixN_c3 | (with_unfolding_all rfl) | exact ixN_m1 (by walk_at "dl_sz") | exact ixN_nat (by walk_at "dl_sz")) ?_; (try dsimp only [List.set_cons_zero, List.set_cons_succ]))
  | (with_reducible refine i_dgTup (by walk_at "dl_vw") rfl ?_)
  | (with_reducible refine i_dgCons ?_)
  | (with_reducible refine i_dgNil ?_)
  | (with_reducible refine i_aug rfl ?_)
  | (with_reducible refine i_rng1 ?_)
  | (with_reducible refine i_rng2 ?_)
  | (with_reducible refine i_eqB ?_)
  | (with_reducible refine i_isN ?_)
  | (with_reducible refine i_int ?_)
  | (with_reducible refine i_lenS (by walk_at "dl_sz") ?_)
  | (with_reducible refine i_lenL (by walk_at "dl_vw") ?_)
  | (with_reducible refine i_ixT (by walk_at "dl_vw") (by walk_at "dl_at") ?_)
  | (with_reducible refine i_appendm (by walk_at "dl_sz") ?_)
  | (with_reducible refine i_append (by walk_at "dl_mu") (by walk_at "dl_sz") ?_)
  | (with_reducible refine i_frzL (by walk_at "dl_mu") ?_)
  | (with_reducible refine i_endF (by walk_at "dl_mu") ?_)
  | (with_reducible refine i_slL (by walk_at "dl_vw") ?_)
  | (with_reducible refine i_slS (by walk_at "dl_sz") ?_)
  | (with_reducible refine i_listL (by walk_at "dl_vw") ?_)
  | (with_reducible refine i_listT (by walk_at "dl_vw") ?_)
  | (with_reducible refine i_lc ?_)
  | (with_reducible refine ite_xn (fun hb => ?_) (fun hb => ?_))
  | (with_reducible refine ite_nd (fun hb => ?_) (fun hb => ?_))
  | (with_reducible refine ite_b (fun hb => ?_) (fun hb => ?_))
  | (with_reducible refine ⟨True.intro, ?_⟩)
  | (dsimp only [vw_int, vw_str, vw_bl, vw_non, vw_lst, vw_tup, isTyD]))
set_option hygiene false
local macro_rules | `(tactic| walk_at "s") => `(tactic| (refine seq_hide ?_; intro N hN))
set_option hygiene true
def topS (i : Nat) : Stmt := PySem.Challenge.pw_fieldsandcalls_k05_settings_that_are_eno.main.body.getD i (.Pass ⟨0, 0, 0, 0⟩)
abbrev Glob_MOST_UNKNOWNS (K : PySem.W.Frag) (w : World) (mg : Str → Option Value) : Prop := GlobI 4 "MOST_UNKNOWNS" mg
abbrev sp__law_begin : DSp := sp_begin
theorem len__law_begin : ∀ ds μ Q E, sp_begin_p ds μ Q E → ds.length = 1 := by
  rintro ds μ Q E ⟨ns, h | h, _⟩ <;> subst h <;> rfl
abbrev sp__law_begin_p : DSp := sp_begin_p
abbrev s__law_begin : Stmt := topS 9
theorem sc__law_begin : FnScope ["script"] ["script"] (defScope s__law_begin) := ⟨rfl, rfl, rfl, by decide +kernel, rfl, by decide +kernel, by decide +kernel⟩
set_option maxHeartbeats 1000000 in
theorem ok__law_begin_p {P : Program} {w : World} {K : PySem.W.Frag} {mg : Str → Option Value} {base : Heap} {f : Addr} {fd : FuncData}  (D0 : DefAt K mg "_law_begin" s__law_begin ["script"] f fd) (z_list : mg "list" = none) : FnOk P w K mg base CX0 (1) f fd ["script"] (toSp K sp__law_begin_p) := by
  refine fn_ok D0.F sc__law_begin (len__law_begin) fun B cdv A outer s H E hr => ⟨_, _, dss_one (ds_ret (de_lst true (da_cons (de_callTy (dc_list true) (by rfl) z_list (by decide +kernel) (da_cons (dv 0) (da_nil))) (da_cons (de_int) (da_cons (de_neg (de_int)) (da_cons (de_int) (da_nil))))))), ?_⟩
  rintro ds μ Q EE ⟨ns, h | h, q⟩ <;> subst h
  · simp
    intro l hl
    refine ⟨sz_le (by decide), fun a ha => ?_⟩
    have ne : a ≠ l := fun e => by subst e; simp at ha
    rw [mup_ne ne] at ha
    exact q a l hl ne ha
  · simp
    intro l hl
    refine ⟨sz_le (by decide), fun a ha => ?_⟩
    have ne : a ≠ l := fun e => by subst e; simp at ha
    rw [mup_ne ne] at ha
    exact q a l hl ne ha
theorem ok__law_begin {P : Program} {w : World} {K : PySem.W.Frag} {mg : Str → Option Value} {base : Heap} {f : Addr} {fd : FuncData}  (D0 : DefAt K mg "_law_begin" s__law_begin ["script"] f fd) (z_list : mg "list" = none) : FnOk P w K mg base CX0 1 f fd ["script"] (toSp K sp__law_begin) := (ok__law_begin_p D0 z_list).imp fun vs H Q E h => begin_imp h
def sp__law_grown : DSp := fun ds μ Q _ => ∃ ns : List Int, ds = [.scr ns] ∧ ns.length ≤ 63 ∧ ∀ l : List Int, Q (.lst (l.map .int)) μ
theorem len__law_grown : ∀ ds μ Q E, sp__law_grown ds μ Q E → ds.length = 1 := by
  rintro ds μ Q E ⟨ns, rfl, _⟩; rfl
abbrev s__law_grown : Stmt := topS 13
theorem sc__law_grown : FnScope ["script", "rows", "mixed", "number", "k"] ["script"] (defScope s__law_grown) := ⟨rfl, rfl, rfl, by decide +kernel, rfl, by decide +kernel, by decide +kernel⟩
set_option maxHeartbeats 1000000 in
theorem ok__law_grown {P : Program} {w : World} {K : PySem.W.Frag} {mg : Str → Option Value} {base : Heap} {f : Addr} {fd : FuncData}  (D0 : DefAt K mg "_law_grown" s__law_grown ["script"] f fd) (z_list : mg "list" = none) (z_int : mg "int" = none) (z_len : mg "len" = none) (z_range : mg "range" = none) : FnOk P w K mg base CX0 (1) f fd ["script"] (toSp K sp__law_grown) := by
  refine fn_ok D0.F sc__law_grown (len__law_grown) fun B cdv A outer s H E hr => ⟨_, _, dss_cons (ds_set 1 sc__law_grown.nd (de_callTy (dc_list true) (by rfl) z_list (by decide +kernel) (da_cons (dv 0) (da_nil))))
    (dss_cons (ds_set 2 sc__law_grown.nd (de_int))
    (dss_cons (ds_for PassesOwn.never rfl (di_scr (dv 0)) (dg_name 3 sc__law_grown.nd)
      (dss_one (ds_set 2 sc__law_grown.nd (de_op do_mod (de_callTy dc_int (by rfl) z_int (by decide +kernel) (da_cons (de_op do_add (de_op do_mul (dv 2) (de_int)) (dv 3)) (da_nil))) (de_int)))))
    (dss_cons (ds_if (dt_cmp do_gt (de_callB dc_len (by rfl) z_len (by decide +kernel) (da_cons (dv 0) (da_nil))) (de_int))
      (dss_one (ds_for PassesOwn.never rfl (di_range1 (by rfl) z_range (da_cons (de_int) (da_nil))) (dg_name 4 sc__law_grown.nd)
        (dss_cons (ds_set 2 sc__law_grown.nd (de_op do_mod (de_callTy dc_int (by rfl) z_int (by decide +kernel) (da_cons (de_op do_add (de_op do_add (de_op do_mul (dv 2) (de_int)) (de_op do_mul (dv 4) (de_int))) (de_int)) (da_nil))) (de_int)))
        (dss_one (ds_expr (de_bm PySem.F.plainAttrs_list PySem.F.slot_list_append PySem.F.type_list_append dm_append (dv 1) (da_cons (dv 2) (da_nil))))))))
      (dss_nil))
    (dss_one (ds_ret (de_frz (dv 1))))))), ?_⟩
  rintro ds μ Q EE ⟨ns, rfl, hl, q⟩
  walk_at "dl0"
  walk_at "s"
  simp
  intro a ha
  subst hN
  walk_at "s"
  simp
  subst hN
  walk_at "s"
  refine for_hide fun L hL => ?_
  simp
  rw [hL]
  refine loop_it (fun r ρ μ' => ∃ (l : List Int) (m : Int) (k : Option D), r = l.map .int ∧ ρ = [some (.scr ns), some (.ptr a), some (.int m), k, none] ∧ μ' = mup μ a (.lst (ns.map .int))) ⟨ns, 7, none, rfl, rfl, rfl⟩ ?_ ?_
  · rintro ρ μ' ⟨l, m, k, h1, rfl, rfl⟩
    show N _ _
    subst hN
    clear hL
    refine seq_cut (fun ρ μ' => ∃ (l : List Int) (m : Int) (k1 k2 : Option D), ρ = [some (.scr ns), some (.ptr a), some (.int m), k1, k2] ∧ μ' = mup μ a (.lst (l.map .int))) (fun N hN => ?_) ?_
    · simp
      split
      · refine loop_rng (fun j ρ μ' => ∃ (l : List Int) (m : Int) (k1 k2 : Option D), ρ = [some (.scr ns), some (.ptr a), some (.int m), k1, k2] ∧ μ' = mup μ a (.lst (l.map .int)) ∧ (l.length : Int) = ns.length + j) (by decide) ⟨ns, m, k, none, rfl, rfl, by simp⟩ ?_ ?_
        · rintro ρ μ' ⟨l, m, k1, k2, rfl, rfl, _⟩
          exact hN _ _ ⟨l, m, k1, k2, rfl, rfl⟩
        · rintro j ρ μ' M j0 j1 ⟨l, m, k1, k2, rfl, rfl, hj⟩ hM
          simp [vw_pd]
          exact ⟨by walk_at "dl_cz", by walk_at "dl_cz", by rw [szl]; omega, hM _ _ ⟨l ++ [(m * 48271 + j * 69621 + 11) % 2147483399], _, _, _, rfl, by simp, by simp; omega⟩⟩
      · exact hN _ _ ⟨ns, m, k, none, rfl, rfl⟩
    rintro _ _ ⟨l, m, k1, k2, rfl, rfl⟩
    simp
    rw [mdel_mup ha]
    exact q l
  · rintro y r ρ μ' M ⟨l, m, k, h1, rfl, rfl⟩ hM
    cases l with
    | nil => simp at h1
    | cons z l =>
      simp at h1
      obtain ⟨rfl, rfl⟩ := h1
      simp
      exact ⟨by walk_at "dl_cz", hM _ _ ⟨l, _, _, rfl, rfl, rfl⟩⟩
abbrev sp__law_draw : DSp := sp_draw
abbrev sp__law_draw_p : DSp := sp_draw_p
theorem len__law_draw : ∀ ds μ Q E, sp_draw_p ds μ Q E → ds.length = 2 := by
  rintro ds μ Q E ⟨a, l, ns, p, r, c, sz, rfl, _⟩; rfl
abbrev s__law_draw : Stmt := topS 10
theorem sc__law_draw : FnScope ["source", "size", "number", "drawn", "mixed"] ["source", "size"] (defScope s__law_draw) := ⟨rfl, rfl, rfl, by decide +kernel, rfl, by decide +kernel, by decide +kernel⟩
set_option maxHeartbeats 1000000 in
theorem ok__law_draw_p {P : Program} {w : World} {K : PySem.W.Frag} {mg : Str → Option Value} {base : Heap} {f : Addr} {fd : FuncData}  (D0 : DefAt K mg "_law_draw" s__law_draw ["source", "size"] f fd) (z_len : mg "len" = none) (z_int : mg "int" = none) : FnOk P w K mg base CX0 (1) f fd ["source", "size"] (toSp K sp__law_draw_p) := by
  refine fn_ok D0.F sc__law_draw (len__law_draw) fun B cdv A outer s H E hr => ⟨_, _, dss_cons (ds_if (dt_cmp do_ge (de_ix (dv 0) (de_int)) (de_callB dc_len (by rfl) z_len (by decide +kernel) (da_cons (de_ix (dv 0) (de_int)) (da_nil))))
      (dss_one (ds_ret (de_int)))
      (dss_nil))
    (dss_cons (ds_set 2 sc__law_draw.nd (de_ix (de_ix (dv 0) (de_int)) (de_ix (dv 0) (de_int))))
    (dss_cons (ds_if (dt_cmp do_lt (dv 2) (de_int))
      (dss_one (ds_set 2 sc__law_draw.nd (de_op do_sub (de_neg (de_int)) (dv 2))))
      (dss_nil))
    (dss_cons (ds_if (dt_cmp do_lt (de_ix (dv 0) (de_int)) (de_int))
      (dss_cons (ds_asg (dv 2) (dg_sub (dv 0) (de_int)))
      (dss_one (ds_asg (de_int) (dg_sub (dv 0) (de_int)))))
      (dss_nil))
    (dss_cons (ds_asg (de_op do_add (de_ix (dv 0) (de_int)) (de_int)) (dg_sub (dv 0) (de_int)))
    (dss_cons (ds_if (dt_cmp do_ge (dv 2) (de_op do_pow (de_int) (de_int)))
      (dss_cons (ds_set 3 sc__law_draw.nd (de_op do_mod (de_callTy dc_int (by rfl) z_int (by decide +kernel) (da_cons (de_ix (dv 0) (de_int)) (da_nil))) (dv 1)))
      (dss_cons (ds_asg (de_op do_div (de_ix (dv 0) (de_int)) (dv 1)) (dg_sub (dv 0) (de_int)))
      (dss_one (ds_if (DW.dt (dw_and (dt_cmp do_gt (de_ix (dv 0) (de_int)) (de_int)) (dw_and1 (dt_cmp do_lt (de_ix (dv 0) (de_int)) (de_int)))))
        (dss_one (ds_ret (dv 3)))
        (dss_nil)))))
      (dss_one (ds_if (dt_cmp (do_eq hr) (de_ix (dv 0) (de_int)) (de_int))
        (dss_cons (ds_set 4 sc__law_draw.nd (de_op do_mod (de_callTy dc_int (by rfl) z_int (by decide +kernel) (da_cons (de_op do_add (de_op do_add (de_op do_mul (dv 2) (de_int)) (de_op do_mul (de_ix (dv 0) (de_int)) (de_int))) (de_int)) (da_nil))) (de_int)))
        (dss_one (ds_ret (de_op do_mod (de_callTy dc_int (by rfl) z_int (by decide +kernel) (da_cons (de_op do_mod (de_callTy dc_int (by rfl) z_int (by decide +kernel) (da_cons (de_op do_add (de_op do_mul (dv 4) (de_int)) (de_int)) (da_nil))) (de_int)) (da_nil))) (dv 1)))))
        (dss_cons (ds_set 4 sc__law_draw.nd (de_op do_mod (de_callTy dc_int (by rfl) z_int (by decide +kernel) (da_cons (de_op do_add (de_op do_add (de_op do_mul (dv 2) (de_int)) (de_op do_mul (de_ix (dv 0) (de_int)) (de_int))) (de_int)) (da_nil))) (de_int)))
        (dss_one (ds_set 3 sc__law_draw.nd (de_op do_mod (de_callTy dc_int (by rfl) z_int (by decide +kernel) (da_cons (de_op do_mod (de_callTy dc_int (by rfl) z_int (by decide +kernel) (da_cons (de_op do_add (de_op do_mul (dv 4) (de_int)) (de_int)) (da_nil))) (de_int)) (da_nil))) (dv 1))))))))
    (dss_cons (ds_asg (de_op do_add (de_ix (dv 0) (de_int)) (de_int)) (dg_sub (dv 0) (de_int)))
    (dss_cons (ds_asg (de_neg (de_int)) (dg_sub (dv 0) (de_int)))
    (dss_one (ds_ret (dv 3)))))))))), ?_⟩
  rintro ds μ Q EE ⟨a, l, ns, p, r, c, sz, rfl, ne, ha, hl, p0, s0, s1, q⟩
  have nel : l ≠ a := fun e => ne e.symm
  walk_at "dl0"
  walk_at "s"
  simp [vw_pd, ha, hl]
  split
  · have := q 0 p r c (Int.le_refl 0) s0 p0
    rwa [mup_self ha] at this
  · next hb =>
    have hp : p.toNat < ns.length := by omega
    have hz : atI (ns.map D.int) p = some (.int (ns[p.toNat])) := by
      rw [atI_int p0, List.getElem?_map, List.getElem?_eq_getElem hp]; rfl
    subst hN
    revert hz
    generalize ns[p.toNat] = z
    intro hz
    walk_at "s"
    simp [vw_pd, ha, hl, hz]
    subst hN
    have c1 : CPow 10 18 := by unfold CPow; decide
    refine seq_cut (fun ρ μ' => μ = μ' ∧ ∃ z : Int, ρ = [some (.ptr a), some (.int sz), some (.int z), none, none]) (fun N hN => ?_) ?_
    · simp
      split
      · exact hN _ _ ⟨rfl, _, rfl⟩
      · exact hN _ _ ⟨rfl, _, rfl⟩
    rintro _ _ ⟨rfl, z', rfl⟩
    refine seq_cut (fun ρ μ' => ρ = [some (.ptr a), some (.int sz), some (.int z'), none, none] ∧ ∃ r c : Int, μ' = mup μ a (srcC l p r c)) (fun N hN => ?_) ?_
    · simp [vw_pd, ha]
      split
      · exact hN _ _ ⟨rfl, _, _, rfl⟩
      · exact hN _ _ ⟨rfl, r, c, (mup_self ha).symm⟩
    rintro _ _ ⟨rfl, r', c', rfl⟩
    walk_at "s"
    simp [vw_pd]
    subst hN
    have cm : ∀ x k : Int, -1000000000 ≤ k → k ≤ 1000000000 → CMul x k := fun x k h1 h2 => by unfold CMul; omega
    have cd : ∀ x : Int, CDiv x sz := fun x => by unfold CDiv; omega
    have hq : ∀ n r c, 0 ≤ p → Q (.int (n % sz)) (mup μ a (srcC l p r c)) := fun n r c _ => q _ p r c (Int.emod_nonneg _ (by omega)) (Int.emod_lt_of_pos _ s0) p0
    have hq1 : ∀ n r c, Q (.int (n % sz)) (mup μ a (srcC l (p + 1) r c)) := fun n r c => q _ (p + 1) r c (Int.emod_nonneg _ (by omega)) (Int.emod_lt_of_pos _ s0) (by omega)
    refine seq_cut (fun ρ μ' => ∃ (n r c : Int) (x : Option D), ρ = [some (.ptr a), some (.int sz), some (.int z'), some (.int (n % sz)), x] ∧ μ' = mup μ a (srcC l p r c)) (fun N hN => ?_) ?_
    · simp [vw_pd, szl, c1, cm, cd, s0]
      split
      · split
        · split
          · exact hq _ _ _ p0
          · exact hN _ _ ⟨_, _, _, _, rfl, rfl⟩
        · exact hN _ _ ⟨_, _, _, _, rfl, rfl⟩
      · split
        · exact hq _ _ _ p0
        · exact hN _ _ ⟨_, _, _, _, rfl, rfl⟩
    rintro _ _ ⟨n, r2, c2, x, rfl, rfl⟩
    walk_at "s"
    simp [vw_pd]
    subst hN
    walk_at "s"
    simp [vw_pd]
    subst hN
    simp
    exact hq1 _ _ _
theorem ok__law_draw {P : Program} {w : World} {K : PySem.W.Frag} {mg : Str → Option Value} {base : Heap} {f : Addr} {fd : FuncData}  (D0 : DefAt K mg "_law_draw" s__law_draw ["source", "size"] f fd) (z_len : mg "len" = none) (z_int : mg "int" = none) : FnOk P w K mg base CX0 1 f fd ["source", "size"] (toSp K sp__law_draw) := (ok__law_draw_p D0 z_len z_int).imp fun vs H Q E h => src_imp h
noncomputable def sp_fresh_number : DSp := fun ds μ Q _ => ∃ (u : D) (ns : List Int), ds = [u] ∧ vw μ u = .lst (ns.map .int) ∧ Q (.int (fresh ns)) μ
theorem len_fresh_number : ∀ ds μ Q E, sp_fresh_number ds μ Q E → ds.length = 1 := by
  rintro ds μ Q E ⟨u, ns, rfl, _⟩; rfl
@[simp ↓] theorem e_fresh_number {u : D} {μ : Mu} {Q : QD} {E : XDt} {ns : List Int} (h : vw μ u = .lst (ns.map .int)) (q : Q (.int (fresh ns)) μ) : sp_fresh_number [u] μ Q E := ⟨u, ns, rfl, h, q⟩
abbrev s_fresh_number : Stmt := topS 5
theorem sc_fresh_number : FnScope ["used", "number"] ["used"] (defScope s_fresh_number) := ⟨rfl, rfl, rfl, by decide +kernel, rfl, by decide +kernel, by decide +kernel⟩
set_option maxHeartbeats 1000000 in
theorem ok_fresh_number {P : Program} {w : World} {K : PySem.W.Frag} {mg : Str → Option Value} {base : Heap} {f : Addr} {fd : FuncData}  (D0 : DefAt K mg "fresh_number" s_fresh_number ["used"] f fd)  : FnOk P w K mg base CX0 (1) f fd ["used"] (toSp K sp_fresh_number) := by
  refine fn_ok D0.F sc_fresh_number (len_fresh_number) fun B cdv A outer s H E hr => ⟨_, _, dss_cons (ds_set 1 sc_fresh_number.nd (de_int))
    (dss_cons (ds_while PassesOwn.never (dt_cmp do_in (dv 1) (dv 0) (by rfl))
      (dss_one (ds_aug 1 sc_fresh_number.nd do_iadd (de_int))))
    (dss_one (ds_ret (dv 1)))), ?_⟩
  rintro ds μ Q EE ⟨u, ns, rfl, hu, q⟩
  walk_at "dl0"
  walk_at "s"
  simp
  subst hN
  walk_at "s"
  refine ⟨fun m ρ μ' => μ' = μ ∧ ∃ n : Int, ρ = [some u, some (.int n)] ∧ 0 ≤ n ∧ (∀ k, 0 ≤ k → k < n → k ∈ ns) ∧ m = ns.length + 1 - n.toNat, ⟨_, rfl, 0, rfl, Int.le_refl 0, fun k a b => by omega, rfl⟩, ?_⟩
  rintro m ρ μ' ⟨rfl, n, rfl, n0, hn, rfl⟩
  simp [hu]
  split
  · next h =>
    have hl : n.toNat + 1 ≤ ns.length := by
      refine fill_le (n.toNat + 1) ns fun k hk => ?_
      by_cases e : (k : Int) < n
      · exact hn k (by omega) e
      · have : (k : Int) = n := by omega
        rw [this]; exact h
    refine ⟨ns.length + 1 - (n + 1).toNat, by omega, by omega, fun k a b => ?_, rfl⟩
    by_cases e : k < n
    · exact hn k a e
    · have : k = n := by omega
      rw [this]; exact h
  · next h =>
    subst hN
    simp
    rwa [fresh_eq ⟨n0, h, hn⟩] at q
noncomputable def sp_longer_settings : DSp := fun ds μ Q _ => ∃ (u : D) (st : List (Str × Int)) (x : Str) (kn : List Int), ds = [u, .str x, .lst (kn.map .int)] ∧ vw μ u = .lst (st.map spairD) ∧ st.length + kn.length ≤ 1000 ∧
  ∀ ps μ', Sub μ μ' → NestC μ' ps (longerS kn st x) → Q (.lst (ps.map .ptr)) μ'
theorem len_longer_settings : ∀ ds μ Q E, sp_longer_settings ds μ Q E → ds.length = 3 := by
  rintro ds μ Q E ⟨u, st, x, kn, rfl, _⟩; rfl
abbrev s_longer_settings : Stmt := topS 6
theorem sc_longer_settings : FnScope ["setting", "name", "known", "used", "_", "number", "numbers"] ["setting", "name", "known"] (defScope s_longer_settings) := ⟨rfl, rfl, rfl, by decide +kernel, rfl, by decide +kernel, by decide +kernel⟩
set_option maxHeartbeats 1000000 in
theorem ok_longer_settings {P : Program} {w : World} {K : PySem.W.Frag} {mg : Str → Option Value} {base : Heap} {f : Addr} {fd : FuncData}  (D0 : DefAt K mg "longer_settings" s_longer_settings ["setting", "name", "known"] f fd) (c_fresh_number : Called P w K mg base 1 "fresh_number" ["used"] sp_fresh_number) : FnOk P w K mg base CX0 (2) f fd ["setting", "name", "known"] (toSp K sp_longer_settings) := by
  obtain ⟨f_fresh_number, d_fresh_number, m_fresh_number, k_fresh_number, b_fresh_number, F_fresh_number⟩ := c_fresh_number
  refine fn_ok D0.F sc_longer_settings (len_longer_settings) fun B cdv A outer s H E hr => ⟨_, _, dss_cons (ds_set 3 sc_longer_settings.nd (de_lst true (da_nil)))
    (dss_cons (ds_forK PassesOwn.never rfl (di_any (dv 0)) (dg_tup (n := 2) rfl (dgs_cons (dg_name 4 sc_longer_settings.nd) (dgs_cons (dg_name 5 sc_longer_settings.nd) (dgs_nil))))
      (dss_one (ds_if (DW.dt (dw_and (dt_cmp do_nin (dv 5) (dv 2) (by rfl)) (dw_and1 (dt_cmp do_nin (dv 5) (dv 3) (by rfl)))))
        (dss_one (ds_expr (de_bm PySem.F.plainAttrs_list PySem.F.slot_list_append PySem.F.type_list_append dm_append (dv 3) (da_cons (dv 5) (da_nil)))))
        (dss_nil))))
    (dss_cons (ds_set 6 sc_longer_settings.nd (de_op do_add (de_op do_add (dv 2) (dv 3)) (de_lst false (da_cons (de_call F_fresh_number (hr.mono (by decide)) m_fresh_number k_fresh_number b_fresh_number (da_cons (de_op do_add (dv 2) (dv 3)) (da_nil))) (da_nil)))))
    (dss_one (ds_ret (de_lcA false (own := [("number", 5)]) rfl sc_longer_settings.nd (di_list (dv 6)) (blkOk_by (N := ["setting", "name", "known", "used", "_", "number", "numbers"]) (sc := defScope s_longer_settings) (by decide +kernel)) (fun _ _ _ _ _ => dg_name 5 sc_longer_settings.nd) (keep_name (by decide)) (fun _ _ _ _ _ => dts_nil) (fun _ _ _ _ _ => de_op do_addC (dv 0) (de_lst false (da_cons (de_tup (da_cons (dv 1) (da_cons (dv 5) (da_nil)))) (da_nil))))))))), ?_⟩
  rintro ds μ Q EE ⟨u, st, x, kn, rfl, hu, hl, q⟩
  walk_at "dl0"
  walk_at "s"
  simp
  intro a ha
  subst hN
  walk_at "s"
  have hul := usedOf_len kn st
  have vu : ∀ us : List Int, vw (mup μ a (.lst (us.map .int))) u = .lst (st.map spairD) := fun us => by
    cases u with
    | ptr b =>
      rw [vw_pd] at hu ⊢
      by_cases e : b = a
      · subst e; rw [ha] at hu; cases hu
      · rwa [mup_ne e]
    | _ => exact hu
  refine forK_hide fun L hL => ?_
  have v0 := vu []
  simp only [List.map_nil] at v0
  simp [v0]
  rw [hL]
  refine loopK_it (fun r ρ μ' => ∃ (s1 s2 : List (Str × Int)) (k1 k2 : Option D), st = s1 ++ s2 ∧ r = s2.map spairD ∧ ρ = [some u, some (.str x), some (.lst (kn.map .int)), some (.ptr a), k1, k2, none] ∧ μ' = mup μ a (.lst ((s1.foldl (usedStep kn) []).map .int))) ⟨[], st, none, none, rfl, rfl, rfl, rfl⟩ ?_ ?_ ?_
  · rintro r ρ μ' ⟨s1, s2, k1, k2, e, rfl, rfl, rfl⟩
    have := vu (s1.foldl (usedStep kn) [])
    cases u with
    | ptr b =>
      rw [Stays_ptr]
      rw [vw_pd] at this
      split at this <;> first | cases this | skip
      · next h => rw [h]
    | _ => exact trivial
  · rintro ρ μ' ⟨s1, s2, k1, k2, e, h1, rfl, rfl⟩
    have h2 : s2 = [] := by simpa using h1.symm
    subst h2
    rw [List.append_nil] at e
    subst e
    rw [show st.foldl (usedStep kn) [] = usedOf kn st from rfl]
    show N _ _
    subst hN
    walk_at "s"
    simp [vw_pd, szl]
    refine ⟨by omega, e_fresh_number (ns := kn ++ usedOf kn st) (by simp) ⟨by omega, ?_⟩⟩
    subst hN
    have en : List.map D.int kn ++ (List.map D.int (usedOf kn st) ++ [D.int (fresh (kn ++ usedOf kn st))]) = (settNums kn st).map D.int := by simp [settNums]
    have lnum : (settNums kn st).length ≤ 2001 := by unfold settNums; simp; omega
    rw [en]
    simp
    intro p hp
    have hpa : p ≠ a := fun e => by subst e; simp at hp
    refine comp_ind' (acc := []) (fun r acc μ' => ∃ (n1 n2 : List Int) (ps : List Addr), settNums kn st = n1 ++ n2 ∧ r = n2.map .int ∧ acc = ps.map .ptr ∧ Sub (mup μ a (.lst ((usedOf kn st).map .int))) μ' ∧ NestC μ' ps (n1.map fun n => st ++ [(x, n)])) hp ⟨[], settNums kn st, [], rfl, rfl, rfl, Sub.refl _, NestC.nil⟩ (by simp [szl]; omega) ?_ ?_
    · rintro acc μ' h0 ⟨n1, n2, ps, e1, e2, rfl, hs, hn⟩
      have h3 : n2 = [] := by simpa using e2.symm
      subst h3
      rw [List.append_nil] at e1
      simp
      refine q ps _ (fun b c hb => ?_) ?_
      · have h4 : b ≠ p := fun e => by subst e; rw [mup_ne hpa] at hp; rw [hp] at hb; cases hb
        have h5 : b ≠ a := fun e => by subst e; rw [ha] at hb; cases hb
        rw [mdel_ne h4, mup_ne h4]
        exact hs b c (by rw [mup_ne h5]; exact hb)
      · refine ⟨by rw [hn.1]; unfold longerS; rw [e1], fun i b st' h6 h7 => ?_⟩
        have h8 := hn.2 i b st' h6 (by unfold longerS at h7; rwa [e1] at h7)
        have h9 : b ≠ p := fun e => by subst e; rw [h0] at h8; cases h8
        rw [mdel_ne h9, mup_ne h9]
        exact h8
    · rintro y r acc μ' M h0 ⟨n1, n2, ps, e1, e2, rfl, hs, hn⟩ hM hl2
      cases n2 with
      | nil => simp at e2
      | cons z n2 =>
        simp at e2
        obtain ⟨rfl, rfl⟩ := e2
        have vu2 : vw (mup μ' p (.lst (ps.map .ptr))) u = .lst (st.map spairD) := vw_lst_keep hu fun b eb hb => by
          subst eb
          have h5 : b ≠ a := fun e => by subst e; rw [ha] at hb; cases hb
          have h4 : b ≠ p := fun e => by subst e; rw [mup_ne hpa] at hp; rw [hp] at hb; cases hb
          rw [mup_ne h4]
          exact hs b _ (by rw [mup_ne h5]; exact hb)
        simp [vu2, szl]
        refine ⟨by omega, fun c hc => ?_⟩
        obtain ⟨hcp, hc⟩ := mup_none.mp hc
        have hll : ps.length ≤ 2001 := by
          have h6 := hn.1
          rw [e1] at lnum
          simp at h6 lnum
          omega
        refine ⟨_, by rw [mup_ne (Ne.symm hcp)]; exact mup_same, by simp; omega, ?_⟩
        have goal := hM (ps.map D.ptr ++ [D.ptr c]) (mup μ' c (.lst (st.map spairD ++ [.tup [.str x, .int z]]))) (by rw [mup_ne (Ne.symm hcp)]; exact h0) ⟨n1 ++ [z], n2, ps ++ [c], by simp [e1], rfl, by simp, hs.mup ?_, ?_⟩ (by simp)
        · rw [mup_comm (Ne.symm hcp), mup_mup]
          first | exact goal | (rw [mup_comm hcp] at goal; exact goal) | (rw [mup_comm (Ne.symm hcp)] at goal; exact goal)
        · cases hh : mup μ a (Cell.lst (List.map D.int (usedOf kn st))) c with
          | none => rfl
          | some o => have := hs c o hh; rw [hc] at this; cases this
        · rw [List.map_append]
          exact (hn.ext fun b o hb => by
            have : b ≠ c := fun e => by subst e; rw [hc] at hb; cases hb
            rw [mup_ne this]; exact hb).snoc (by simp [spairD])
  · rintro y r ρ μ' M ⟨s1, s2, k1, k2, e, h1, rfl, rfl⟩ hM
    cases s2 with
    | nil => simp at h1
    | cons z s2 =>
      simp at h1
      obtain ⟨rfl, rfl⟩ := h1
      subst e
      simp [spairD, vw_pd]
      have hfl := usedOf_len kn s1
      unfold usedOf at hfl
      simp at hl
      split
      · next h => exact hM _ _ ⟨s1 ++ [z], s2, _, _, by simp, rfl, rfl, by simp [usedStep, h]⟩
      · next h =>
        split
        · next h' => exact hM _ _ ⟨s1 ++ [z], s2, _, _, by simp, rfl, rfl, by simp [usedStep, h']⟩
        · next h' =>
          refine ⟨by rw [szl]; omega, hM _ _ ⟨s1 ++ [z], s2, _, _, by simp, rfl, rfl, ?_⟩⟩
          rw [List.foldl_append, List.foldl_cons, List.foldl_nil]
          rw [show usedStep kn (s1.foldl (usedStep kn) []) z = s1.foldl (usedStep kn) [] ++ [z.2] from if_neg (fun o => o.elim h h')]
          simp
noncomputable def sp_enough_settings (C : Addr) : DSp := fun ds μ Q E => ∃ (xs : List Str) (kn : List Int), ds = [.lst (xs.map .str), .lst (kn.map .int)] ∧ kn.length ≤ 3 ∧ xs.length ≤ 1000 ∧
  if 4 < xs.length then E (.ref C) [("many", .int xs.length)] μ else ∀ a ps μ', Sub μ μ' → μ a = none → μ' a = some (.lst (ps.map .ptr)) → (∀ p ∈ ps, p ≠ a) → NestC μ' ps (enoughS kn xs) → Q (.ptr a) μ'
theorem len_enough_settings (C : Addr) : ∀ ds μ Q E, sp_enough_settings C ds μ Q E → ds.length = 2 := by
  rintro ds μ Q E ⟨xs, kn, rfl, _⟩; rfl
abbrev s_enough_settings : Stmt := topS 7
theorem sc_enough_settings : FnScope ["unknowns", "known", "settings", "name", "setting", "longer"] ["unknowns", "known"] (defScope s_enough_settings) := ⟨rfl, rfl, rfl, by decide +kernel, rfl, by decide +kernel, by decide +kernel⟩
set_option maxHeartbeats 1000000 in
theorem ok_enough_settings {P : Program} {w : World} {K : PySem.W.Frag} {mg : Str → Option Value} {base : Heap} {f : Addr} {fd : FuncData} {C_TooMany : Addr} (D0 : DefAt K mg "enough_settings" s_enough_settings ["unknowns", "known"] f fd) (c_longer_settings : Called P w K mg base 2 "longer_settings" ["setting", "name", "known"] sp_longer_settings) (E_TooMany : ErrC P w K mg base C_TooMany "TooMany" "many") (z_len : mg "len" = none) (g_MOST_UNKNOWNS : Glob_MOST_UNKNOWNS K w mg) : FnOk P w K mg base (L2N.CX P w) (3) f fd ["unknowns", "known"] (toSp K (sp_enough_settings C_TooMany)) := by
  obtain ⟨f_longer_settings, d_longer_settings, m_longer_settings, k_longer_settings, b_longer_settings, F_longer_settings⟩ := c_longer_settings
  obtain ⟨t_MOST_UNKNOWNS, m_MOST_UNKNOWNS⟩ := g_MOST_UNKNOWNS
  refine fn_okX D0.F sc_enough_settings (len_enough_settings _) fun B EE cdv A outer s H E hr xr tk po => ⟨_, _, dss_cons (ds_if (dt_cmp do_gt (de_callB dc_len (by rfl) z_len (by decide +kernel) (da_cons (dv 0) (da_nil))) (de_glob (v := .int 4) (d := .int 4) (by rfl) m_MOST_UNKNOWNS ⟨_, rfl⟩ (fun _ => .int _)))
      (dss_one (ds_raise rfl tk xr (dm_errC E_TooMany (hr.mono (by decide)) (da_cons (de_callB dc_len (by rfl) z_len (by decide +kernel) (da_cons (dv 0) (da_nil))) (da_nil)))))
      (dss_nil))
    (dss_cons (ds_set 2 sc_enough_settings.nd (de_lst true (da_cons (de_lst true (da_nil)) (da_nil))))
    (dss_cons (ds_for po rfl (di_list (dv 0)) (dg_name 3 sc_enough_settings.nd)
      (dss_one (ds_setLc2A true (i := 2) (own := [("setting", 4), ("longer", 5)]) (vs1 := [5]) rfl sc_enough_settings.nd rfl rfl (sw_true rfl rfl rfl (by decide +kernel)) (di_list (de_frz (dv 2))) (blkOk_by (N := ["unknowns", "known", "settings", "name", "setting", "longer"]) (sc := defScope s_enough_settings) (by decide +kernel)) (by decide) (fun _ _ _ _ _ => dg_name 4 sc_enough_settings.nd) (keep_name (by decide)) (fun _ _ _ _ _ => dts_nil) (fun _ _ _ _ _ => di_list (de_call F_longer_settings (hr.mono (by decide)) m_longer_settings k_longer_settings b_longer_settings (da_cons (dv 4) (da_cons (dv 3) (da_cons (dv 1) (da_nil)))))) (fun _ _ _ _ _ => dg_name 5 sc_enough_settings.nd) (keep_name (by decide)) (fun _ _ _ _ _ => dts_nil) (fun _ _ _ _ _ => dv 5))))
    (dss_one (ds_ret (dv 2))))), ?_⟩
  rintro ds μ Q ⟨xs, kn, rfl, hk, hx, q⟩
  walk_at "dl0"
  walk_at "s"
  simp
  split
  · next h =>
    rw [if_pos (by omega)] at q
    exact q
  · next h =>
    rw [if_neg (by omega)] at q
    subst hN
    walk_at "s"
    simp
    intro b hb
    refine ⟨by rw [szl]; omega, fun a ha => ?_⟩
    obtain ⟨hab, ha⟩ := mup_none.mp ha
    subst hN
    walk_at "s"
    refine for_hide fun L hL => ?_
    simp
    rw [hL]
    refine loop_it (fun r ρ μ' => ∃ (d1 d2 : List Str) (a : Addr) (ps : List Addr) (k1 k2 k3 : Option D), xs = d1 ++ d2 ∧ r = d2.map .str ∧ ρ = [some (.lst (xs.map .str)), some (.lst (kn.map .int)), some (.ptr a), k1, k2, k3] ∧ Sub μ μ' ∧ μ a = none ∧ μ' a = some (.lst (ps.map .ptr)) ∧ (∀ p ∈ ps, p ≠ a) ∧ NestC μ' ps (enoughS kn d1))
      ⟨[], xs, a, [b], none, none, none, rfl, rfl, rfl, ((Sub.refl μ).mup hb).mup ha, ha, mup_same, fun p hp => by rw [List.mem_singleton.mp hp]; exact Ne.symm hab, NestC.snoc NestC.nil (by rw [mup_ne (Ne.symm hab)]; exact mup_same)⟩ ?_ ?_
    · rintro ρ μ' ⟨d1, d2, a, ps, k1, k2, k3, e, h1, rfl, hs, ha, hm, hne, hn⟩
      have h2 : d2 = [] := by simpa using h1.symm
      subst h2
      rw [List.append_nil] at e
      subst e
      show N _ _
      subst hN
      simp
      exact q a ps μ' hs ha hm hne hn
    · rintro y r ρ μ' M ⟨d1, d2, a, ps, k1, k2, k3, e, h1, rfl, hs, ha, hm, hne, hn⟩ hM
      cases d2 with
      | nil => simp at h1
      | cons z d2 =>
        simp at h1
        obtain ⟨rfl, rfl⟩ := h1
        have hl1 : d1.length ≤ 3 := by rw [e] at h; simp at h; omega
        obtain ⟨b1, b2⟩ := enoughS_ok hk d1.length d1 rfl (by omega)
        simp [hm]
        intro p hp
        have hpm : μ p = none := by
          by_cases e : p = a
          · rw [e]; exact ha
          · rw [mdel_ne e] at hp
            cases h9 : μ p with
            | none => rfl
            | some c => rw [hs p c h9] at hp; cases hp
        refine comp2_ind (acc := []) (fun r acc μ2 => ∃ (l1 l2 : List (List (Str × Int))) (q2 rs : List Addr), enoughS kn d1 = l1 ++ l2 ∧ r = q2.map .ptr ∧ NestC μ2 q2 l2 ∧ acc = rs.map .ptr ∧ Sub (mdel μ' a) μ2 ∧ NestC μ2 rs (stepS kn l1 z)) hp
          ⟨[], enoughS kn d1, ps, [], rfl, rfl, hn.each fun c st h1 h2 h3 => by rw [mdel_ne (hne c h1)]; exact h3, rfl, Sub.refl _, by simp [stepS]; exact NestC.nil⟩ ?_ ?_
        · rintro acc μ2 h0 ⟨l1, l2, q2, rs, e1, e2, n2, rfl, s2, n3⟩
          have h4 : q2 = [] := by simpa using e2.symm
          subst h4
          have h5 : l2 = [] := List.eq_nil_of_length_eq_zero n2.1.symm
          subst h5
          rw [List.append_nil] at e1
          have hrp : ∀ c ∈ rs, c ≠ p := fun c hc e6 => by
            obtain ⟨st, _, h7⟩ := n3.has hc
            rw [e6, h0] at h7
            cases h7
          refine hM _ _ ⟨d1 ++ [z], d2, p, rs, _, _, _, by rw [e]; simp, rfl, rfl, ?_, hpm, mup_same, hrp, ?_⟩
          · exact Sub.mup (fun c o h6 => s2 c o (by
              have : c ≠ a := fun e7 => by rw [e7, ha] at h6; cases h6
              rw [mdel_ne this]; exact hs c o h6)) hpm
          · rw [enoughS_snoc, e1]
            exact n3.each fun c st h6 _ h7 => by rw [mup_ne (hrp c h6)]; exact h7
        · rintro y r acc μ2 M2 h0 ⟨l1, l2, q2, rs, e1, e2, n2, rfl, s2, n3⟩ hM2
          cases q2 with
          | nil => simp at e2
          | cons c q2 =>
            simp at e2
            obtain ⟨rfl, rfl⟩ := e2
            obtain ⟨st, l3, rfl, h4, n4⟩ := n2.cons_inv
            have hcp : c ≠ p := fun e6 => by rw [e6, h0] at h4; cases h4
            have hst : st.length = d1.length := b2 st (by rw [e1]; simp)
            have hl3 : l1.length ≤ 512 := by
              have : l1.length ≤ (enoughS kn d1).length := by rw [e1]; simp
              have h5 : 8 ^ d1.length ≤ 8 ^ 3 := Nat.pow_le_pow_right (by decide) hl1
              omega
            have hrl : rs.length ≤ 8 * 512 := by
              rw [n3.1]
              have := stepS_len (x := z) (kn := kn) (i := d1.length) (by omega) (l := l1) fun t ht => b2 t (by rw [e1]; exact List.mem_append_left _ ht)
              omega
            simp
            refine ⟨.ptr c, st, z, kn, rfl, by rw [vw_pd, mup_ne hcp, h4], by omega, fun qs μ4 s4 n5 => ?_⟩
            have hql : qs.length ≤ 7 := by
              rw [n5.1]
              have := longerS_len kn st z
              omega
            have h4p : μ4 p = some (.lst (rs.map .ptr)) := s4 p _ mup_same
            simp
            rw [← mup_of_mdel h4p]
            refine comp_ind' (fun r acc' μ5 => μ5 = mdel μ4 p ∧ ∃ q1 q3, qs = q1 ++ q3 ∧ r = q3.map D.ptr ∧ acc' = rs.map D.ptr ++ q1.map D.ptr) mdel_same ⟨rfl, [], qs, rfl, rfl, by simp⟩ (by simp [szl]; omega) ?_ ?_
            · rintro acc' μ5 h6 ⟨rfl, q1, q3, rfl, e5, rfl⟩
              have h7 : q3 = [] := by simpa using e5.symm
              subst h7
              rw [List.append_nil] at n5
              refine hM2 _ _ h6 ⟨l1 ++ [st], l3, q2, rs ++ q1, by rw [e1]; simp, rfl, ?_, by simp, ?_, ?_⟩
              · refine n4.ext (Sub.mdel (fun c o h8 => s4 c o ?_) h0)
                have : c ≠ p := fun e9 => by rw [e9, h0] at h8; cases h8
                rw [mup_ne this]; exact h8
              · refine fun c o h8 => Sub.mdel (fun c o h8 => s4 c o ?_) h0 c o (s2 c o h8)
                have : c ≠ p := fun e9 => by rw [e9, h0] at h8; cases h8
                rw [mup_ne this]; exact h8
              · have e8 : stepS kn (l1 ++ [st]) z = stepS kn l1 z ++ longerS kn st z := by simp [stepS]
                rw [e8]
                refine NestC.append (n3.each fun c st _ _ h8 => ?_) (n5.each fun c st' h9 h10 h8 => ?_)
                · have : c ≠ p := fun e9 => by rw [e9, h0] at h8; cases h8
                  rw [mdel_ne this]
                  exact s4 c _ (by rw [mup_ne this]; exact h8)
                · have : c ≠ p := fun e9 => by
                    rw [e9, h4p] at h8
                    have h11 : st' ≠ [] := fun e => by have := longerS_each st' h10; rw [e] at this; simp at this
                    injection h8 with h8
                    injection h8 with h8
                    exact spair_ptr h11 h8.symm
                  rw [mdel_ne this]; exact h8
            · rintro y r acc' μ5 M3 h6 ⟨rfl, q1, q3, rfl, e5, rfl⟩ hM3 hl7
              cases q3 with
              | nil => simp at e5
              | cons v q3 =>
                simp at e5
                obtain ⟨rfl, rfl⟩ := e5
                simp
                refine ⟨by simp [szl] at hl7 ⊢; omega, ?_⟩
                have := hM3 (rs.map D.ptr ++ (q1 ++ [v]).map D.ptr) (mdel μ4 p) h6 ⟨rfl, q1 ++ [v], q3, by simp, rfl, rfl⟩ (by simp; omega)
                simpa using this
noncomputable def sp__law_longer : DSp := fun ds μ Q _ => ∃ (st : List (Str × Int)) (x : Str) (kn : List Int), ds = [.lst (st.map spairD), .str x, .lst (kn.map .int)] ∧ kn.length ≤ 3 ∧ st.length ≤ 4 ∧ Q (settD (longerS kn st x)) μ
theorem len__law_longer : ∀ ds μ Q E, sp__law_longer ds μ Q E → ds.length = 3 := by
  rintro ds μ Q E ⟨st, x, kn, rfl, _⟩; rfl
abbrev s__law_longer : Stmt := topS 14
theorem sc__law_longer : FnScope ["setting", "name", "written", "used", "pair", "fresh", "k", "number"] ["setting", "name", "written"] (defScope s__law_longer) := ⟨rfl, rfl, rfl, by decide +kernel, rfl, by decide +kernel, by decide +kernel⟩
set_option maxHeartbeats 1000000 in
theorem ok__law_longer {P : Program} {w : World} {K : PySem.W.Frag} {mg : Str → Option Value} {base : Heap} {f : Addr} {fd : FuncData}  (D0 : DefAt K mg "_law_longer" s__law_longer ["setting", "name", "written"] f fd) (z_range : mg "range" = none) : FnOk P w K mg base CX0 (1) f fd ["setting", "name", "written"] (toSp K sp__law_longer) := by
  refine fn_okF D0.F sc__law_longer (len__law_longer) fun B cdv A outer s H E hr => ⟨_, _, dss_cons (ds_set 3 sc__law_longer.nd (de_lst true (da_nil)))
    (dss_cons (ds_for PassesOwn.never rfl (di_list (dv 0)) (dg_name 4 sc__law_longer.nd)
      (dss_one (ds_if (DW.dt (dw_and (dt_cmp do_nin (de_ix (dv 4) (de_int)) (dv 2) (by rfl)) (dw_and1 (dt_cmp do_nin (de_ix (dv 4) (de_int)) (dv 3) (by rfl)))))
        (dss_one (ds_expr (de_bm PySem.F.plainAttrs_list PySem.F.slot_list_append PySem.F.type_list_append dm_append (dv 3) (da_cons (de_ix (dv 4) (de_int)) (da_nil)))))
        (dss_nil))))
    (dss_cons (ds_set 5 sc__law_longer.nd (de_int))
    (dss_cons (ds_for PassesOwn.never rfl (di_range1 (by rfl) z_range (da_cons (de_int) (da_nil))) (dg_name 6 sc__law_longer.nd)
      (dss_one (ds_if (DW.dt (dw_or (dt_cmp do_in (dv 5) (dv 2) (by rfl)) (dw_or1 (dt_cmp do_in (dv 5) (dv 3) (by rfl)))))
        (dss_one (ds_set 5 sc__law_longer.nd (de_op do_add (dv 5) (de_int))))
        (dss_nil))))
    (dss_one (ds_ret (de_lcA false (own := [("number", 7)]) rfl sc__law_longer.nd (di_list (de_op do_add (de_op do_add (dv 2) (dv 3)) (de_lst false (da_cons (dv 5) (da_nil))))) (blkOk_by (N := ["setting", "name", "written", "used", "pair", "fresh", "k", "number"]) (sc := defScope s__law_longer) (by decide +kernel)) (fun _ _ _ _ _ => dg_name 7 sc__law_longer.nd) (keep_name (by decide)) (fun _ _ _ _ _ => dts_nil) (fun _ _ _ _ _ => de_op do_add (dv 0) (de_lst false (da_cons (de_tup (da_cons (dv 1) (da_cons (dv 7) (da_nil)))) (da_nil)))))))))), ?_⟩
  rintro ds μ Q EE ⟨st, x, kn, rfl, hk, hs, q⟩
  walk_at "dl0"
  walk_at "s"
  simp
  intro a ha
  subst hN
  walk_at "s"
  refine for_hide fun L hL => ?_
  simp
  rw [hL]
  refine loop_it (fun r ρ μ' => ∃ (s1 s2 : List (Str × Int)) (k1 : Option D), st = s1 ++ s2 ∧ r = s2.map spairD ∧ ρ = [some (.lst (st.map spairD)), some (.str x), some (.lst (kn.map .int)), some (.ptr a), k1, none, none, none] ∧ μ' = mup μ a (.lst ((usedOf kn s1).map .int))) ⟨[], st, none, rfl, rfl, rfl, rfl⟩ ?_ ?_
  · rintro ρ μ' ⟨s1, s2, k1, e, h1, rfl, rfl⟩
    have h2 : s2 = [] := by simpa using h1.symm
    subst h2
    rw [List.append_nil] at e
    subst e
    show N _ _
    subst hN
    walk_at "s"
    simp
    subst hN
    walk_at "s"
    refine for_hide fun L hL => ?_
    simp
    rw [hL]
    have hul := usedOf_len kn st
    have nin : ∀ n, n ∈ kn ++ usedOf kn st ↔ n ∈ kn ∨ n ∈ usedOf kn st := fun n => List.mem_append
    refine loop_rng (fun j ρ μ' => ∃ (n : Int) (k2 : Option D), ρ = [some (.lst (st.map spairD)), some (.str x), some (.lst (kn.map .int)), some (.ptr a), k1, some (.int n), k2, none] ∧ μ' = mup μ a (.lst ((usedOf kn st).map .int)) ∧ 0 ≤ n ∧ n ≤ j ∧ (∀ m, 0 ≤ m → m < n → m ∈ kn ++ usedOf kn st) ∧ (n = j ∨ n ∉ kn ++ usedOf kn st)) (by decide) ⟨0, none, rfl, rfl, by omega, by omega, fun m a b => by omega, .inl rfl⟩ ?_ ?_
    · rintro ρ μ' ⟨n, k2, rfl, rfl, n0, n1, hn, ho⟩
      have hf : Fresh (kn ++ usedOf kn st) n := by
        refine ⟨n0, ?_, hn⟩
        rcases ho with ho | ho
        · intro _
          have := fill_le 20 (kn ++ usedOf kn st) fun m hm => hn m (by omega) (by omega)
          simp at this
          omega
        · exact ho
      show N _ _
      subst hN
      simp [vw_pd, szl]
      have ef := fresh_eq hf
      refine ⟨by omega, by omega, fun p hp => ?_⟩
      obtain ⟨hpa, hp⟩ := mup_none.mp hp
      have en : List.map D.int kn ++ (List.map D.int (usedOf kn st) ++ [D.int n]) = (settNums kn st).map D.int := by simp [settNums, ef]
      have ln : (settNums kn st).length ≤ 8 := by unfold settNums; simp; omega
      rw [en]
      refine comp_ind' (acc := []) (fun r acc μ' => μ' = mup μ a (.lst ((usedOf kn st).map .int)) ∧ ∃ n1 n2 : List Int, settNums kn st = n1 ++ n2 ∧ r = n2.map .int ∧ acc = n1.map fun n => D.lst ((st ++ [(x, n)]).map spairD)) (by rw [mup_ne hpa]; exact hp) ⟨rfl, [], settNums kn st, rfl, rfl, rfl⟩ (by simp [szl]; omega) ?_ ?_
      · rintro acc μ' h0 ⟨rfl, n1, n2, e1, e2, rfl⟩
        have h3 : n2 = [] := by simpa using e2.symm
        subst h3
        rw [List.append_nil] at e1
        simp only [mup_same]
        refine .to (μ0 := μ) ?_ (((Sub.refl μ).mup ha).mup hp |>.mdel hp)
        rw [show settD (longerS kn st x) = D.lst (n1.map fun n => D.lst ((st ++ [(x, n)]).map spairD)) by unfold settD longerS; rw [e1, List.map_map]; rfl] at q
        exact q
      · rintro y r acc μ' M h0 ⟨rfl, n1, n2, e1, e2, rfl⟩ hM hl2
        cases n2 with
        | nil => simp at e2
        | cons z n2 =>
          simp at e2
          obtain ⟨rfl, rfl⟩ := e2
          simp [szl] at hl2 ⊢
          refine ⟨by omega, by omega, ?_⟩
          have := hM (n1.map (fun n => D.lst ((st ++ [(x, n)]).map spairD)) ++ [.lst ((st ++ [(x, z)]).map spairD)]) _ h0 ⟨rfl, n1 ++ [z], n2, by simp [e1], rfl, by simp⟩ (by simp)
          simpa [spairD] using this
    · rintro j ρ μ' M j0 j1 ⟨n, k2, rfl, rfl, n0, n1, hn, ho⟩ hM
      simp [vw_pd]
      have up : n ∈ kn ++ usedOf kn st → ∃ (n' : Int) (k' : Option D), [some (D.lst (st.map spairD)), some (.str x), some (.lst (kn.map .int)), some (.ptr a), k1, some (.int (n + 1)), some (.int j), none] = [some (.lst (st.map spairD)), some (.str x), some (.lst (kn.map .int)), some (.ptr a), k1, some (.int n'), k', none] ∧ mup μ a (.lst ((usedOf kn st).map .int)) = mup μ a (.lst ((usedOf kn st).map .int)) ∧ 0 ≤ n' ∧ n' ≤ j + 1 ∧ (∀ m, 0 ≤ m → m < n' → m ∈ kn ++ usedOf kn st) ∧ (n' = j + 1 ∨ n' ∉ kn ++ usedOf kn st) := fun h => by
        refine ⟨n + 1, some (.int j), rfl, rfl, by omega, by omega, fun m m0 m1 => ?_, ?_⟩
        · by_cases e : m < n
          · exact hn m m0 e
          · have : m = n := by omega
            rw [this]; exact h
        · rcases ho with ho | ho
          · exact .inl (by omega)
          · exact absurd h ho
      split
      · next h => exact hM _ _ (up ((nin n).mpr (.inl h)))
      · next h =>
        split
        · next h' => exact hM _ _ (up ((nin n).mpr (.inr h')))
        · next h' => exact hM _ _ ⟨n, _, rfl, rfl, n0, by omega, hn, .inr fun o => ((nin n).mp o).elim h h'⟩
  · rintro y r ρ μ' M ⟨s1, s2, k1, e, h1, rfl, rfl⟩ hM
    cases s2 with
    | nil => simp at h1
    | cons z s2 =>
      simp at h1
      obtain ⟨rfl, rfl⟩ := h1
      subst e
      simp [vw_pd]
      rw [show spairD z = .tup [.str z.1, .int z.2] from rfl]
      simp
      have hfl := usedOf_len kn s1
      simp at hs
      have us : ∀ o, usedStep kn (usedOf kn s1) z = o → usedOf kn (s1 ++ [z]) = o := fun o h => by unfold usedOf; rw [List.foldl_append]; exact h
      split
      · next h => exact hM _ _ ⟨s1 ++ [z], s2, some (spairD z), by simp, rfl, by simp [spairD], by rw [us _ (if_pos (.inl h))]⟩
      · next h =>
        split
        · next h' => exact hM _ _ ⟨s1 ++ [z], s2, some (spairD z), by simp, rfl, by simp [spairD], by rw [us _ (if_pos (.inr h'))]⟩
        · next h' => exact ⟨by rw [szl]; omega, hM _ _ ⟨s1 ++ [z], s2, some (spairD z), by simp, rfl, by simp [spairD], by rw [us _ (if_neg (fun o => o.elim h h'))]; simp⟩⟩

abbrev s__law_same_row : Stmt := topS 11
theorem sc__law_same_row : FnScope ["actual", "expected", "k"] ["actual", "expected"] (defScope s__law_same_row) := ⟨rfl, rfl, rfl, by decide +kernel, rfl, by decide +kernel, by decide +kernel⟩
set_option maxHeartbeats 1000000 in
theorem okH__law_same_row_n (n : Nat) {P : Program} {w : World} {K : PySem.W.Frag} {mg : Str → Option Value} {base : Heap} {f : Addr} {fd : FuncData}  (D0 : DefAt K mg "_law_same_row" s__law_same_row ["actual", "expected"] f fd) (c__law_same : CalledH P w K mg base (2*n+1) "_law_same" ["actual", "expected"] (sp_same n)) (z_len : mg "len" = none) (z_range : mg "range" = none) : FnH P w K mg base CX0 (2*n+2) f fd ["actual", "expected"] (toSp K (sp_row n)) := by
  obtain ⟨f__law_same, d__law_same, m__law_same, k__law_same, b__law_same, F__law_same⟩ := c__law_same
  refine fn_okH D0.F sc__law_same_row ((len_row n)) fun B cdv A outer s H E p hr hc => ⟨_, _, dss_cons (ds_if (dt_cmp (do_neH hr) (de_callB dc_len (by rfl) z_len (by decide +kernel) (da_cons (dv 0) (da_nil))) (de_callB dc_len (by rfl) z_len (by decide +kernel) (da_cons (dv 1) (da_nil))))
      (dss_one (ds_ret (de_bl)))
      (dss_nil))
    (dss_cons (ds_forH PassesOwn.leaving hc (di_range1H (by rfl) z_range (da_cons (de_callB dc_len (by rfl) z_len (by decide +kernel) (da_cons (dv 1) (da_nil))) (da_nil))) (dg_name 2 sc__law_same_row.nd)
      (dss_one (ds_if (dt_not (dt_tru (de_callH F__law_same (hr.mono (by omega)) hc m__law_same k__law_same b__law_same (da_cons (de_ix (dv 0) (dv 2)) (da_cons (de_ix (dv 1) (dv 2)) (da_nil))))))
        (dss_one (ds_ret (de_bl)))
        (dss_nil))))
    (dss_one (ds_ret (de_bl)))), ?_⟩
  rintro ds μ Q EE ⟨x, y, xs, ys, as, bs, rfl, h, l1, l2, d1, d2, q⟩
  walk_at "dl0"
  rcases h with ⟨h1, h2⟩ | ⟨h1, h2⟩
  · simp [h1, h2]
    split
    · next h =>
      have hlen : xs.length = ys.length := by omega
      have la := dvs_len d1
      have lb := dvs_len d2
      refine ⟨by omega, loop_rng (fun j ρ μ' => μ' = μ ∧ (∃ k, ρ = [some x, some y, k]) ∧ ∀ i : Nat, (i : Int) < j → as[i]? = bs[i]?) (by omega) ⟨rfl, ⟨none, rfl⟩, by intros; omega⟩ ?_ ?_⟩
      · rintro ρ μ' ⟨rfl, ⟨k, rfl⟩, hi⟩
        have e : as = bs := List.ext_getElem? fun i => by
          by_cases hj : i < ys.length
          · exact hi i (by omega)
          · rw [List.getElem?_eq_none (by omega), List.getElem?_eq_none (by omega)]
        subst e
        rw [eqD_self] at q
        simp; exact q
      · rintro j ρ μ' N j0 j1 ⟨rfl, ⟨k, rfl⟩, hi⟩ hN
        have a1 : atI xs j = some xs[j.toNat] := by rw [atI_int j0]; exact List.getElem?_eq_getElem (by omega)
        have a2 : atI ys j = some ys[j.toNat] := by rw [atI_int j0]; exact List.getElem?_eq_getElem (by omega)
        obtain ⟨t1, p1, g1⟩ := dvs_get d1 j.toNat _ (List.getElem?_eq_getElem (by omega))
        obtain ⟨t2, p2, g2⟩ := dvs_get d2 j.toNat _ (List.getElem?_eq_getElem (by omega))
        simp [h1, h2, a1, a2, p1, p2]
        split
        · next e =>
          refine hN _ _ ⟨rfl, ⟨_, rfl⟩, fun i hi' => ?_⟩
          by_cases h9 : (i : Int) < j
          · exact hi i h9
          · have : i = j.toNat := by omega
            subst this
            rw [g1, g2]
            congr 1
            exact eqD_iff.mp e
        · next e =>
          rw [eqD_no.mpr] at q
          · exact q
          · intro e'
            cases e'
            rw [g1] at g2
            cases g2
            exact e eqD_self
    · next h =>
      have la := dvs_len d1
      have lb := dvs_len d2
      rw [eqD_no.mpr] at q
      · exact q
      · intro e; cases e; exact h (by omega)
  · simp [h1, h2]
    split
    · next h =>
      have hlen : xs.length = ys.length := by omega
      have la := dvs_len d1
      have lb := dvs_len d2
      refine ⟨by omega, loop_rng (fun j ρ μ' => μ' = μ ∧ (∃ k, ρ = [some x, some y, k]) ∧ ∀ i : Nat, (i : Int) < j → as[i]? = bs[i]?) (by omega) ⟨rfl, ⟨none, rfl⟩, by intros; omega⟩ ?_ ?_⟩
      · rintro ρ μ' ⟨rfl, ⟨k, rfl⟩, hi⟩
        have e : as = bs := List.ext_getElem? fun i => by
          by_cases hj : i < ys.length
          · exact hi i (by omega)
          · rw [List.getElem?_eq_none (by omega), List.getElem?_eq_none (by omega)]
        subst e
        rw [eqD_self] at q
        simp; exact q
      · rintro j ρ μ' N j0 j1 ⟨rfl, ⟨k, rfl⟩, hi⟩ hN
        have a1 : atI xs j = some xs[j.toNat] := by rw [atI_int j0]; exact List.getElem?_eq_getElem (by omega)
        have a2 : atI ys j = some ys[j.toNat] := by rw [atI_int j0]; exact List.getElem?_eq_getElem (by omega)
        obtain ⟨t1, p1, g1⟩ := dvs_get d1 j.toNat _ (List.getElem?_eq_getElem (by omega))
        obtain ⟨t2, p2, g2⟩ := dvs_get d2 j.toNat _ (List.getElem?_eq_getElem (by omega))
        simp [h1, h2, a1, a2, p1, p2]
        split
        · next e =>
          refine hN _ _ ⟨rfl, ⟨_, rfl⟩, fun i hi' => ?_⟩
          by_cases h9 : (i : Int) < j
          · exact hi i h9
          · have : i = j.toNat := by omega
            subst this
            rw [g1, g2]
            congr 1
            exact eqD_iff.mp e
        · next e =>
          rw [eqD_no.mpr] at q
          · exact q
          · intro e'
            cases e'
            rw [g1] at g2
            cases g2
            exact e eqD_self
    · next h =>
      have la := dvs_len d1
      have lb := dvs_len d2
      rw [eqD_no.mpr] at q
      · exact q
      · intro e; cases e; exact h (by omega)
set_option maxHeartbeats 1000000 in
theorem ok__law_same_row_n (n : Nat) {P : Program} {w : World} {K : PySem.W.Frag} {mg : Str → Option Value} {base : Heap} {f : Addr} {fd : FuncData}  (D0 : DefAt K mg "_law_same_row" s__law_same_row ["actual", "expected"] f fd) (c__law_same : Called P w K mg base (2*n+1) "_law_same" ["actual", "expected"] (sp_same n)) (z_len : mg "len" = none) (z_range : mg "range" = none) : FnOk P w K mg base CX0 (2*n+2) f fd ["actual", "expected"] (toSp K (sp_row n)) := by
  obtain ⟨f__law_same, d__law_same, m__law_same, k__law_same, b__law_same, F__law_same⟩ := c__law_same
  refine fn_ok D0.F sc__law_same_row ((len_row n)) fun B cdv A outer s H E hr => ⟨_, _, dss_cons (ds_if (dt_cmp (do_ne hr) (de_callB dc_len (by rfl) z_len (by decide +kernel) (da_cons (dv 0) (da_nil))) (de_callB dc_len (by rfl) z_len (by decide +kernel) (da_cons (dv 1) (da_nil))))
      (dss_one (ds_ret (de_bl)))
      (dss_nil))
    (dss_cons (ds_for PassesOwn.never rfl (di_range1 (by rfl) z_range (da_cons (de_callB dc_len (by rfl) z_len (by decide +kernel) (da_cons (dv 1) (da_nil))) (da_nil))) (dg_name 2 sc__law_same_row.nd)
      (dss_one (ds_if (dt_not (dt_tru (de_call F__law_same (hr.mono (by omega)) m__law_same k__law_same b__law_same (da_cons (de_ix (dv 0) (dv 2)) (da_cons (de_ix (dv 1) (dv 2)) (da_nil))))))
        (dss_one (ds_ret (de_bl)))
        (dss_nil))))
    (dss_one (ds_ret (de_bl)))), ?_⟩
  rintro ds μ Q EE ⟨x, y, xs, ys, as, bs, rfl, h, l1, l2, d1, d2, q⟩
  walk_at "dl0"
  rcases h with ⟨h1, h2⟩ | ⟨h1, h2⟩
  · simp [h1, h2]
    split
    · next h =>
      have hlen : xs.length = ys.length := by omega
      have la := dvs_len d1
      have lb := dvs_len d2
      refine ⟨by omega, loop_rng (fun j ρ μ' => μ' = μ ∧ (∃ k, ρ = [some x, some y, k]) ∧ ∀ i : Nat, (i : Int) < j → as[i]? = bs[i]?) (by omega) ⟨rfl, ⟨none, rfl⟩, by intros; omega⟩ ?_ ?_⟩
      · rintro ρ μ' ⟨rfl, ⟨k, rfl⟩, hi⟩
        have e : as = bs := List.ext_getElem? fun i => by
          by_cases hj : i < ys.length
          · exact hi i (by omega)
          · rw [List.getElem?_eq_none (by omega), List.getElem?_eq_none (by omega)]
        subst e
        rw [eqD_self] at q
        simp; exact q
      · rintro j ρ μ' N j0 j1 ⟨rfl, ⟨k, rfl⟩, hi⟩ hN
        have a1 : atI xs j = some xs[j.toNat] := by rw [atI_int j0]; exact List.getElem?_eq_getElem (by omega)
        have a2 : atI ys j = some ys[j.toNat] := by rw [atI_int j0]; exact List.getElem?_eq_getElem (by omega)
        obtain ⟨t1, p1, g1⟩ := dvs_get d1 j.toNat _ (List.getElem?_eq_getElem (by omega))
        obtain ⟨t2, p2, g2⟩ := dvs_get d2 j.toNat _ (List.getElem?_eq_getElem (by omega))
        simp [h1, h2, a1, a2, p1, p2]
        split
        · next e =>
          refine hN _ _ ⟨rfl, ⟨_, rfl⟩, fun i hi' => ?_⟩
          by_cases h9 : (i : Int) < j
          · exact hi i h9
          · have : i = j.toNat := by omega
            subst this
            rw [g1, g2]
            congr 1
            exact eqD_iff.mp e
        · next e =>
          rw [eqD_no.mpr] at q
          · exact q
          · intro e'
            cases e'
            rw [g1] at g2
            cases g2
            exact e eqD_self
    · next h =>
      have la := dvs_len d1
      have lb := dvs_len d2
      rw [eqD_no.mpr] at q
      · exact q
      · intro e; cases e; exact h (by omega)
  · simp [h1, h2]
    split
    · next h =>
      have hlen : xs.length = ys.length := by omega
      have la := dvs_len d1
      have lb := dvs_len d2
      refine ⟨by omega, loop_rng (fun j ρ μ' => μ' = μ ∧ (∃ k, ρ = [some x, some y, k]) ∧ ∀ i : Nat, (i : Int) < j → as[i]? = bs[i]?) (by omega) ⟨rfl, ⟨none, rfl⟩, by intros; omega⟩ ?_ ?_⟩
      · rintro ρ μ' ⟨rfl, ⟨k, rfl⟩, hi⟩
        have e : as = bs := List.ext_getElem? fun i => by
          by_cases hj : i < ys.length
          · exact hi i (by omega)
          · rw [List.getElem?_eq_none (by omega), List.getElem?_eq_none (by omega)]
        subst e
        rw [eqD_self] at q
        simp; exact q
      · rintro j ρ μ' N j0 j1 ⟨rfl, ⟨k, rfl⟩, hi⟩ hN
        have a1 : atI xs j = some xs[j.toNat] := by rw [atI_int j0]; exact List.getElem?_eq_getElem (by omega)
        have a2 : atI ys j = some ys[j.toNat] := by rw [atI_int j0]; exact List.getElem?_eq_getElem (by omega)
        obtain ⟨t1, p1, g1⟩ := dvs_get d1 j.toNat _ (List.getElem?_eq_getElem (by omega))
        obtain ⟨t2, p2, g2⟩ := dvs_get d2 j.toNat _ (List.getElem?_eq_getElem (by omega))
        simp [h1, h2, a1, a2, p1, p2]
        split
        · next e =>
          refine hN _ _ ⟨rfl, ⟨_, rfl⟩, fun i hi' => ?_⟩
          by_cases h9 : (i : Int) < j
          · exact hi i h9
          · have : i = j.toNat := by omega
            subst this
            rw [g1, g2]
            congr 1
            exact eqD_iff.mp e
        · next e =>
          rw [eqD_no.mpr] at q
          · exact q
          · intro e'
            cases e'
            rw [g1] at g2
            cases g2
            exact e eqD_self
    · next h =>
      have la := dvs_len d1
      have lb := dvs_len d2
      rw [eqD_no.mpr] at q
      · exact q
      · intro e; cases e; exact h (by omega)

abbrev s__law_same : Stmt := topS 12
theorem sc__law_same : FnScope ["actual", "expected"] ["actual", "expected"] (defScope s__law_same) := ⟨rfl, rfl, rfl, by decide +kernel, rfl, by decide +kernel, by decide +kernel⟩
set_option maxHeartbeats 1000000 in
theorem okH__law_same_n (n : Nat) {P : Program} {w : World} {K : PySem.W.Frag} {mg : Str → Option Value} {base : Heap} {f : Addr} {fd : FuncData}  (D0 : DefAt K mg "_law_same" s__law_same ["actual", "expected"] f fd) (c__law_same_row : CalledH P w K mg base (2*n) "_law_same_row" ["actual", "expected"] (sp_rowN n)) (z_isinstance : mg "isinstance" = none) (z_bool : mg "bool" = none) (z_int : mg "int" = none) (z_str : mg "str" = none) (z_list : mg "list" = none) (z_tuple : mg "tuple" = none) : FnH P w K mg base CX0 (2*n+1) f fd ["actual", "expected"] (toSp K (sp_same n)) := by
  obtain ⟨f__law_same_row, d__law_same_row, m__law_same_row, k__law_same_row, b__law_same_row, F__law_same_row⟩ := c__law_same_row
  refine fn_okH D0.F sc__law_same ((len_same n)) fun B cdv A outer s H E p hr hc => ⟨_, _, dss_cons (ds_if (dt_cmp do_is (dv 1) (de_non))
      (dss_one (ds_ret (de_cmp do_is (dv 0) (de_non))))
      (dss_nil))
    (dss_cons (ds_if (dt_tru (de_isi "bool" (by decide) (dv 1) z_isinstance z_bool (by decide +kernel)))
      (dss_one (ds_ret (de_and (de_isi "bool" (by decide) (dv 0) z_isinstance z_bool (by decide +kernel)) (de_one (de_cmp (do_eqH hr) (dv 0) (dv 1))))))
      (dss_nil))
    (dss_cons (ds_if (dt_tru (de_isi "int" (by decide) (dv 1) z_isinstance z_int (by decide +kernel)))
      (dss_one (ds_ret (de_and (de_isi "int" (by decide) (dv 0) z_isinstance z_int (by decide +kernel)) (de_and (de_not (de_isi "bool" (by decide) (dv 0) z_isinstance z_bool (by decide +kernel))) (de_one (de_cmp (do_eqH hr) (dv 0) (dv 1)))))))
      (dss_nil))
    (dss_cons (ds_if (dt_tru (de_isi "str" (by decide) (dv 1) z_isinstance z_str (by decide +kernel)))
      (dss_one (ds_ret (de_and (de_isi "str" (by decide) (dv 0) z_isinstance z_str (by decide +kernel)) (de_one (de_cmp (do_eqH hr) (dv 0) (dv 1))))))
      (dss_nil))
    (dss_cons (ds_if (dt_tru (de_isi "list" (by decide) (dv 1) z_isinstance z_list (by decide +kernel)))
      (dss_one (ds_ret (de_and (de_isi "list" (by decide) (dv 0) z_isinstance z_list (by decide +kernel)) (de_one (de_callH F__law_same_row (hr.mono (by omega)) hc m__law_same_row k__law_same_row b__law_same_row (da_cons (dv 0) (da_cons (dv 1) (da_nil))))))))
      (dss_nil))
    (dss_one (ds_ret (de_and (de_isi "tuple" (by decide) (dv 0) z_isinstance z_tuple (by decide +kernel)) (de_one (de_callH F__law_same_row (hr.mono (by omega)) hc m__law_same_row k__law_same_row b__law_same_row (da_cons (dv 0) (da_cons (dv 1) (da_nil)))))))))))), ?_⟩
  rintro ds μ Q EE ⟨x, y, a, b, rfl, p1, p2, q⟩
  walk_at "dl0"
  have nx : isNonD x = isNonD (vw μ x) := isNonD_vw
  have ny : isNonD y = isNonD (vw μ y) := isNonD_vw
  rcases dview_cases p1 with ⟨rfl, e1⟩ | ⟨b1, rfl, e1⟩ | ⟨b1, rfl, e1⟩ | ⟨b1, rfl, e1⟩ | ⟨m1, xs, as, z1, rfl, e1, l1, k1⟩ | ⟨m1, xs, as, z1, rfl, e1, l1, k1⟩ <;> rcases dview_cases p2 with ⟨rfl, e2⟩ | ⟨b2, rfl, e2⟩ | ⟨b2, rfl, e2⟩ | ⟨b2, rfl, e2⟩ | ⟨m2, ys, bs, z2, rfl, e2, l2, k2⟩ | ⟨m2, ys, bs, z2, rfl, e2, l2, k2⟩ <;> rw [e1] at nx <;> rw [e2] at ny <;> simp [-isNonD, nx, ny, e1, e2, nd_n, nd_b, nd_i, nd_s, nd_l, nd_t]
  all_goals first
    | (rw [eqD_no.mpr (by simp)] at q; exact q)
    | (rw [eqD_self] at q; exact q)
    | (simp only [eqD_b, eqD_i, eqD_s] at q; exact q)
    | (subst z1
       cases z2
       first
         | exact ⟨x, y, _, _, _, _, rfl, .inl ⟨e1, e2⟩, l1, l2, k1, k2, q⟩
         | (rw [eqD_t] at q; exact ⟨x, y, _, _, _, _, rfl, .inr ⟨e1, e2⟩, l1, l2, k1, k2, q⟩))
set_option maxHeartbeats 1000000 in
theorem ok__law_same_n (n : Nat) {P : Program} {w : World} {K : PySem.W.Frag} {mg : Str → Option Value} {base : Heap} {f : Addr} {fd : FuncData}  (D0 : DefAt K mg "_law_same" s__law_same ["actual", "expected"] f fd) (c__law_same_row : Called P w K mg base (2*n) "_law_same_row" ["actual", "expected"] (sp_rowN n)) (z_isinstance : mg "isinstance" = none) (z_bool : mg "bool" = none) (z_int : mg "int" = none) (z_str : mg "str" = none) (z_list : mg "list" = none) (z_tuple : mg "tuple" = none) : FnOk P w K mg base CX0 (2*n+1) f fd ["actual", "expected"] (toSp K (sp_same n)) := by
  obtain ⟨f__law_same_row, d__law_same_row, m__law_same_row, k__law_same_row, b__law_same_row, F__law_same_row⟩ := c__law_same_row
  refine fn_ok D0.F sc__law_same ((len_same n)) fun B cdv A outer s H E hr => ⟨_, _, dss_cons (ds_if (dt_cmp do_is (dv 1) (de_non))
      (dss_one (ds_ret (de_cmp do_is (dv 0) (de_non))))
      (dss_nil))
    (dss_cons (ds_if (dt_tru (de_isi "bool" (by decide) (dv 1) z_isinstance z_bool (by decide +kernel)))
      (dss_one (ds_ret (de_and (de_isi "bool" (by decide) (dv 0) z_isinstance z_bool (by decide +kernel)) (de_one (de_cmp (do_eq hr) (dv 0) (dv 1))))))
      (dss_nil))
    (dss_cons (ds_if (dt_tru (de_isi "int" (by decide) (dv 1) z_isinstance z_int (by decide +kernel)))
      (dss_one (ds_ret (de_and (de_isi "int" (by decide) (dv 0) z_isinstance z_int (by decide +kernel)) (de_and (de_not (de_isi "bool" (by decide) (dv 0) z_isinstance z_bool (by decide +kernel))) (de_one (de_cmp (do_eq hr) (dv 0) (dv 1)))))))
      (dss_nil))
    (dss_cons (ds_if (dt_tru (de_isi "str" (by decide) (dv 1) z_isinstance z_str (by decide +kernel)))
      (dss_one (ds_ret (de_and (de_isi "str" (by decide) (dv 0) z_isinstance z_str (by decide +kernel)) (de_one (de_cmp (do_eq hr) (dv 0) (dv 1))))))
      (dss_nil))
    (dss_cons (ds_if (dt_tru (de_isi "list" (by decide) (dv 1) z_isinstance z_list (by decide +kernel)))
      (dss_one (ds_ret (de_and (de_isi "list" (by decide) (dv 0) z_isinstance z_list (by decide +kernel)) (de_one (de_call F__law_same_row (hr.mono (by omega)) m__law_same_row k__law_same_row b__law_same_row (da_cons (dv 0) (da_cons (dv 1) (da_nil))))))))
      (dss_nil))
    (dss_one (ds_ret (de_and (de_isi "tuple" (by decide) (dv 0) z_isinstance z_tuple (by decide +kernel)) (de_one (de_call F__law_same_row (hr.mono (by omega)) m__law_same_row k__law_same_row b__law_same_row (da_cons (dv 0) (da_cons (dv 1) (da_nil)))))))))))), ?_⟩
  rintro ds μ Q EE ⟨x, y, a, b, rfl, p1, p2, q⟩
  walk_at "dl0"
  have nx : isNonD x = isNonD (vw μ x) := isNonD_vw
  have ny : isNonD y = isNonD (vw μ y) := isNonD_vw
  rcases dview_cases p1 with ⟨rfl, e1⟩ | ⟨b1, rfl, e1⟩ | ⟨b1, rfl, e1⟩ | ⟨b1, rfl, e1⟩ | ⟨m1, xs, as, z1, rfl, e1, l1, k1⟩ | ⟨m1, xs, as, z1, rfl, e1, l1, k1⟩ <;> rcases dview_cases p2 with ⟨rfl, e2⟩ | ⟨b2, rfl, e2⟩ | ⟨b2, rfl, e2⟩ | ⟨b2, rfl, e2⟩ | ⟨m2, ys, bs, z2, rfl, e2, l2, k2⟩ | ⟨m2, ys, bs, z2, rfl, e2, l2, k2⟩ <;> rw [e1] at nx <;> rw [e2] at ny <;> simp [-isNonD, nx, ny, e1, e2, nd_n, nd_b, nd_i, nd_s, nd_l, nd_t]
  all_goals first
    | (rw [eqD_no.mpr (by simp)] at q; exact q)
    | (rw [eqD_self] at q; exact q)
    | (simp only [eqD_b, eqD_i, eqD_s] at q; exact q)
    | (subst z1
       cases z2
       first
         | exact ⟨x, y, _, _, _, _, rfl, .inl ⟨e1, e2⟩, l1, l2, k1, k2, q⟩
         | (rw [eqD_t] at q; exact ⟨x, y, _, _, _, _, rfl, .inr ⟨e1, e2⟩, l1, l2, k1, k2, q⟩))
abbrev sp__law_same : DSp := sp_same 19
theorem ok__law_same {P : Program} {w : World} {K : PySem.W.Frag} {mg : Str → Option Value} {base : Heap} {f f1 : Addr} {fd fd1 : FuncData} (D0 : DefAt K mg "_law_same" s__law_same ["actual", "expected"] f fd) (D1 : DefAt K mg "_law_same_row" s__law_same_row ["actual", "expected"] f1 fd1) (z_isinstance : mg "isinstance" = none) (z_bool : mg "bool" = none) (z_int : mg "int" = none) (z_str : mg "str" = none) (z_list : mg "list" = none) (z_tuple : mg "tuple" = none) (z_len : mg "len" = none) (z_range : mg "range" = none) : FnOk P w K mg base CX0 40 f fd ["actual", "expected"] (toSp K sp__law_same) := by
  have all : ∀ n, FnOk P w K mg base CX0 (2*n+1) f fd ["actual", "expected"] (toSp K (sp_same n)) := by
    intro n
    induction n with
    | zero =>
      refine ok__law_same_n 0 D0 ⟨f1, fd1, D1.m, D1.F.kp, D1.b, ⟨?_, ?_⟩⟩ z_isinstance z_bool z_int z_str z_list z_tuple
      · rintro vs H Q E ⟨_, _, _, _, _, _, _, h, _⟩; exact h.elim
      · intros; rename_i hsp; obtain ⟨_, _, _, _, _, _, _, h, _⟩ := hsp; exact h.elim
    | succ n ih => exact ok__law_same_n (n + 1) D0 (D1.called (ok__law_same_row_n n D1 (D0.called ih) z_len z_range)) z_isinstance z_bool z_int z_str z_list z_tuple
  exact (all 19).mono (by decide)
theorem okH__law_same {P : Program} {w : World} {K : PySem.W.Frag} {mg : Str → Option Value} {base : Heap} {f f1 : Addr} {fd fd1 : FuncData} (D0 : DefAt K mg "_law_same" s__law_same ["actual", "expected"] f fd) (D1 : DefAt K mg "_law_same_row" s__law_same_row ["actual", "expected"] f1 fd1) (z_isinstance : mg "isinstance" = none) (z_bool : mg "bool" = none) (z_int : mg "int" = none) (z_str : mg "str" = none) (z_list : mg "list" = none) (z_tuple : mg "tuple" = none) (z_len : mg "len" = none) (z_range : mg "range" = none) : FnH P w K mg base CX0 40 f fd ["actual", "expected"] (toSp K sp__law_same) := by
  have all : ∀ n, FnH P w K mg base CX0 (2*n+1) f fd ["actual", "expected"] (toSp K (sp_same n)) := by
    intro n
    induction n with
    | zero =>
      refine okH__law_same_n 0 D0 ⟨f1, fd1, D1.m, D1.F.kp, D1.b, ⟨?_, ?_⟩⟩ z_isinstance z_bool z_int z_str z_list z_tuple
      · rintro vs H Q E ⟨_, _, _, _, _, _, _, h, _⟩; exact h.elim
      · intros; rename_i hsp; obtain ⟨_, _, _, _, _, _, _, h, _⟩ := hsp; exact h.elim
    | succ n ih => exact okH__law_same_n (n + 1) D0 (D1.calledH (okH__law_same_row_n n D1 (D0.calledH ih) z_len z_range)) z_isinstance z_bool z_int z_str z_list z_tuple
  exact FnH.mono (all 19) (by decide)
abbrev sp_law : DSp := spLaw
theorem len_law : ∀ ds μ Q E, spLaw ds μ Q E → ds.length = 1 := by
  rintro ds μ Q E ⟨ns, rfl, _⟩; rfl
abbrev s_law : Stmt := topS 15
theorem sc_law : FnScope ["script", "source", "many", "names", "written", "number", "k", "asked", "known", "told", "why", "due", "name", "longer", "setting"] ["script"] (defScope s_law) := ⟨rfl, rfl, rfl, by decide +kernel, rfl, by decide +kernel, by decide +kernel⟩
set_option maxHeartbeats 1000000 in
theorem ok_law {P : Program} {w : World} {K : PySem.W.Frag} {mg : Str → Option Value} {base : Heap} {f : Addr} {fd : FuncData} {C_TooMany : Addr} {C_LentError : Addr} (D0 : DefAt K mg "law" s_law ["script"] f fd) (c__law_begin : Called P w K mg base 1 "_law_begin" ["script"] sp__law_begin) (c__law_grown : Called P w K mg base 1 "_law_grown" ["script"] sp__law_grown) (c__law_draw : Called P w K mg base 1 "_law_draw" ["source", "size"] sp__law_draw) (c_enough_settings : CalledX P w K mg base 3 "enough_settings" ["unknowns", "known"] (sp_enough_settings C_TooMany)) (c__law_longer : Called P w K mg base 1 "_law_longer" ["setting", "name", "written"] sp__law_longer) (c__law_same : Called P w K mg base 40 "_law_same" ["actual", "expected"] sp__law_same) (h__law_same : CalledH P w K mg base 40 "_law_same" ["actual", "expected"] sp__law_same) (E_TooMany : ErrC P w K mg base C_TooMany "TooMany" "many") (n_TooMany : mg "TooMany" = some (.ref C_TooMany)) (n_LentError : mg "LentError" = some (.ref C_LentError)) (xm_TooMany_TooMany : PySem.W.exmOne K (.ref C_TooMany) (.ref C_TooMany) = some true) (ki_TooMany_LentError : PySem.W.kitOne K (.ref C_TooMany) (.ref C_LentError) = some true) (z_range : mg "range" = none) (z_int : mg "int" = none) (z_list : mg "list" = none) (z_isinstance : mg "isinstance" = none) : FnOk P w K mg base CX0 (41) f fd ["script"] (toSp K sp_law) := by
  obtain ⟨f__law_begin, d__law_begin, m__law_begin, k__law_begin, b__law_begin, F__law_begin⟩ := c__law_begin
  obtain ⟨f__law_grown, d__law_grown, m__law_grown, k__law_grown, b__law_grown, F__law_grown⟩ := c__law_grown
  obtain ⟨f__law_draw, d__law_draw, m__law_draw, k__law_draw, b__law_draw, F__law_draw⟩ := c__law_draw
  obtain ⟨f_enough_settings, d_enough_settings, m_enough_settings, k_enough_settings, b_enough_settings, F_enough_settings⟩ := c_enough_settings
  obtain ⟨f__law_longer, d__law_longer, m__law_longer, k__law_longer, b__law_longer, F__law_longer⟩ := c__law_longer
  obtain ⟨f__law_same, d__law_same, m__law_same, k__law_same, b__law_same, F__law_same⟩ := c__law_same
  obtain ⟨fH__law_same, dH__law_same, mH__law_same, kH__law_same, bH__law_same, FH__law_same⟩ := h__law_same
  refine fn_ok D0.F sc_law (len_law) fun B cdv A outer s H E hr => ⟨_, _, dss_cons (ds_set 1 sc_law.nd (de_call F__law_begin (hr.mono (by decide)) m__law_begin k__law_begin b__law_begin (da_cons (de_call F__law_grown (hr.mono (by decide)) m__law_grown k__law_grown b__law_grown (da_cons (dv 0) (da_nil))) (da_nil))))
    (dss_cons (ds_set 2 sc_law.nd (de_call F__law_draw (hr.mono (by decide)) m__law_draw k__law_draw b__law_draw (da_cons (dv 1) (da_cons (de_int) (da_nil)))))
    (dss_cons (ds_set 3 sc_law.nd (de_sl false (de_lst false (da_cons (de_str) (da_cons (de_str) (da_cons (de_str) (da_cons (de_str) (da_cons (de_str) (da_cons (de_str) (da_nil)))))))) (do_none) (do_some (dv 2))))
    (dss_cons (ds_set 4 sc_law.nd (de_lst true (da_nil)))
    (dss_cons (ds_set 5 sc_law.nd (de_neg (de_int)))
    (dss_cons (ds_for PassesOwn.never rfl (di_range1 (by rfl) z_range (da_cons (de_call F__law_draw (hr.mono (by decide)) m__law_draw k__law_draw b__law_draw (da_cons (dv 1) (da_cons (de_int) (da_nil)))) (da_nil))) (dg_name 6 sc_law.nd)
      (dss_cons (ds_set 5 sc_law.nd (de_op do_add (de_op do_add (dv 5) (de_int)) (de_ix (de_lst false (da_cons (de_int) (da_cons (de_int) (da_cons (de_op do_mod (de_callTy dc_int (by rfl) z_int (by decide +kernel) (da_cons (de_call F__law_draw (hr.mono (by decide)) m__law_draw k__law_draw b__law_draw (da_cons (dv 1) (da_cons (de_int) (da_nil)))) (da_nil))) (de_int)) (da_nil))))) (de_call F__law_draw (hr.mono (by decide)) m__law_draw k__law_draw b__law_draw (da_cons (dv 1) (da_cons (de_int) (da_nil)))))))
      (dss_one (ds_expr (de_bm PySem.F.plainAttrs_list PySem.F.slot_list_append PySem.F.type_list_append dm_append (dv 4) (da_cons (dv 5) (da_nil)))))))
    (dss_frz 4 (dss_cons (ds_set 7 sc_law.nd (de_callTy (dc_list false) (by rfl) z_list (by decide +kernel) (da_cons (dv 3) (da_nil))))
    (dss_cons (ds_set 8 sc_law.nd (de_callTy (dc_list false) (by rfl) z_list (by decide +kernel) (da_cons (dv 4) (da_nil))))
    (dss_cons (ds_try_asA (i := 10) rfl rfl sc_law.nd rfl rfl ⟨rfl, by decide, .inl n_TooMany⟩ takes0N XRel.no
      (fun W V B pn xe gb xr tk po => dss_one (ds_set 9 sc_law.nd (de_callX F_enough_settings tk xr (hr.mono (by decide)) m_enough_settings k_enough_settings b_enough_settings (da_cons (dv 7) (da_cons (dv 8) (da_nil))))))
      (fun a oe cls d pn B fs xs hz hf => dss_one (ds_ret (de_and (de_cmp do_gt (dv 2) (de_int)) (de_and (de_callH FH__law_same (roomH_suite (hr.mono (by decide))) (hot_suite hz hf) mH__law_same kH__law_same bH__law_same (da_cons (de_xf (a := a) (cls := cls) (d := d) (fs := fs) (C := C_TooMany) xs E_TooMany.xf E_TooMany.no hz hf (dv 10)) (da_cons (dv 2) (da_nil)))) (de_one (de_isE (a := a) (cls := cls) (d := d) (fs := fs) (C := C_TooMany) (C2 := C_LentError) xs E_TooMany.ec hz hf (dv 10) z_isinstance n_LentError)))))))
    (dss_cons (ds_set 11 sc_law.nd (de_lst false (da_cons (de_lst false (da_nil)) (da_nil))))
    (dss_cons (ds_for PassesOwn.never rfl (di_list (dv 3)) (dg_name 12 sc_law.nd)
      (dss_cons (ds_set 13 sc_law.nd (de_lst false (da_nil)))
      (dss_cons (ds_for PassesOwn.never rfl (di_list (dv 11)) (dg_name 14 sc_law.nd)
        (dss_one (ds_set 13 sc_law.nd (de_op do_add (dv 13) (de_call F__law_longer (hr.mono (by decide)) m__law_longer k__law_longer b__law_longer (da_cons (dv 14) (da_cons (dv 12) (da_cons (de_frz (dv 4)) (da_nil)))))))))
      (dss_one (ds_set 11 sc_law.nd (dv 13))))))
    (dss_cons (ds_if (DW.dt (dw_or (dt_cmp do_gt (dv 2) (de_int)) (dw_or1 (dt_not (dt_tru (de_call F__law_same (hr.mono (by decide)) m__law_same k__law_same b__law_same (da_cons (dv 9) (da_cons (dv 11) (da_nil)))))))))
      (dss_one (ds_ret (de_bl)))
      (dss_nil))
    (dss_cons (ds_expr (de_bm PySem.F.plainAttrs_list PySem.F.slot_list_append PySem.F.type_list_append dm_append (de_ix (dv 9) (de_neg (de_int))) (da_cons (de_tup (da_cons (de_str) (da_cons (de_int) (da_nil)))) (da_nil))))
    (dss_cons (ds_expr (de_bm PySem.F.plainAttrs_list PySem.F.slot_list_append PySem.F.type_list_append dm_append (dv 9) (da_cons (de_lst false (da_nil)) (da_nil))))
    (dss_one (ds_ret (de_and (de_call F__law_same (hr.mono (by decide)) m__law_same k__law_same b__law_same (da_cons (de_callX F_enough_settings takes0N XRel.no (hr.mono (by decide)) m_enough_settings k_enough_settings b_enough_settings (da_cons (dv 7) (da_cons (dv 8) (da_nil)))) (da_cons (dv 11) (da_nil)))) (de_and (de_cmp (do_eq hr) (dv 7) (dv 3)) (de_one (de_cmp (do_eq hr) (dv 8) (dv 4))))))))))))))))))))), ?_⟩
  rintro ds μ Q EE ⟨ns, rfl, hns, q⟩
  walk_at "dl0"
  walk_at "s"
  simp [sp__law_begin, sp_begin, sp__law_grown]
  refine ⟨hns, fun l => ⟨⟨l, rfl⟩, ?_⟩⟩
  subst hN
  walk_at "s"
  simp
  intro many hm0 hm1
  subst hN
  walk_at "s"
  simp [cutD_upto, hm0]
  refine ⟨by rw [szl]; omega, ?_⟩
  obtain ⟨nm, en, ln, lok⟩ : ∃ nm : List Str, List.take many.toNat [D.str "a", D.str "b", D.str "ba", D.str "i", D.str "j", D.str "zz"] = nm.map D.str ∧ (nm.length : Int) = many ∧ ∀ x ∈ nm, PyData.strOk x = true :=
    ⟨List.take many.toNat ["a", "b", "ba", "i", "j", "zz"], by rw [List.map_take]; rfl, by rw [List.length_take]; simp; omega, fun x hx => by
      have h1 := List.mem_of_mem_take hx
      simp at h1
      rcases h1 with rfl | rfl | rfl | rfl | rfl | rfl <;> decide +kernel⟩
  rw [en]
  clear en
  subst hN
  walk_at "s"
  simp
  intro a ha
  subst hN
  walk_at "s"
  simp
  subst hN
  refine seq_cut (fun ρ μ' => ∃ (w : List Int) (v k : Option D), ρ = [some (.scr ns), some .src, some (.int many), some (.lst (nm.map .str)), some (.ptr a), v, k, none, none, none, none, none, none, none, none] ∧ μ' = mup μ a (.lst (w.map .int)) ∧ w.length ≤ 3) (fun N hN => ?_) ?_
  · refine for_hide fun L hL => ?_
    simp
    intro t ht0 ht1
    rw [hL]
    refine ⟨⟨by omega, by omega⟩, loop_rng (fun j ρ μ' => ∃ (w : List Int) (v : Int) (k : Option D), ρ = [some (.scr ns), some .src, some (.int many), some (.lst (nm.map .str)), some (.ptr a), some (.int v), k, none, none, none, none, none, none, none, none] ∧ μ' = mup μ a (.lst (w.map .int)) ∧ (w.length : Int) = j) ht0 ⟨[], -1, none, rfl, rfl, rfl⟩ ?_ ?_⟩
    · rintro ρ μ' ⟨w, v, k, rfl, rfl, hj⟩
      exact hN _ _ ⟨w, _, k, rfl, rfl, by omega⟩
    · rintro j ρ μ' M j0 j1 ⟨w, v, k, rfl, rfl, hj⟩ hM
      simp
      intro n na nb
      refine ⟨by rw [szl]; omega, fun n1 nc nd => ?_⟩
      have h3 : n1 = 0 ∨ n1 = 1 ∨ n1 = 2 := by omega
      rcases h3 with rfl | rfl | rfl <;> simp
      · exact ⟨by rw [szl]; omega, hM _ _ ⟨w ++ [v + 1], _, _, rfl, by simp, by simp; omega⟩⟩
      · exact ⟨by rw [szl]; omega, hM _ _ ⟨w ++ [v + 1 + 1], _, _, rfl, by simp, by simp; omega⟩⟩
      · exact ⟨by rw [szl]; omega, hM _ _ ⟨w ++ [v + 1 + n % 2000], _, _, rfl, by simp, by simp; omega⟩⟩
  rintro _ _ ⟨w, v, k, rfl, rfl, hw⟩
  refine frz_at rfl mup_same ?_
  rw [mdel_mup ha]
  clear ha
  simp only [List.set_cons_zero, List.set_cons_succ]
  walk_at "s"
  simp
  subst hN
  walk_at "s"
  simp
  subst hN
  refine seq_cut (fun ρ μ' => many ≤ 4 ∧ ∃ (a : Addr) (ps : List Addr), ρ = [some (.scr ns), some .src, some (.int many), some (.lst (nm.map .str)), some (.lst (w.map .int)), v, k, some (.lst (nm.map .str)), some (.lst (w.map .int)), some (.ptr a), none, none, none, none, none] ∧ μ' a = some (.lst (ps.map .ptr)) ∧ (∀ p ∈ ps, p ≠ a) ∧ NestC μ' ps (enoughS w nm)) (fun N hN => ?_) ?_
  · simp
    refine ⟨nm, w, rfl, hw, by omega, ?_⟩
    split
    · next h =>
      refine (asV_yes (K := K) xm_TooMany_TooMany).mpr ?_
      intro b hb
      simp
      rw [if_pos (by omega), ln, if_pos eqD_self]
      split
      · next d e =>
        have e2 : some d = some true := e.symm.trans ki_TooMany_LentError
        cases e2
        exact q μ
      · next e =>
        have e2 : none = some true := e.symm.trans ki_TooMany_LentError
        cases e2
    · next h =>
      intro a ps μ' hs ha hm hne hn
      exact hN _ _ ⟨by omega, a, ps, rfl, hm, hne, hn⟩
  rintro _ μ1 ⟨h4, a, ps, rfl, hm, hne, hn⟩
  obtain ⟨c1, c2⟩ := enoughS_ok hw nm.length nm rfl (by omega)
  have c3 : 8 ^ nm.length ≤ 8 ^ 4 := Nat.pow_le_pow_right (by decide) (by omega)
  walk_at "s"
  simp
  refine ⟨by rw [szl]; omega, ?_⟩
  subst hN
  walk_at "s"
  refine for_hide fun L hL => ?_
  simp
  rw [hL]
  refine loop_it (fun r ρ μ' => ∃ (d1 d2 : List Str) (k1 k2 k3 : Option D), nm = d1 ++ d2 ∧ r = d2.map .str ∧ ρ = [some (.scr ns), some .src, some (.int many), some (.lst (nm.map .str)), some (.lst (w.map .int)), v, k, some (.lst (nm.map .str)), some (.lst (w.map .int)), some (.ptr a), none, some (settD (enoughS w d1)), k1, k2, k3] ∧ μ' = μ1) ⟨[], nm, none, none, none, rfl, rfl, rfl, rfl⟩ ?_ ?_
  · rintro ρ μ' ⟨d1, d2, k1, k2, k3, e, h1, rfl, rfl⟩
    have h2 : d2 = [] := by simpa using h1.symm
    subst h2
    rw [List.append_nil] at e
    subst e
    show N _ _
    subst hN
    walk_at "s"
    have v1 : dview μ' 19 (.ptr a) = some (settD (enoughS w nm)) := view_nest (vw_of hm) hn (by omega) fun t ht => by have := c2 t ht; omega
    have v2 : ∀ μ'', dview μ'' 19 (settD (enoughS w nm)) = some (settD (enoughS w nm)) := fun μ'' => view_settD (by omega) fun t ht => by have := c2 t ht; omega
    simp [v1, v2, h4]
    rw [if_neg (by omega)]
    subst hN
    have hpos := enoughS_pos w nm
    obtain ⟨qs, p, rfl⟩ : ∃ qs p, ps = qs ++ [p] := by
      have hx : ps ≠ [] := by intro e; have := hn.1; rw [e] at this; simp at this; omega
      exact ⟨ps.dropLast, ps.getLast hx, (List.dropLast_concat_getLast hx).symm⟩
    obtain ⟨st, hst, hp⟩ := hn.has (p := p) (by simp)
    have hpa : p ≠ a := hne p (by simp)
    have hstl := c2 st hst
    walk_at "s"
    simp [vw_of hm]
    rw [vw_of hp, hp]
    refine ⟨True.intro, by rw [szl]; omega, by simp [szl]; omega, ?_⟩
    subst hN
    walk_at "s"
    have hm2 : ∀ c, mup μ' p c a = some (.lst ((qs ++ [p]).map .ptr)) := fun c => by rw [mup_ne (Ne.symm hpa)]; exact hm
    have hql : qs.length + 1 ≤ 8 ^ nm.length := by have := hn.1; simp at this; omega
    simp [vw_of (hm2 _), hm2, szl]
    refine ⟨by omega, ?_⟩
    subst hN
    simp
    refine ⟨nm, w, rfl, hw, by omega, ?_⟩
    rw [if_neg (by omega)]
    intro a2 ps2 μ2 _ _ hm3 hne3 hn3
    have v3 : dview μ2 19 (.ptr a2) = some (settD (enoughS w nm)) := view_nest (vw_of hm3) hn3 (by omega) fun t ht => by have := c2 t ht; omega
    simp [v3, v2, eqD_self]
    have s1 : SeqAt.shaped (.list (w.map PyData.int)) = true := PySem.W.shaped_ints w
    have r1 : PyData.eqvAll (w.map PyData.int) (w.map PyData.int) = true := SeqAt.eqvAll_refl _ (PySem.W.canLayAll0_ints w)
    have r2 : PyData.eqvAll (nm.map PyData.str) (nm.map PyData.str) = true := SeqAt.eqvAll_refl _ (canLay_strs nm lok)
    have s2 := shaped_strs nm lok
    simp only [pyL_strs, pyL_ints, s2, s1, r1, r2, if_true, true_and]
    exact q _
  · rintro y r ρ μ' M ⟨d1, d2, k1, k2, k3, e, h1, rfl, rfl⟩ hM
    cases d2 with
    | nil => simp at h1
    | cons z d2 =>
      simp at h1
      obtain ⟨rfl, rfl⟩ := h1
      simp
      have hd1 : d1.length ≤ 3 := by rw [e] at ln; simp at ln; omega
      obtain ⟨g1, g2⟩ := enoughS_ok hw d1.length d1 rfl (by omega)
      have g3 : 8 ^ d1.length ≤ 8 ^ 3 := Nat.pow_le_pow_right (by decide) hd1
      show loopL _ _ _ ((enoughS w d1).map fun t => D.lst (t.map spairD)) _ _
      refine loop_it (fun r ρ μ2 => ∃ (s1 s2 : List (List (Str × Int))) (k3 : Option D), enoughS w d1 = s1 ++ s2 ∧ r = s2.map (fun t => D.lst (t.map spairD)) ∧ ρ = [some (.scr ns), some .src, some (.int many), some (.lst (nm.map .str)), some (.lst (w.map .int)), v, k, some (.lst (nm.map .str)), some (.lst (w.map .int)), some (.ptr a), none, some (settD (enoughS w d1)), some (.str z), some (settD (stepS w s1 z)), k3] ∧ μ2 = μ') ⟨[], enoughS w d1, k3, rfl, rfl, rfl, rfl⟩ ?_ ?_
      · rintro ρ μ2 ⟨s1, s2, k3, e1, h1, rfl, h0⟩
        subst h0
        have h2 : s2 = [] := by simpa using h1.symm
        subst h2
        rw [List.append_nil] at e1
        simp
        refine hM _ _ ⟨d1 ++ [z], d2, some (.str z), some (settD (stepS w s1 z)), k3, by rw [e]; simp, rfl, ?_, rfl⟩
        rw [enoughS_snoc, e1]
      · rintro y r ρ μ2 M2 ⟨s1, s2, k3, e1, h1, rfl, h0⟩ hM2
        subst h0
        cases s2 with
        | nil => simp at h1
        | cons t s2 =>
          simp at h1
          obtain ⟨rfl, rfl⟩ := h1
          have ht : t.length = d1.length := g2 t (by rw [e1]; simp)
          have hs1 : s1.length ≤ 512 := by
            have : s1.length ≤ (enoughS w d1).length := by rw [e1]; simp
            omega
          have hl1 := stepS_len (x := z) (kn := w) (i := d1.length) (by omega) (l := s1) fun u hu => g2 u (by rw [e1]; exact List.mem_append_left _ hu)
          have hl2 := longerS_len w t z
          simp
          refine ⟨t, z, w, rfl, hw, by omega, ?_⟩
          simp [settD, szl]
          refine ⟨by omega, ?_⟩
          have := hM2 _ _ ⟨s1 ++ [t], s2, some (.lst (t.map spairD)), by rw [e1]; simp, rfl, rfl, rfl⟩
          rw [stepS_app] at this
          simpa [settD, stepS] using this
abbrev s_TooMany___init__ : Stmt := inClass (topS 2) 0
theorem sc_TooMany___init__ : NdefX.NScope ["self", "many", "__class__"] ["self", "many"] ["__class__"] (defScope s_TooMany___init__) := NdefX.nscope_by (by decide +kernel)
theorem su_TooMany___init__ : (defScope s_TooMany___init__).names.lookup ("super" : Str) = some .globalImplicit := by decide +kernel
set_option maxHeartbeats 8000000 in
theorem all_mk {l : PySem.W.OpenLaw} {w : World} {K : PySem.W.Frag} {h : Heap} {mg : Str → Option Value} {fa : Addr} (X : K.In h) (G : h.Ns mainGlobals mg) (hfa : mg "law" = some (.ref fa))
    {C_TooMany : Addr}
    {C_LentError : Addr}
    {f_TooMany cc_TooMany cda_TooMany N_TooMany : Addr} {nm_TooMany q_TooMany : Str} {bs_TooMany bm_TooMany : List Value} {sn_TooMany : List Str} {sub_TooMany : List Value} {ab_TooMany : Bool} {col_TooMany : Option Bool} {dd_TooMany od_TooMany an_TooMany c2_TooMany cld_TooMany : Option Addr} {k0_TooMany k1_TooMany k2_TooMany k3_TooMany k5_TooMany : Option Value} {oc_TooMany kV_TooMany dc_TooMany pm_TooMany ct_TooMany c1_TooMany cl_TooMany : Value} {sl_TooMany c3_TooMany csl_TooMany : Array (Option Value)} {vs_TooMany : Array Value} {fi_TooMany : Str} {tf_TooMany : Tok}
    {f0 : Addr} {od0 an0 : Option Addr} {sl0 : Array (Option Value)} {oc0 kV0 dc0 pm0 cd0 ct0 : Value}
    {f1 : Addr} {od1 an1 : Option Addr} {sl1 : Array (Option Value)} {oc1 kV1 dc1 pm1 cd1 ct1 : Value}
    {f2 : Addr} {od2 an2 : Option Addr} {sl2 : Array (Option Value)} {oc2 kV2 dc2 pm2 cd2 ct2 : Value}
    {f3 : Addr} {od3 an3 : Option Addr} {sl3 : Array (Option Value)} {oc3 kV3 dc3 pm3 cd3 ct3 : Value}
    {f4 : Addr} {od4 an4 : Option Addr} {sl4 : Array (Option Value)} {oc4 kV4 dc4 pm4 cd4 ct4 : Value}
    {f5 : Addr} {od5 an5 : Option Addr} {sl5 : Array (Option Value)} {oc5 kV5 dc5 pm5 cd5 ct5 : Value}
    {f6 : Addr} {od6 an6 : Option Addr} {sl6 : Array (Option Value)} {oc6 kV6 dc6 pm6 cd6 ct6 : Value}
    {f7 : Addr} {od7 an7 : Option Addr} {sl7 : Array (Option Value)} {oc7 kV7 dc7 pm7 cd7 ct7 : Value}
    {f8 : Addr} {od8 an8 : Option Addr} {sl8 : Array (Option Value)} {oc8 kV8 dc8 pm8 cd8 ct8 : Value}
    {f9 : Addr} {od9 an9 : Option Addr} {sl9 : Array (Option Value)} {oc9 kV9 dc9 pm9 cd9 ct9 : Value}
    {t_MOST_UNKNOWNS : _}
    (aC_TooMany : PySem.W.nsIn K mainGlobals "TooMany" = some (some (.ref C_TooMany)))
    (aC_LentError : PySem.W.nsIn K mainGlobals "LentError" = some (some (.ref C_LentError)))
    (tp_ : (l.prog.main.scope.names.lookup ("super" : Str)).isSome = false) (zz_super : PySem.W.nsIn K mainGlobals "super" = some none) (oq_ : PySem.W.nsIn K cStatics "thirdparty.any" = some none) (hn_ : PySem.W.specialIn K (.builtin "object.__class__") "__get__" = some (some (.builtin "getset_descriptor.__get__"))) (ht_ : PySem.W.takesIn K (.builtin "object.__class__") = some true)
    (lc_TooMany : K.lookup C_TooMany = some (excClassObj nm_TooMany q_TooMany C_TooMany N_TooMany bs_TooMany bm_TooMany true sn_TooMany sub_TooMany ab_TooMany col_TooMany dd_TooMany k0_TooMany k1_TooMany k2_TooMany k3_TooMany k5_TooMany "ValueError.__new__")) (rv_TooMany : PySem.HandSPX.refsVE bm_TooMany = true) (sa_TooMany : PySem.W.findIn K (.ref C_TooMany) "__setattr__" = some (some (.builtin "object.__setattr__"))) (eb_TooMany : PySem.W.subIn K (.ref C_TooMany) (.type "BaseException") = some true) (tc_TooMany : PySem.W.typeIn K (.ref C_TooMany) = some (.type "type")) (kc_TooMany : PySem.W.keepIn K (.ref C_TooMany) = true) (ii_TooMany : PySem.W.findIn K (.ref C_TooMany) "__init__" = some (some (.ref f_TooMany))) (tf_TooMany' : PySem.W.typeIn K (.ref f_TooMany) = some (.type "function"))
      (lf_TooMany : K.lookup f_TooMany = some ⟨oc_TooMany, od_TooMany, .func (PySem.W.fnX "__init__" "TooMany.__init__" (defArgs s_TooMany___init__) (defBody s_TooMany___init__) (defScope s_TooMany___init__) [("__class__", cc_TooMany)] .none kV_TooMany dc_TooMany pm_TooMany an_TooMany (.ref cda_TooMany) ct_TooMany), sl_TooMany⟩) (ci_TooMany : PySem.W.codeIn K (.ref cda_TooMany) "TooMany.__init__" = true) (lk_TooMany : K.lookup cda_TooMany = some ⟨c1_TooMany, c2_TooMany, .fields vs_TooMany, c3_TooMany⟩) (v2_TooMany : vs_TooMany[2]? = some (.str fi_TooMany tf_TooMany)) (fe_TooMany : ((l.prog.main.file : Str) == fi_TooMany) = true) (lcc_TooMany : K.lookup cc_TooMany = some ⟨cl_TooMany, cld_TooMany, .cell (some (.ref C_TooMany)), csl_TooMany⟩)
      (si_TooMany : PySem.W.ks_superIn K C_TooMany C_TooMany "__init__" = some (some (.builtin "ValueError.__init__"))) (ve_TooMany : PySem.W.subIn K (.ref C_TooMany) (.type "ValueError") = some true) (no_TooMany : PySem.W.findIn K (.ref C_TooMany) "many" = some none) (hg_TooMany : PySem.W.findIn K (.ref C_TooMany) "__getattribute__" = some (some (.builtin "BaseException.__getattribute__"))) (hk_TooMany : PySem.W.findIn K (.ref C_TooMany) "__getattr__" = some none) (hd_TooMany : PySem.W.hasDictIn K C_TooMany = true) (ha_TooMany : PySem.W.findIn K (.ref C_TooMany) "__class__" = some (some (.builtin "object.__class__"))) (hm_TooMany : PySem.W.mroIn K C_TooMany (.type "object") = some true)
    (xm_TooMany_TooMany : PySem.W.exmOne K (.ref C_TooMany) (.ref C_TooMany) = some true)
    (ki_TooMany_LentError : PySem.W.kitOne K (.ref C_TooMany) (.ref C_LentError) = some true)
    (a0 : PySem.W.nsIn K mainGlobals "_law_begin" = some (some (.ref f0))) (l0 : K.lookup f0 = some ⟨oc0, od0, .func (PySem.W.fnOf "_law_begin" "_law_begin" (defArgs s__law_begin) (defBody s__law_begin) (defScope s__law_begin) .none kV0 dc0 pm0 an0 cd0 ct0), sl0⟩) (c0 : PySem.W.codeIn K cd0 "_law_begin" = true) (k0 : PySem.W.keepIn K (.ref f0) = true)
    (a1 : PySem.W.nsIn K mainGlobals "_law_grown" = some (some (.ref f1))) (l1 : K.lookup f1 = some ⟨oc1, od1, .func (PySem.W.fnOf "_law_grown" "_law_grown" (defArgs s__law_grown) (defBody s__law_grown) (defScope s__law_grown) .none kV1 dc1 pm1 an1 cd1 ct1), sl1⟩) (c1 : PySem.W.codeIn K cd1 "_law_grown" = true) (k1 : PySem.W.keepIn K (.ref f1) = true)
    (a2 : PySem.W.nsIn K mainGlobals "_law_draw" = some (some (.ref f2))) (l2 : K.lookup f2 = some ⟨oc2, od2, .func (PySem.W.fnOf "_law_draw" "_law_draw" (defArgs s__law_draw) (defBody s__law_draw) (defScope s__law_draw) .none kV2 dc2 pm2 an2 cd2 ct2), sl2⟩) (c2 : PySem.W.codeIn K cd2 "_law_draw" = true) (k2 : PySem.W.keepIn K (.ref f2) = true)
    (a3 : PySem.W.nsIn K mainGlobals "fresh_number" = some (some (.ref f3))) (l3 : K.lookup f3 = some ⟨oc3, od3, .func (PySem.W.fnOf "fresh_number" "fresh_number" (defArgs s_fresh_number) (defBody s_fresh_number) (defScope s_fresh_number) .none kV3 dc3 pm3 an3 cd3 ct3), sl3⟩) (c3 : PySem.W.codeIn K cd3 "fresh_number" = true) (k3 : PySem.W.keepIn K (.ref f3) = true)
    (a4 : PySem.W.nsIn K mainGlobals "longer_settings" = some (some (.ref f4))) (l4 : K.lookup f4 = some ⟨oc4, od4, .func (PySem.W.fnOf "longer_settings" "longer_settings" (defArgs s_longer_settings) (defBody s_longer_settings) (defScope s_longer_settings) .none kV4 dc4 pm4 an4 cd4 ct4), sl4⟩) (c4 : PySem.W.codeIn K cd4 "longer_settings" = true) (k4 : PySem.W.keepIn K (.ref f4) = true)
    (a5 : PySem.W.nsIn K mainGlobals "enough_settings" = some (some (.ref f5))) (l5 : K.lookup f5 = some ⟨oc5, od5, .func (PySem.W.fnOf "enough_settings" "enough_settings" (defArgs s_enough_settings) (defBody s_enough_settings) (defScope s_enough_settings) .none kV5 dc5 pm5 an5 cd5 ct5), sl5⟩) (c5 : PySem.W.codeIn K cd5 "enough_settings" = true) (k5 : PySem.W.keepIn K (.ref f5) = true)
    (a6 : PySem.W.nsIn K mainGlobals "_law_longer" = some (some (.ref f6))) (l6 : K.lookup f6 = some ⟨oc6, od6, .func (PySem.W.fnOf "_law_longer" "_law_longer" (defArgs s__law_longer) (defBody s__law_longer) (defScope s__law_longer) .none kV6 dc6 pm6 an6 cd6 ct6), sl6⟩) (c6 : PySem.W.codeIn K cd6 "_law_longer" = true) (k6 : PySem.W.keepIn K (.ref f6) = true)
    (a7 : PySem.W.nsIn K mainGlobals "_law_same_row" = some (some (.ref f7))) (l7 : K.lookup f7 = some ⟨oc7, od7, .func (PySem.W.fnOf "_law_same_row" "_law_same_row" (defArgs s__law_same_row) (defBody s__law_same_row) (defScope s__law_same_row) .none kV7 dc7 pm7 an7 cd7 ct7), sl7⟩) (c7 : PySem.W.codeIn K cd7 "_law_same_row" = true) (k7 : PySem.W.keepIn K (.ref f7) = true)
    (a8 : PySem.W.nsIn K mainGlobals "_law_same" = some (some (.ref f8))) (l8 : K.lookup f8 = some ⟨oc8, od8, .func (PySem.W.fnOf "_law_same" "_law_same" (defArgs s__law_same) (defBody s__law_same) (defScope s__law_same) .none kV8 dc8 pm8 an8 cd8 ct8), sl8⟩) (c8 : PySem.W.codeIn K cd8 "_law_same" = true) (k8 : PySem.W.keepIn K (.ref f8) = true)
    (a9 : PySem.W.nsIn K mainGlobals "law" = some (some (.ref f9))) (l9 : K.lookup f9 = some ⟨oc9, od9, .func (PySem.W.fnOf "law" "law" (defArgs s_law) (defBody s_law) (defScope s_law) .none kV9 dc9 pm9 an9 cd9 ct9), sl9⟩) (c9 : PySem.W.codeIn K cd9 "law" = true) (k9 : PySem.W.keepIn K (.ref f9) = true)
    (g_MOST_UNKNOWNS : PySem.W.nsIn K mainGlobals "MOST_UNKNOWNS" = some (some (.int 4 t_MOST_UNKNOWNS)))
    (zz_list : PySem.W.nsIn K mainGlobals "list" = some none)
    (zz_int : PySem.W.nsIn K mainGlobals "int" = some none)
    (zz_len : PySem.W.nsIn K mainGlobals "len" = some none)
    (zz_range : PySem.W.nsIn K mainGlobals "range" = some none)
    (zz_isinstance : PySem.W.nsIn K mainGlobals "isinstance" = some none)
    (zz_bool : PySem.W.nsIn K mainGlobals "bool" = some none)
    (zz_str : PySem.W.nsIn K mainGlobals "str" = some none)
    (zz_tuple : PySem.W.nsIn K mainGlobals "tuple" = some none)
    : ∃ fd : FuncData, (∀ (s : Shared) (u : Value), BindsTo s fd ⟨[u], []⟩ [("script", u)]) ∧ ∀ base : Heap, K.In base → base.Ns mainGlobals mg → FnOk l.prog w K mg base CX0 41 fa fd ["script"] (toSp K spLaw) := by
  have e := hfa.symm.trans (PySem.W.mg_of X G a9)
  cases e
  have G_MOST_UNKNOWNS : Glob_MOST_UNKNOWNS K w mg := ⟨_, PySem.W.mg_of X G g_MOST_UNKNOWNS⟩
  have z_list : mg "list" = none := PySem.W.mg_none_of X G zz_list
  have z_int : mg "int" = none := PySem.W.mg_none_of X G zz_int
  have z_len : mg "len" = none := PySem.W.mg_none_of X G zz_len
  have z_range : mg "range" = none := PySem.W.mg_none_of X G zz_range
  have z_isinstance : mg "isinstance" = none := PySem.W.mg_none_of X G zz_isinstance
  have z_bool : mg "bool" = none := PySem.W.mg_none_of X G zz_bool
  have z_str : mg "str" = none := PySem.W.mg_none_of X G zz_str
  have z_tuple : mg "tuple" = none := PySem.W.mg_none_of X G zz_tuple
  have D0 : DefAt K mg "_law_begin" s__law_begin ["script"] _ _ := defAt_of X G a0 l0 c0 k0 fun _ _ _ _ _ _ us hl => match us, hl with | [_], _ => rfl
  have D1 : DefAt K mg "_law_grown" s__law_grown ["script"] _ _ := defAt_of X G a1 l1 c1 k1 fun _ _ _ _ _ _ us hl => match us, hl with | [_], _ => rfl
  have D2 : DefAt K mg "_law_draw" s__law_draw ["source", "size"] _ _ := defAt_of X G a2 l2 c2 k2 fun _ _ _ _ _ _ us hl => match us, hl with | [_, _], _ => rfl
  have D3 : DefAt K mg "fresh_number" s_fresh_number ["used"] _ _ := defAt_of X G a3 l3 c3 k3 fun _ _ _ _ _ _ us hl => match us, hl with | [_], _ => rfl
  have D4 : DefAt K mg "longer_settings" s_longer_settings ["setting", "name", "known"] _ _ := defAt_of X G a4 l4 c4 k4 fun _ _ _ _ _ _ us hl => match us, hl with | [_, _, _], _ => rfl
  have D5 : DefAt K mg "enough_settings" s_enough_settings ["unknowns", "known"] _ _ := defAt_of X G a5 l5 c5 k5 fun _ _ _ _ _ _ us hl => match us, hl with | [_, _], _ => rfl
  have D6 : DefAt K mg "_law_longer" s__law_longer ["setting", "name", "written"] _ _ := defAt_of X G a6 l6 c6 k6 fun _ _ _ _ _ _ us hl => match us, hl with | [_, _, _], _ => rfl
  have D7 : DefAt K mg "_law_same_row" s__law_same_row ["actual", "expected"] _ _ := defAt_of X G a7 l7 c7 k7 fun _ _ _ _ _ _ us hl => match us, hl with | [_, _], _ => rfl
  have D8 : DefAt K mg "_law_same" s__law_same ["actual", "expected"] _ _ := defAt_of X G a8 l8 c8 k8 fun _ _ _ _ _ _ us hl => match us, hl with | [_, _], _ => rfl
  have D9 : DefAt K mg "law" s_law ["script"] _ _ := defAt_of X G a9 l9 c9 k9 fun _ _ _ _ _ _ us hl => match us, hl with | [_], _ => rfl
  refine ⟨PySem.W.fnOf "law" "law" (defArgs s_law) (defBody s_law) (defScope s_law) .none kV9 dc9 pm9 an9 cd9 ct9, fun s v => .of_eq rfl, fun base _ _ => ?_⟩
  have X_TooMany := exc_of hg_TooMany hk_TooMany eb_TooMany hd_TooMany ha_TooMany hn_ ht_ hm_TooMany
  have E_TooMany : ErrC l.prog w K mg base C_TooMany "TooMany" "many" := ⟨PySem.W.mg_of X G aC_TooMany, ⟨⟨_, _, _, _, _, _, _, _, _, _, _, _, _, _, _, lc_TooMany, rv_TooMany⟩, sa_TooMany, eb_TooMany, tc_TooMany, kc_TooMany⟩,
    ⟨f_TooMany, _, ii_TooMany, tf_TooMany', binds_of (f := f_TooMany) (fun us hl => match us, hl with | [_, _], _ => rfl),
      err1_ok (supfn_mk lc_TooMany rv_TooMany sa_TooMany eb_TooMany tc_TooMany kc_TooMany lf_TooMany ci_TooMany lk_TooMany v2_TooMany fe_TooMany lcc_TooMany tp_ (PySem.W.mg_none_of X G zz_super) oq_ si_TooMany ve_TooMany) sc_TooMany___init__ rfl rfl rfl su_TooMany___init__ (fun L => ⟨_, rfl⟩) (fun L => rfl) (fun L => rfl) (fun L => rfl) no_TooMany (by decide) (by decide)⟩, X_TooMany.1, no_TooMany, X_TooMany.2⟩
  have n_TooMany := PySem.W.mg_of X G aC_TooMany
  have n_LentError := PySem.W.mg_of X G aC_LentError
  have R0 := ok__law_begin (P := l.prog) (w := w) (mg := mg) (base := base) D0 z_list
  have R1 := ok__law_grown (P := l.prog) (w := w) (mg := mg) (base := base) D1 z_list z_int z_len z_range
  have R2 := ok__law_draw (P := l.prog) (w := w) (mg := mg) (base := base) D2 z_len z_int
  have R3 := ok_fresh_number (P := l.prog) (w := w) (mg := mg) (base := base) D3 
  have R4 := ok_longer_settings (P := l.prog) (w := w) (mg := mg) (base := base) D4 (D3.called R3)
  have R5 := ok_enough_settings (P := l.prog) (w := w) (mg := mg) (base := base) D5 (D4.called R4) E_TooMany z_len G_MOST_UNKNOWNS
  have R6 := ok__law_longer (P := l.prog) (w := w) (mg := mg) (base := base) D6 z_range
  have RH8 := okH__law_same (P := l.prog) (w := w) (mg := mg) (base := base) D8 D7 z_isinstance z_bool z_int z_str z_list z_tuple z_len z_range
  have R8 := ok__law_same (P := l.prog) (w := w) (mg := mg) (base := base) D8 D7 z_isinstance z_bool z_int z_str z_list z_tuple z_len z_range
  have R9 := ok_law (P := l.prog) (w := w) (mg := mg) (base := base) D9 (D0.called R0) (D1.called R1) (D2.called R2) (D5.calledX R5) (D6.called R6) (D8.called R8) (D8.calledH RH8) E_TooMany n_TooMany n_LentError xm_TooMany_TooMany ki_TooMany_LentError z_range z_int z_list z_isinstance
  exact R9
end K05
open PySem PySem.W PyProof.Rows
set_option maxHeartbeats 0 in
theorem PySem.Challenge.cw_fieldsandcalls_k05_settings_that_are_eno_holds : PySem.Challenge.rw_fieldsandcalls_k05_settings_that_are_eno.Holds := by
  w_on; o_law; k_head; (case hw => w_witness2)
  k_fill
  refine DL.walk (l := PySem.Challenge.rw_fieldsandcalls_k05_settings_that_are_eno) (k := 41) ⟨rfl, by decide, by decide⟩ rfl rfl (fun w h Y => PySem.W.kIn_of Y) ?F
  case F =>
    intro w mg fa h KX G hmg
    refine' K05.all_mk KX G hmg ?aC_TooMany ?aC_LentError ?tp_ ?zz_super ?oq_ ?hn_ ?ht_ ?lc_TooMany ?rv_TooMany ?sa_TooMany ?eb_TooMany ?tc_TooMany ?kc_TooMany ?ii_TooMany ?tf_TooMany' ?lf_TooMany ?ci_TooMany ?lk_TooMany ?v2_TooMany ?fe_TooMany ?lcc_TooMany ?si_TooMany ?ve_TooMany ?no_TooMany ?hg_TooMany ?hk_TooMany ?hd_TooMany ?ha_TooMany ?hm_TooMany ?xm_TooMany_TooMany ?ki_TooMany_LentError ?a0 ?l0 ?c0 ?k0 ?a1 ?l1 ?c1 ?k1 ?a2 ?l2 ?c2 ?k2 ?a3 ?l3 ?c3 ?k3 ?a4 ?l4 ?c4 ?k4 ?a5 ?l5 ?c5 ?k5 ?a6 ?l6 ?c6 ?k6 ?a7 ?l7 ?c7 ?k7 ?a8 ?l8 ?c8 ?k8 ?a9 ?l9 ?c9 ?k9 ?g_MOST_UNKNOWNS ?zz_list ?zz_int ?zz_len ?zz_range ?zz_isinstance ?zz_bool ?zz_str ?zz_tuple
    (case aC_TooMany => k_is); (case aC_LentError => k_is); (case tp_ => rfl); (case zz_super => k_is); (case oq_ => k_is); (case hn_ => k_is); (case ht_ => k_is); (case lc_TooMany => k_is); (case rv_TooMany => rfl); (case sa_TooMany => k_is); (case eb_TooMany => k_is); (case tc_TooMany => k_is); (case kc_TooMany => k_is); (case ii_TooMany => k_is); (case tf_TooMany' => k_is); (case lf_TooMany => k_is); (case ci_TooMany => k_is); (case lk_TooMany => k_is); (case v2_TooMany => rfl); (case fe_TooMany => rfl); (case lcc_TooMany => k_is); (case si_TooMany => ks_is); (case ve_TooMany => k_is); (case no_TooMany => k_is); (case hg_TooMany => k_is); (case hk_TooMany => k_is); (case hd_TooMany => k_is); (case ha_TooMany => k_is); (case hm_TooMany => k_is); (case xm_TooMany_TooMany => kts_exm); (case ki_TooMany_LentError => kit_is); (case a0 => k_is); (case l0 => k_is); (case c0 => k_is); (case k0 => k_is); (case a1 => k_is); (case l1 => k_is); (case c1 => k_is); (case k1 => k_is); (case a2 => k_is); (case l2 => k_is); (case c2 => k_is); (case k2 => k_is); (case a3 => k_is); (case l3 => k_is); (case c3 => k_is); (case k3 => k_is); (case a4 => k_is); (case l4 => k_is); (case c4 => k_is); (case k4 => k_is); (case a5 => k_is); (case l5 => k_is); (case c5 => k_is); (case k5 => k_is); (case a6 => k_is); (case l6 => k_is); (case c6 => k_is); (case k6 => k_is); (case a7 => k_is); (case l7 => k_is); (case c7 => k_is); (case k7 => k_is); (case a8 => k_is); (case l8 => k_is); (case c8 => k_is); (case k8 => k_is); (case a9 => k_is); (case l9 => k_is); (case c9 => k_is); (case k9 => k_is); (case g_MOST_UNKNOWNS => k_is); (case zz_list => k_is); (case zz_int => k_is); (case zz_len => k_is); (case zz_range => k_is); (case zz_isinstance => k_is); (case zz_bool => k_is); (case zz_str => k_is); (case zz_tuple => k_is)
