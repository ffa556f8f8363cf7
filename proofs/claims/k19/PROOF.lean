import PyProof.Rows.All
import Wide.All
import OpenK.AllK
import Wide.FinOn
import HandS.ForMost
import HandS.Flow
import HandS.FStr
import HandS.IsInst
import HandS.StrMore
import HandS.More
import HandS.Property
import HandS.ExcInit
import HandS.ExcOwn
import HandS.Nested
import KE.KSuper
import KE.KExcSuper
import HandS.ExcCtx
import HandS.ExcField
import HandS.ExcIs
import HandS.ExcInitHot
import HandS.WordsExc
import KE.KExcIs
import HandS.HotCalls
import KE.RegKSuper
import KE.RegKIsAll
import KE.RegKTryMore
import HandS.DictComp
import HandS.OwnIter
import HandS.IterVal
import KE.KCallOwn
import KE.KOpsOwn
import KE.KOwnIter
import HandS.SlotsOwn
import HandS.Star
import HandS.ClsMeth
import HandS.TryOnly
import HandS.IterNext
import HandS.Conv
import PySem.Challenge.RW_fieldsandcalls_k19_harmful_entries
set_option Elab.async false
set_option linter.all false
set_option maxRecDepth 100000
/-! DL0: the data layer: data D, how a value shows it (Rep), the store of cells (Mu), the state (Sat), the judgements over data. -/
namespace DL
open PySem PySem.Spec PyProof.Rows L2
abbrev St := L2.St

inductive D where
  | non | bl (b : Bool) | int (i : Int) | str (s : Str)
  | lst (xs : List D) | tup (xs : List D)
  | dic (kvs : List (Key × D))
  | obj (C : Addr) (fs : List (Str × D))
  | src | room | ptr (a : Addr)
  | scr (ns : List Int)

/-- ghost: the frozen heap, the source of draws, the counters -/
structure Gh where
  fr : Hp
  src : List Addr
  rooms : List Addr

def Ext (H H' : Hp) : Prop := ∀ a o, H a = some o → H' a = some o
theorem Ext.refl (H : Hp) : Ext H H := fun _ _ h => h
theorem Ext.trans {H H1 H2 : Hp} (a : Ext H H1) (b : Ext H1 H2) : Ext H H2 := fun x o h => b x o (a x o h)
theorem Ext.new {H : Hp} {p : Addr} {o : HO} (h : H p = none) : Ext H (upd H p o) := fun a u e => by
  rw [upd_ne (ne_of_none e h)]; exact e
theorem Ext.mut {H H' : Hp} {p : Addr} {o : HO} (e : Ext H H') (h : H p = none) : Ext H (upd H' p o) := fun a u ha => by
  rw [upd_ne (ne_of_none ha h)]; exact e a u ha
theorem Ext.both {H H' : Hp} {p : Addr} {o : HO} (e : Ext H H') : Ext (upd H p o) (upd H' p o) := fun a u ha => by
  unfold upd at *
  split
  · next z => rw [if_pos z] at ha; exact ha
  · next z => rw [if_neg z] at ha; exact e a u ha
theorem Ext.seqT {K : PySem.W.Frag} {H H' : Hp} {a : Addr} {xs : List V} (e : Ext H H') (h : SqT K H a xs) : SqT K H' a xs := by
  rcases h with (h | ⟨o, h⟩) | h
  · exact .inl (.inl (e _ _ h))
  · exact .inl (.inr ⟨o, e _ _ h⟩)
  · exact .inr h
theorem Ext.rd {H H' : Hp} {a : Addr} {u : HO} (e : Ext H H') (h : Rd H a u) : Rd H' a u := by
  rcases h with h | ⟨o, h⟩
  · exact .inl (e _ _ h)
  · exact .inr ⟨o, e _ _ h⟩
theorem Ext.seqL {K : PySem.W.Frag} {H H' : Hp} {a : Addr} {xs : List V} (e : Ext H H') (h : SqL K H a xs) : SqL K H' a xs := by
  rcases h with h | h
  · exact .inl (e.rd h)
  · exact .inr h
theorem Ext.free {H H' : Hp} (e : Ext H H') {l : Addr} (h : H' l = none) : H l = none := by
  cases q : H l with
  | none => rfl
  | some o => rw [e l o q] at h; cases h

structure Gle (G G' : Gh) : Prop where
  fr : Ext G.fr G'.fr
  src : ∀ a ∈ G.src, a ∈ G'.src
  rooms : ∀ a ∈ G.rooms, a ∈ G'.rooms
theorem Gle.refl (G : Gh) : Gle G G := ⟨Ext.refl _, fun _ h => h, fun _ h => h⟩
theorem Gle.trans {A B C : Gh} (x : Gle A B) (y : Gle B C) : Gle A C := ⟨x.fr.trans y.fr, fun a h => y.src a (x.src a h), fun a h => y.rooms a (x.rooms a h)⟩

/-- v shows d, the frozen heap at G -/
inductive Rep (K : PySem.W.Frag) (G : Gh) : V → D → Prop
  | non : Rep K G .non .non
  | bl (b : Bool) : Rep K G (.bl b) (.bl b)
  | int (i : Int) : Rep K G (.int i) (.int i)
  | str (s : Str) : Rep K G (.str s) (.str s)
  | lst {a : Addr} {vs : List V} {xs : List D} (h : G.fr a = some (.lst vs)) (l : vs.length = xs.length) (r : ∀ (i : Nat) v d, vs[i]? = some v → xs[i]? = some d → Rep K G v d) : Rep K G (.ref a) (.lst xs)
  | tup {a : Addr} {vs : List V} {xs : List D} (h : SqT K G.fr a vs) (l : vs.length = xs.length) (r : ∀ (i : Nat) v d, vs[i]? = some v → xs[i]? = some d → Rep K G v d) : Rep K G (.ref a) (.tup xs)
  | dic {a : Addr} {kvs : List (Key × V)} {xs : List (Key × D)} (h : G.fr a = some (.dK kvs)) (l : kvs.map (·.1) = xs.map (·.1)) (r : ∀ (i : Nat) v d, (kvs.map (·.2))[i]? = some v → (xs.map (·.2))[i]? = some d → Rep K G v d) : Rep K G (.ref a) (.dic xs)
  | obj {a C dx : Addr} {fvs : List (Str × V)} {fs : List (Str × D)} (h : G.fr a = some (.ins C dx fvs)) (l : fvs.map (·.1) = fs.map (·.1)) (r : ∀ (i : Nat) v d, (fvs.map (·.2))[i]? = some v → (fs.map (·.2))[i]? = some d → Rep K G v d) : Rep K G (.ref a) (.obj C fs)
  | src {a : Addr} (h : a ∈ G.src) : Rep K G (.ref a) .src
  | room {a : Addr} (h : a ∈ G.rooms) : Rep K G (.ref a) .room
  | ptr (a : Addr) : Rep K G (.ref a) (.ptr a)
  | scr {a : Addr} {ns : List Int} (h : SqL K G.fr a (ns.map V.int)) : Rep K G (.ref a) (.scr ns)
theorem Rep.mono {K : PySem.W.Frag} {G G' : Gh} {v : V} {d : D} (h : Rep K G v d) (g : Gle G G') : Rep K G' v d := by
  induction h with
  | non => exact .non
  | bl b => exact .bl b
  | int i => exact .int i
  | str s => exact .str s
  | lst h l _ ih => exact .lst (g.fr _ _ h) l ih
  | tup h l _ ih => exact .tup (g.fr.seqT h) l ih
  | dic h l _ ih => exact .dic (g.fr _ _ h) l ih
  | obj h l _ ih => exact .obj (g.fr _ _ h) l ih
  | src h => exact .src (g.src _ h)
  | room h => exact .room (g.rooms _ h)
  | ptr a => exact .ptr a
  | scr h => exact .scr (g.fr.seqL h)

def Reps (K : PySem.W.Frag) (G : Gh) (vs : List V) (xs : List D) : Prop := vs.length = xs.length ∧ ∀ (i : Nat) v d, vs[i]? = some v → xs[i]? = some d → Rep K G v d
section
variable {K : PySem.W.Frag} {G G' : Gh} {vs ws : List V} {xs ys : List D} {v : V} {d : D}
theorem Reps.mono (h : Reps K G vs xs) (g : Gle G G') : Reps K G' vs xs := ⟨h.1, fun i v d a b => (h.2 i v d a b).mono g⟩
theorem Reps.nil : Reps K G [] [] := ⟨rfl, fun i v d a _ => by simp at a⟩
theorem Reps.cons (h : Rep K G v d) (t : Reps K G vs xs) : Reps K G (v :: vs) (d :: xs) := ⟨by simp [t.1], fun i v' d' a b => by
  cases i with
  | zero => simp at a b; subst a; subst b; exact h
  | succ i => exact t.2 i v' d' (by simpa using a) (by simpa using b)⟩
theorem Reps.cons_inv (h : Reps K G vs (d :: xs)) : ∃ v r, vs = v :: r ∧ Rep K G v d ∧ Reps K G r xs := by
  cases vs with
  | nil => have := h.1; simp at this
  | cons v r => exact ⟨v, r, rfl, h.2 0 v d rfl rfl, by have := h.1; simpa using this, fun i v' d' a b => h.2 (i + 1) v' d' (by simpa using a) (by simpa using b)⟩
theorem Reps.cons_inv' (h : Reps K G (v :: vs) xs) : ∃ d r, xs = d :: r ∧ Rep K G v d ∧ Reps K G vs r := by
  cases xs with
  | nil => have := h.1; simp at this
  | cons d r => exact ⟨d, r, rfl, h.2 0 v d rfl rfl, by have := h.1; simpa using this, fun i v' d' a b => h.2 (i + 1) v' d' (by simpa using a) (by simpa using b)⟩
theorem Reps.nil_inv (h : Reps K G vs []) : vs = [] := by
  have := h.1
  exact List.eq_nil_of_length_eq_zero (by simpa using this)
theorem Reps.nil_inv' (h : Reps K G [] xs) : xs = [] := by
  have := h.1
  exact List.eq_nil_of_length_eq_zero (by simpa using this.symm)
theorem Reps.append (h : Reps K G vs xs) (t : Reps K G ws ys) : Reps K G (vs ++ ws) (xs ++ ys) := by
  induction vs generalizing xs with
  | nil => rw [h.nil_inv']; exact t
  | cons v r ih => obtain ⟨d, x, rfl, a, b⟩ := h.cons_inv'; exact Reps.cons a (ih b)
theorem Reps.one (h : Rep K G v d) : Reps K G [v] [d] := Reps.cons h Reps.nil
theorem Reps.set (h : Reps K G vs xs) (r : Rep K G v d) (i : Nat) : Reps K G (vs.set i v) (xs.set i d) := by
  refine ⟨by simp [h.1], fun j v' d' a b => ?_⟩
  rw [List.getElem?_set] at a b
  split at a
  · next e =>
    rw [if_pos e] at b
    split at a
    · next l => rw [if_pos (by rw [← h.1]; exact l)] at b; cases a; cases b; exact r
    · cases a
  · next e => rw [if_neg e] at b; exact h.2 j v' d' a b
theorem Reps.take (h : Reps K G vs xs) (n : Nat) : Reps K G (vs.take n) (xs.take n) := by
  refine ⟨by simp [h.1], fun j v' d' a b => ?_⟩
  rw [List.getElem?_take] at a b
  split at a
  · next e => rw [if_pos e] at b; exact h.2 j v' d' a b
  · cases a
theorem Reps.drop (h : Reps K G vs xs) (n : Nat) : Reps K G (vs.drop n) (xs.drop n) := by
  refine ⟨by simp [h.1], fun j v' d' a b => ?_⟩
  rw [List.getElem?_drop] at a b
  exact h.2 _ v' d' a b
theorem Reps.get (h : Reps K G vs xs) {i : Nat} (e : xs[i]? = some d) : ∃ v, vs[i]? = some v ∧ Rep K G v d := by
  have l := (List.getElem?_eq_some_iff.mp e).1
  rw [← h.1] at l
  exact ⟨vs[i], List.getElem?_eq_getElem l, h.2 i _ d (List.getElem?_eq_getElem l) e⟩
theorem Reps.get' (h : Reps K G vs xs) {i : Nat} (e : vs[i]? = some v) : ∃ d, xs[i]? = some d ∧ Rep K G v d := by
  have l := (List.getElem?_eq_some_iff.mp e).1
  rw [h.1] at l
  exact ⟨xs[i], List.getElem?_eq_getElem l, h.2 i v _ e (List.getElem?_eq_getElem l)⟩
theorem Reps.reverse (h : Reps K G vs xs) : Reps K G vs.reverse xs.reverse := by
  induction vs generalizing xs with
  | nil => rw [h.nil_inv']; exact Reps.nil
  | cons v r ih => obtain ⟨d, x, rfl, a, b⟩ := h.cons_inv'; rw [List.reverse_cons, List.reverse_cons]; exact (ih b).append (Reps.one a)
theorem Reps.eraseIdx (h : Reps K G vs xs) (i : Nat) : Reps K G (vs.eraseIdx i) (xs.eraseIdx i) := by
  rw [List.eraseIdx_eq_take_drop_succ, List.eraseIdx_eq_take_drop_succ]
  exact (h.take i).append (h.drop (i + 1))
theorem Reps.dropLast (h : Reps K G vs xs) : Reps K G vs.dropLast xs.dropLast := by
  rw [List.dropLast_eq_take, List.dropLast_eq_take, h.1]
  exact h.take _
end

/-! ### cells -/
inductive Cell where
  | lst (xs : List D) | dic (kvs : List (Key × D)) | dicL (o : Obj) (vs : List (Key × V)) (kvs : List (Key × D)) | ins (C : Addr) (fs : List (Str × D))
abbrev Mu := Addr → Option Cell
abbrev DR := List (Option D)
def mup (μ : Mu) (a : Addr) (c : Cell) : Mu := fun b => if b = a then some c else μ b
def mdel (μ : Mu) (a : Addr) : Mu := fun b => if b = a then none else μ b
@[simp] theorem mup_same {μ : Mu} {a : Addr} {c : Cell} : mup μ a c a = some c := by simp [mup]
theorem mup_ne {μ : Mu} {a b : Addr} {c : Cell} (h : b ≠ a) : mup μ a c b = μ b := by simp [mup, h]
@[simp] theorem mup_mup {μ : Mu} {a : Addr} {c c' : Cell} : mup (mup μ a c) a c' = mup μ a c' := by
  funext b; unfold mup; split <;> rfl
theorem mup_self {μ : Mu} {a : Addr} {c : Cell} (h : μ a = some c) : mup μ a c = μ := by
  funext b; unfold mup; split
  · next e => subst e; exact h.symm
  · rfl
theorem mdel_mup {μ : Mu} {a : Addr} {c : Cell} (h : μ a = none) : mdel (mup μ a c) a = μ := by
  funext b; unfold mdel mup
  split
  · next e => subst e; exact h.symm
  · rfl
@[simp] theorem mdel_same {μ : Mu} {a : Addr} : mdel μ a a = none := by simp [mdel]
theorem mdel_ne {μ : Mu} {a b : Addr} (h : b ≠ a) : mdel μ a b = μ b := by simp [mdel, h]

def FReps {κ : Type} (K : PySem.W.Frag) (G : Gh) (kvs : List (κ × V)) (ds : List (κ × D)) : Prop := kvs.map (·.1) = ds.map (·.1) ∧ Reps K G (kvs.map (·.2)) (ds.map (·.2))
theorem FReps.mono {κ : Type} {K : PySem.W.Frag} {G G' : Gh} {kvs : List (κ × V)} {ds : List (κ × D)} (h : FReps K G kvs ds) (g : Gle G G') : FReps K G' kvs ds := ⟨h.1, h.2.mono g⟩
def CellR (K : PySem.W.Frag) (G : Gh) : HO → Cell → Prop
  | .lst vs, .lst xs => Reps K G vs xs
  | .dK kvs, .dic ds => FReps K G kvs ds
  | .frz o (.dK kvs), .dicL o' vs ds => o = o' ∧ kvs = vs ∧ FReps K G kvs ds
  | .ins C _ fvs, .ins C' fs => C = C' ∧ FReps K G fvs fs
  | _, _ => False
theorem CellR.mono {K : PySem.W.Frag} {G G' : Gh} {o : HO} {c : Cell} (h : CellR K G o c) (g : Gle G G') : CellR K G' o c := by
  cases o with
  | frz u o =>
    cases o <;> cases c <;> first
      | exact False.elim h
      | exact ⟨h.1, h.2.1, h.2.2.mono g⟩
  | _ =>
    cases c <;> first
      | exact False.elim h
      | exact Reps.mono h g
      | exact FReps.mono h g
      | exact ⟨h.1, h.2.mono g⟩
theorem cellR_lst {K : PySem.W.Frag} {G : Gh} {o : HO} {xs : List D} (h : CellR K G o (.lst xs)) : ∃ vs, o = .lst vs ∧ Reps K G vs xs := by
  cases o with
  | lst vs => exact ⟨vs, rfl, h⟩
  | frz u o => cases o <;> exact False.elim h
  | _ => exact False.elim h
theorem cellR_dic {K : PySem.W.Frag} {G : Gh} {o : HO} {xs : List (Key × D)} (h : CellR K G o (.dic xs)) : ∃ vs, o = .dK vs ∧ FReps K G vs xs := by
  cases o with
  | dK vs => exact ⟨vs, rfl, h⟩
  | frz u o => cases o <;> exact False.elim h
  | _ => exact False.elim h
theorem cellR_dicL {K : PySem.W.Frag} {G : Gh} {o : HO} {u : Obj} {vs : List (Key × V)} {xs : List (Key × D)} (h : CellR K G o (.dicL u vs xs)) : o = .frz u (.dK vs) ∧ FReps K G vs xs := by
  cases o with
  | frz u o =>
    cases o with
    | dK vs => obtain ⟨rfl, rfl, h⟩ := h; exact ⟨rfl, h⟩
    | _ => exact False.elim h
  | _ => exact False.elim h
theorem cellR_ins {K : PySem.W.Frag} {G : Gh} {o : HO} {C : Addr} {xs : List (Str × D)} (h : CellR K G o (.ins C xs)) : ∃ dx vs, o = .ins C dx vs ∧ FReps K G vs xs := by
  cases o with
  | ins C2 dx vs => obtain ⟨rfl, h⟩ := h; exact ⟨dx, vs, rfl, h⟩
  | frz u o => cases o <;> exact False.elim h
  | _ => exact False.elim h
/-- the source of draws: its list is frozen -/
def SrcAt (fr H : Hp) (a : Addr) : Prop := ∃ (l : Addr) (ns : List Int) (p r c : Int), H a = some (.lst [.ref l, .int p, .int r, .int c]) ∧ fr l = some (.lst (ns.map V.int)) ∧ 0 ≤ p

structure Hold (K : PySem.W.Frag) (G : Gh) (μ : Mu) (H : Hp) : Prop where
  fr : Ext G.fr H
  cell : ∀ a c, μ a = some c → G.fr a = none ∧ ∃ o, H a = some o ∧ CellR K G o c
  src : ∀ a ∈ G.src, G.fr a = none ∧ μ a = none ∧ SrcAt G.fr H a
  rooms : ∀ a ∈ G.rooms, G.fr a = none ∧ μ a = none ∧ a ∉ G.src ∧ ∃ n : Int, H a = some (.lst [.int n])
def Envr (K : PySem.W.Frag) (B : Gh) (G : Gh) (σ : St) (ρ : DR) : Prop := (σ.length = ρ.length ∧ Gle B G) ∧ ∀ (i : Nat) d, ρ[i]? = some (some d) → ∃ v, σ[i]? = some (some v) ∧ Rep K G v d
structure Sat (K : PySem.W.Frag) (B : Gh) (G : Gh) (ρ : DR) (μ : Mu) (σ : St) (H : Hp) : Prop where
  hold : Hold K G μ H
  env : Envr K B G σ ρ
section
variable {K : PySem.W.Frag} {G G' : Gh} {μ μ' : Mu} {H H' : Hp} {ρ ρ' : DR} {σ : St} {a p : Addr} {o : HO} {c : Cell} {v : V} {d : D}
theorem SrcAt.mono {fr fr' H H' : Hp} (h : SrcAt fr H a) (e : Ext fr fr') (k : ∀ o, H a = some o → H' a = some o) : SrcAt fr' H' a := by
  obtain ⟨l, ns, p, r, c, h1, h2, h3⟩ := h
  exact ⟨l, ns, p, r, c, k _ h1, e _ _ h2, h3⟩
/-- the heap grows, nothing else -/
theorem Hold.ext (h : Hold K G μ H) (e : Ext H H') : Hold K G μ H' :=
  ⟨h.fr.trans e, fun a c q => let ⟨x, o, y, z⟩ := h.cell a c q; ⟨x, o, e _ _ y, z⟩, fun a q => let ⟨x, y, z⟩ := h.src a q; ⟨x, y, z.mono (Ext.refl _) fun o => e a o⟩, fun a q => let ⟨x, y, z, n, w⟩ := h.rooms a q; ⟨x, y, z, n, e _ _ w⟩⟩
theorem Hold.free (h : Hold K G μ H) (n : H p = none) : G.fr p = none ∧ μ p = none ∧ p ∉ G.src ∧ p ∉ G.rooms := by
  refine ⟨h.fr.free n, ?_, ?_, ?_⟩
  · cases q : μ p with
    | none => rfl
    | some c => obtain ⟨_, o, y, _⟩ := h.cell p c q; rw [n] at y; cases y
  · intro q
    obtain ⟨_, _, l, ns, p', r, c, h1, _⟩ := h.src p q
    rw [n] at h1; cases h1
  · intro q
    obtain ⟨_, _, _, m, w⟩ := h.rooms p q
    rw [n] at w; cases w
/-- the ghost with one more frozen object -/
def Gh.frz (G : Gh) (p : Addr) (o : HO) : Gh := { G with fr := upd G.fr p o }
theorem Gle.frz (n : G.fr p = none) : Gle G (G.frz p o) := ⟨Ext.new n, fun _ h => h, fun _ h => h⟩
/-- a new frozen object -/
theorem Hold.new (h : Hold K G μ H) (n : H p = none) : Hold K (G.frz p o) μ (upd H p o) := by
  obtain ⟨f1, f2, f3, f4⟩ := h.free n
  have g : Gle G (G.frz p o) := Gle.frz f1
  refine ⟨h.fr.both, fun a c q => ?_, fun a q => ?_, fun a q => ?_⟩
  · obtain ⟨x, u, y, z⟩ := h.cell a c q
    have ne : a ≠ p := ne_of_none y n
    exact ⟨(upd_ne ne).trans x, u, (upd_ne ne).trans y, z.mono g⟩
  · obtain ⟨x, y, z⟩ := h.src a q
    have ne : a ≠ p := fun e => f3 (e ▸ q)
    exact ⟨(upd_ne ne).trans x, y, z.mono g.fr fun o q => (upd_ne ne).trans q⟩
  · obtain ⟨x, y, w, m, z⟩ := h.rooms a q
    have ne : a ≠ p := fun e => f4 (e ▸ q)
    exact ⟨(upd_ne ne).trans x, y, w, m, (upd_ne ne).trans z⟩
/-- a new cell -/
theorem Hold.cellNew (h : Hold K G μ H) (n : H p = none) (r : CellR K G o c) : Hold K G (mup μ p c) (upd H p o) := by
  obtain ⟨f1, f2, f3, f4⟩ := h.free n
  refine ⟨h.fr.trans (Ext.new n), fun a c' q => ?_, fun a q => ?_, fun a q => ?_⟩
  · by_cases e : a = p
    · subst e
      rw [mup_same] at q; cases q
      exact ⟨f1, o, upd_same, r⟩
    · rw [mup_ne e] at q
      obtain ⟨x, u, y, z⟩ := h.cell a c' q
      exact ⟨x, u, (upd_ne e).trans y, z⟩
  · obtain ⟨x, y, z⟩ := h.src a q
    have ne : a ≠ p := fun e => f3 (e ▸ q)
    exact ⟨x, (mup_ne ne).trans y, z.mono (Ext.refl _) fun o q => (upd_ne ne).trans q⟩
  · obtain ⟨x, y, w, m, z⟩ := h.rooms a q
    have ne : a ≠ p := fun e => f4 (e ▸ q)
    exact ⟨x, (mup_ne ne).trans y, w, m, (upd_ne ne).trans z⟩
/-- a cell is written -/
theorem Hold.cellSet {c0 : Cell} (h : Hold K G μ H) (q0 : μ p = some c0) (r : CellR K G o c) : Hold K G (mup μ p c) (upd H p o) := by
  obtain ⟨f1, u0, y0, _⟩ := h.cell p c0 q0
  refine ⟨h.fr.mut f1, fun a c' q => ?_, fun a q => ?_, fun a q => ?_⟩
  · by_cases e : a = p
    · subst e
      rw [mup_same] at q; cases q
      exact ⟨f1, o, upd_same, r⟩
    · rw [mup_ne e] at q
      obtain ⟨x, u, y, z⟩ := h.cell a c' q
      exact ⟨x, u, (upd_ne e).trans y, z⟩
  · obtain ⟨x, y, z⟩ := h.src a q
    have ne : a ≠ p := fun e => by rw [e, q0] at y; cases y
    exact ⟨x, (mup_ne ne).trans y, z.mono (Ext.refl _) fun o q => (upd_ne ne).trans q⟩
  · obtain ⟨x, y, w, m, z⟩ := h.rooms a q
    have ne : a ≠ p := fun e => by rw [e, q0] at y; cases y
    exact ⟨x, (mup_ne ne).trans y, w, m, (upd_ne ne).trans z⟩
/-- a cell is frozen -/
theorem Hold.freeze (h : Hold K G μ H) (q0 : μ p = some c) (hp : H p = some o) : Hold K (G.frz p o) (mdel μ p) H := by
  obtain ⟨f1, u0, y0, _⟩ := h.cell p c q0
  have g : Gle G (G.frz p o) := Gle.frz f1
  refine ⟨fun a u e => ?_, fun a c' q => ?_, fun a q => ?_, fun a q => ?_⟩
  · by_cases z : a = p
    · subst z
      have e' : upd G.fr a o a = some u := e
      rw [upd_same] at e'; cases e'; exact hp
    · have e' : upd G.fr p o a = some u := e
      rw [upd_ne z] at e'; exact h.fr a u e'
  · by_cases e : a = p
    · subst e; rw [mdel_same] at q; cases q
    · rw [mdel_ne e] at q
      obtain ⟨x, u, y, z⟩ := h.cell a c' q
      exact ⟨(upd_ne e).trans x, u, y, z.mono g⟩
  · obtain ⟨x, y, z⟩ := h.src a q
    have ne : a ≠ p := fun e => by rw [e, q0] at y; cases y
    exact ⟨(upd_ne ne).trans x, (mdel_ne ne).trans y, z.mono g.fr fun o q => q⟩
  · obtain ⟨x, y, w, m, z⟩ := h.rooms a q
    have ne : a ≠ p := fun e => by rw [e, q0] at y; cases y
    exact ⟨(upd_ne ne).trans x, (mdel_ne ne).trans y, w, m, z⟩
/-- a cell is forgotten -/
theorem Hold.drop (h : Hold K G μ H) : Hold K G (mdel μ p) H := by
  refine ⟨h.fr, fun a c' q => ?_, fun a q => ?_, fun a q => ?_⟩
  · by_cases e : a = p
    · subst e; rw [mdel_same] at q; cases q
    · rw [mdel_ne e] at q; exact h.cell a c' q
  · obtain ⟨x, y, z⟩ := h.src a q
    refine ⟨x, ?_, z⟩
    unfold mdel; split
    · rfl
    · exact y
  · obtain ⟨x, y, w, z⟩ := h.rooms a q
    refine ⟨x, ?_, w, z⟩
    unfold mdel; split
    · rfl
    · exact y
theorem Envr.mono (h : Envr K B G σ ρ) (g : Gle G G') : Envr K B G' σ ρ := ⟨⟨h.1.1, h.1.2.trans g⟩, fun i d q => let ⟨v, a, b⟩ := h.2 i d q; ⟨v, a, b.mono g⟩⟩
theorem Envr.set (h : Envr K B G σ ρ) (r : Rep K G v d) (i : Nat) : Envr K B G (σ.set i (some v)) (ρ.set i (some d)) := by
  refine ⟨⟨by simp [h.1.1], h.1.2⟩, fun j d' q => ?_⟩
  rw [List.getElem?_set] at q
  split at q
  · next e =>
    subst e
    split at q
    · next l => cases q; exact ⟨v, by rw [List.getElem?_set_self (by rw [h.1.1]; exact l)], r⟩
    · cases q
  · next e => obtain ⟨u, a, b⟩ := h.2 j d' q; exact ⟨u, by rw [List.getElem?_set_ne e]; exact a, b⟩
theorem Sat.ext (h : Sat K B G ρ μ σ H) (e : Ext H H') : Sat K B G ρ μ σ H' := ⟨h.hold.ext e, h.env⟩
theorem Sat.new (h : Sat K B G ρ μ σ H) (n : H p = none) : Sat K B (G.frz p o) ρ μ σ (upd H p o) := ⟨h.hold.new n, h.env.mono (Gle.frz (h.hold.free n).1)⟩
theorem Sat.gle_new (h : Sat K B G ρ μ σ H) (n : H p = none) : Gle G (G.frz p o) := Gle.frz (h.hold.free n).1
end

/-! ### what is seen of a datum: a cell's content -/
def vw (μ : Mu) : D → D
  | .ptr a => match μ a with
    | some (.lst xs) => .lst xs
    | some (.dic kvs) => .dic kvs
    | some (.dicL _ _ kvs) => .dic kvs
    | some (.ins C fs) => .obj C fs
    | none => .ptr a
  | d => d
@[simp] theorem vw_non {μ : Mu} : vw μ .non = .non := rfl
@[simp] theorem vw_bl {μ : Mu} {b : Bool} : vw μ (.bl b) = .bl b := rfl
@[simp] theorem vw_int {μ : Mu} {i : Int} : vw μ (.int i) = .int i := rfl
@[simp] theorem vw_str {μ : Mu} {s : Str} : vw μ (.str s) = .str s := rfl
@[simp] theorem vw_lst {μ : Mu} {xs : List D} : vw μ (.lst xs) = .lst xs := rfl
@[simp] theorem vw_tup {μ : Mu} {xs : List D} : vw μ (.tup xs) = .tup xs := rfl
@[simp] theorem vw_dic {μ : Mu} {xs : List (Key × D)} : vw μ (.dic xs) = .dic xs := rfl
@[simp] theorem vw_obj {μ : Mu} {C : Addr} {fs : List (Str × D)} : vw μ (.obj C fs) = .obj C fs := rfl
@[simp] theorem vw_scr {μ : Mu} {ns : List Int} : vw μ (.scr ns) = .scr ns := rfl
@[simp] theorem vw_ptr {μ : Mu} {a : Addr} {c : Cell} : vw (mup μ a c) (.ptr a) = match c with | .lst xs => .lst xs | .dic kvs => .dic kvs | .dicL _ _ kvs => .dic kvs | .ins C fs => .obj C fs := by
  simp [vw]; cases c <;> rfl
theorem vw_pd {μ : Mu} {a : Addr} : vw μ (.ptr a) = match μ a with | some (.lst xs) => .lst xs | some (.dic kvs) => .dic kvs | some (.dicL _ _ kvs) => .dic kvs | some (.ins C fs) => .obj C fs | none => .ptr a := rfl
theorem vw_of {μ : Mu} {a : Addr} {xs : List D} (h : μ a = some (.lst xs)) : vw μ (.ptr a) = .lst xs := by simp [vw, h]
section
variable {K : PySem.W.Frag} {G : Gh} {μ : Mu} {H : Hp} {v : V} {d : D}
/-- a list that is seen stands in the heap -/
theorem Hold.lst (h : Hold K G μ H) (r : Rep K G v d) {xs : List D} (e : vw μ d = .lst xs) : ∃ a vs, v = .ref a ∧ H a = some (.lst vs) ∧ Reps K G vs xs := by
  cases r with
  | lst hh l r => cases e; exact ⟨_, _, rfl, h.fr _ _ hh, l, r⟩
  | ptr a =>
    simp only [vw] at e
    cases q : μ a with
    | none => rw [q] at e; cases e
    | some c =>
      rw [q] at e
      cases c with
      | lst ys =>
        cases e
        obtain ⟨_, o, y, z⟩ := h.cell a _ q
        obtain ⟨vs, rfl, z2⟩ := cellR_lst z
        exact ⟨a, vs, rfl, y, z2⟩
      | dic _ => cases e
      | dicL _ _ _ => cases e
      | ins _ _ => cases e
  | _ => cases e
theorem Hold.tup (h : Hold K G μ H) (r : Rep K G v d) {xs : List D} (e : vw μ d = .tup xs) : ∃ a vs, v = .ref a ∧ SqT K H a vs ∧ Reps K G vs xs := by
  cases r with
  | tup hh l r => cases e; exact ⟨_, _, rfl, h.fr.seqT hh, l, r⟩
  | ptr a =>
    simp only [vw] at e
    cases q : μ a with
    | none => rw [q] at e; cases e
    | some c => rw [q] at e; cases c <;> cases e
  | _ => cases e
theorem Hold.dic (h : Hold K G μ H) (r : Rep K G v d) {xs : List (Key × D)} (e : vw μ d = .dic xs) : ∃ a vs, v = .ref a ∧ Rd H a (.dK vs) ∧ FReps K G vs xs := by
  cases r with
  | dic hh l r => cases e; exact ⟨_, _, rfl, .inl (h.fr _ _ hh), l, by have := congrArg List.length l; simpa using this, r⟩
  | ptr a =>
    simp only [vw] at e
    cases q : μ a with
    | none => rw [q] at e; cases e
    | some c =>
      rw [q] at e
      cases c with
      | dic ys =>
        cases e
        obtain ⟨_, o, y, z⟩ := h.cell a _ q
        obtain ⟨vs, rfl, z2⟩ := cellR_dic z
        exact ⟨a, vs, rfl, .inl y, z2⟩
      | dicL u0 vs0 ys =>
        cases e
        obtain ⟨_, o, y, z⟩ := h.cell a _ q
        obtain ⟨rfl, z2⟩ := cellR_dicL z
        exact ⟨a, _, rfl, .inr ⟨_, y⟩, z2⟩
      | lst _ => cases e
      | ins _ _ => cases e
  | _ => cases e
theorem Hold.obj (h : Hold K G μ H) (r : Rep K G v d) {C : Addr} {fs : List (Str × D)} (e : vw μ d = .obj C fs) : ∃ a dx vs, v = .ref a ∧ H a = some (.ins C dx vs) ∧ FReps K G vs fs := by
  cases r with
  | obj hh l r => cases e; exact ⟨_, _, _, rfl, h.fr _ _ hh, l, by have := congrArg List.length l; simpa using this, r⟩
  | ptr a =>
    simp only [vw] at e
    cases q : μ a with
    | none => rw [q] at e; cases e
    | some c =>
      rw [q] at e
      cases c with
      | ins C' ys =>
        cases e
        obtain ⟨_, o, y, z⟩ := h.cell a _ q
        obtain ⟨dx, vs, rfl, z2⟩ := cellR_ins z
        exact ⟨a, dx, vs, rfl, y, z2⟩
      | lst _ => cases e
      | dic _ => cases e
      | dicL _ _ _ => cases e
  | _ => cases e
theorem Rep.ofInt {i : Int} (r : Rep K G v (.int i)) : v = .int i := by cases r; rfl
theorem Rep.ofStr {i : Str} (r : Rep K G v (.str i)) : v = .str i := by cases r; rfl
theorem Rep.ofBl {i : Bool} (r : Rep K G v (.bl i)) : v = .bl i := by cases r; rfl
theorem Rep.ofNon (r : Rep K G v .non) : v = .non := by cases r; rfl
end

/-! ### readings over data, and how they stand to the layer's -/
abbrev QD := D → Mu → Prop
abbrev TDE := DR → Mu → QD → Prop
abbrev TDT := DR → Mu → (Bool → Mu → Prop) → Prop
abbrev TDA := DR → Mu → (List D → Mu → Prop) → Prop
structure DEnds where
  nx : DR → Mu → Prop
  rt : QD
  bk : DR → Mu → Prop := fun _ _ => False
  ct : DR → Mu → Prop := fun _ _ => False
abbrev TDS := DEnds → DR → Mu → Prop
/-- a datum handed on: from Q over data to Qn over values -/
def Hand (K : PySem.W.Frag) (B : Gh) (G : Gh) (ρ : DR) (σ : St) (Q : QD) (Qn : VK) : Prop := ∀ d μ' v H' G', Gle G G' → Sat K B G' ρ μ' σ H' → Rep K G' v d → Q d μ' → Qn v H'
def RefE (K : PySem.W.Frag) (B : Gh) (T : TDE) (t : TE) : Prop := ∀ ρ μ σ H G Q (Qn : VK), Sat K B G ρ μ σ H → T ρ μ Q → Hand K B G ρ σ Q Qn → t σ H Qn
def RefT (K : PySem.W.Frag) (B : Gh) (T : TDT) (t : TT) : Prop := ∀ ρ μ σ H G Q (Qn : Bool → Hp → Prop), Sat K B G ρ μ σ H → T ρ μ Q → (∀ b μ' H' G', Gle G G' → Sat K B G' ρ μ' σ H' → Q b μ' → Qn b H') → t σ H Qn
def RefA (K : PySem.W.Frag) (B : Gh) (T : TDA) (t : TA) : Prop := ∀ ρ μ σ H G Q (Qn : List V → Hp → Prop), Sat K B G ρ μ σ H → T ρ μ Q → (∀ ds μ' vs H' G', Gle G G' → Sat K B G' ρ μ' σ H' → Reps K G' vs ds → Q ds μ' → Qn vs H') → t σ H Qn
structure EndsR (K : PySem.W.Frag) (B : Gh) (G : Gh) (E : DEnds) (Dn : Ends) : Prop where
  nx : ∀ ρ' μ' σ' H' G', Gle G G' → Sat K B G' ρ' μ' σ' H' → E.nx ρ' μ' → Dn.nx σ' H'
  rt : ∀ d μ' v H' G', Gle G G' → Hold K G' μ' H' → Rep K G' v d → E.rt d μ' → Dn.rt v H'
  bk : ∀ ρ' μ' σ' H' G', Gle G G' → Sat K B G' ρ' μ' σ' H' → E.bk ρ' μ' → Dn.bk σ' H'
  ct : ∀ ρ' μ' σ' H' G', Gle G G' → Sat K B G' ρ' μ' σ' H' → E.ct ρ' μ' → Dn.ct σ' H'
theorem EndsR.mono {K : PySem.W.Frag} {G G' : Gh} {E : DEnds} {Dn : Ends} (h : EndsR K B G E Dn) (g : Gle G G') : EndsR K B G' E Dn :=
  ⟨fun ρ' μ' σ' H' G2 g2 => h.nx ρ' μ' σ' H' G2 (g.trans g2), fun d μ' v H' G2 g2 => h.rt d μ' v H' G2 (g.trans g2), fun ρ' μ' σ' H' G2 g2 => h.bk ρ' μ' σ' H' G2 (g.trans g2), fun ρ' μ' σ' H' G2 g2 => h.ct ρ' μ' σ' H' G2 (g.trans g2)⟩
theorem Hand.mono {K : PySem.W.Frag} {G G' : Gh} {ρ : DR} {σ : St} {Q : QD} {Qn : VK} (h : Hand K B G ρ σ Q Qn) (g : Gle G G') : Hand K B G' ρ σ Q Qn := fun d μ' v H' G2 g2 => h d μ' v H' G2 (g.trans g2)
def RefS (K : PySem.W.Frag) (B : Gh) (T : TDS) (t : TS) : Prop := ∀ ρ μ σ H G (E : DEnds) (Dn : Ends), Sat K B G ρ μ σ H → T E ρ μ → EndsR K B G E Dn → t Dn σ H

structure DE (X : Cx) (B : Gh) (e : Expr) (t : TE) (T : TDE) : Prop where
  pe : PE X e t
  ref : RefE X.K B T t
structure DT (X : Cx) (B : Gh) (e : Expr) (t : TT) (T : TDT) : Prop where
  pt : PT X e t
  ref : RefT X.K B T t
structure DW (X : Cx) (B : Gh) (e : Expr) (t : TT) (T : TDT) : Prop where
  pw : PW X e t
  ref : RefT X.K B T t
structure DA (X : Cx) (B : Gh) (es : List Expr) (t : TA) (T : TDA) : Prop where
  pa : PA X es t
  ref : RefA X.K B T t
structure DS (X : Cx) (B : Gh) (st : Stmt) (t : TS) (T : TDS) : Prop where
  ps : PS X st t
  ref : RefS X.K B T t
structure DSs (X : Cx) (B : Gh) (st : List Stmt) (t : TS) (T : TDS) : Prop where
  pss : PSs X st t
  ref : RefS X.K B T t
end DL

/-! DL1: rules of the data layer: expressions, tests, statements. -/
namespace DL
open PySem PySem.Spec PyProof.Rows L2

section
variable {X : Cx} {pos : Pos}

/-! ### names, constants -/
@[simp] def dVar (i : Nat) : TDE := fun ρ μ Q => match ρ[i]? with | some (some d) => Q d μ | _ => False
@[simp] def dC (d : D) : TDE := fun _ μ Q => Q d μ
theorem ref_var {K : PySem.W.Frag} (i : Nat) : RefE K B (dVar i) (tVar i) := by
  intro ρ μ σ H G Q Qn S h hd
  unfold dVar at h
  split at h
  · next d e =>
    obtain ⟨v, a, b⟩ := S.env.2 i d e
    exact ⟨v, a, hd d μ v H G (Gle.refl G) S b h⟩
  · exact h.elim
theorem dv (i : Nat) {x : Str} {pos : Pos} (hN : X.N[i]? = some x := by rfl) (hv : Vis X.env.scope x := by first | exact Or.inl rfl | exact Or.inr (Or.inl rfl) | exact Or.inr (Or.inr rfl)) (hd : (x == ("__debug__" : Str)) = false := by decide)
    (hcd : (x == ("__classdict__" : Str)) = false := by decide) : DE X B (.Name x pos) (tVar i) (dVar i) := ⟨pe_var hN hv hd hcd, ref_var i⟩
theorem ref_c {K : PySem.W.Frag} {v : V} {d : D} (r : ∀ G, Rep K G v d) : RefE K B (dC d) (tC v) := fun ρ μ σ H G Q Qn S h hd => hd d μ v H G (Gle.refl G) S (r G) h
theorem de_int {i j pos} : DE X B (.Constant (.int i) j pos) (tC (.int i)) (dC (.int i)) := ⟨pe_int, ref_c fun _ => .int i⟩
theorem de_bl {b j pos} : DE X B (.Constant (.bool b) j pos) (tC (.bl b)) (dC (.bl b)) := ⟨pe_bl, ref_c fun _ => .bl b⟩
theorem de_non {j pos} : DE X B (.Constant .none j pos) (tC .non) (dC .non) := ⟨pe_non, ref_c fun _ => .non⟩
theorem de_str {x j pos} : DE X B (.Constant (.str x) j pos) (tC (.str x)) (dC (.str x)) := ⟨pe_str, ref_c fun _ => .str x⟩
/-- a module's constant -/
theorem de_glob {x : Str} {v : V} {u : Value} {d : D} (hg : Gl X x) (hm : X.mg x = some u) (r : RelV v u) (rr : ∀ G, Rep X.K G v d) (hd : (x == ("__debug__" : Str)) = false := by decide) : DE X B (.Name x pos) (tC v) (dC d) := ⟨pe_glob hg hm r hd, ref_c rr⟩

/-! ### new lists -/
/-- c: a cell; else frozen -/
def mkL (c : Bool) (xs : List D) (μ : Mu) (Q : QD) : Prop := match c with
  | true => ∀ a, μ a = none → Q (.ptr a) (mup μ a (.lst xs))
  | false => Q (.lst xs) μ
@[simp] theorem mkL_t {xs : List D} {μ : Mu} {Q : QD} : mkL true xs μ Q = ∀ a, μ a = none → Q (.ptr a) (mup μ a (.lst xs)) := rfl
@[simp] theorem mkL_f {xs : List D} {μ : Mu} {Q : QD} : mkL false xs μ Q = Q (.lst xs) μ := rfl
theorem Sat.cellNew {K : PySem.W.Frag} {G : Gh} {μ : Mu} {H : Hp} {ρ : DR} {σ : St} {p : Addr} {o : HO} {c : Cell} (h : Sat K B G ρ μ σ H) (n : H p = none) (r : CellR K G o c) : Sat K B G ρ (mup μ p c) σ (upd H p o) := ⟨h.hold.cellNew n r, h.env⟩
theorem mkL_go {K : PySem.W.Frag} {c : Bool} {xs : List D} {μ : Mu} {Q : QD} {ρ : DR} {σ : St} {H : Hp} {G : Gh} {vs : List V} {Qn : VK} {p : Addr} (h : mkL c xs μ Q) (S : Sat K B G ρ μ σ H) (r : Reps K G vs xs) (hd : Hand K B G ρ σ Q Qn) (n : H p = none) : Qn (.ref p) (upd H p (.lst vs)) := by
  cases c with
  | true => exact hd (.ptr p) _ _ _ G (Gle.refl G) (S.cellNew n (show CellR K G (.lst vs) (.lst xs) from r)) (.ptr p) (h p (S.hold.free n).2.1)
  | false => exact hd (.lst xs) μ _ _ (G.frz p (.lst vs)) (S.gle_new n) (S.new n) (.lst (show upd G.fr p (.lst vs) p = some (.lst vs) from upd_same) r.1 fun i v d a b => (r.2 i v d a b).mono (S.gle_new n)) h
theorem tup_go {K : PySem.W.Frag} {xs : List D} {μ : Mu} {Q : QD} {ρ : DR} {σ : St} {H : Hp} {G : Gh} {vs : List V} {Qn : VK} {p : Addr} (h : Q (.tup xs) μ) (S : Sat K B G ρ μ σ H) (r : Reps K G vs xs) (hd : Hand K B G ρ σ Q Qn) (n : H p = none) : Qn (.ref p) (upd H p (.tup vs)) :=
  hd (.tup xs) μ _ _ (G.frz p (.tup vs)) (S.gle_new n) (S.new n) (.tup (.inl (.inl (show upd G.fr p (.tup vs) p = some (.tup vs) from upd_same))) r.1 fun i v d a b => (r.2 i v d a b).mono (S.gle_new n)) h
/-- an object made frozen; a dict -/
theorem dic_go {K : PySem.W.Frag} {xs : List (Key × D)} {μ : Mu} {Q : QD} {ρ : DR} {σ : St} {H : Hp} {G : Gh} {vs : List (Key × V)} {Qn : VK} {p : Addr} (h : Q (.dic xs) μ) (S : Sat K B G ρ μ σ H) (r : FReps K G vs xs) (hd : Hand K B G ρ σ Q Qn) (n : H p = none) : Qn (.ref p) (upd H p (.dK vs)) :=
  hd (.dic xs) μ _ _ (G.frz p (.dK vs)) (S.gle_new n) (S.new n) (.dic (show upd G.fr p (.dK vs) p = some (.dK vs) from upd_same) r.1 fun i v d a b => (r.2.2 i v d a b).mono (S.gle_new n)) h
theorem Hand.now {K : PySem.W.Frag} {G : Gh} {ρ : DR} {σ : St} {Q : QD} {Qn : VK} {μ : Mu} {H : Hp} {d : D} {v : V} (hd : Hand K B G ρ σ Q Qn) (S : Sat K B G ρ μ σ H) (r : Rep K G v d) (q : Q d μ) : Qn v H := hd d μ v H G (Gle.refl G) S r q

/-! ### arguments, displays -/
@[simp] def dNil : TDA := fun _ μ Q => Q [] μ
@[simp] def dCons (Ta : TDE) (Tr : TDA) : TDA := fun ρ μ Q => Ta ρ μ fun d μ1 => Tr ρ μ1 fun ds μ2 => Q (d :: ds) μ2
theorem da_nil : DA X B [] tNil dNil := ⟨pa_nil, fun ρ μ σ H G Q Qn S h hd => hd [] μ [] H G (Gle.refl G) S Reps.nil h⟩
theorem da_cons {e : Expr} {es : List Expr} {te : TE} {t : TA} {Te : TDE} {T : TDA} (ha : DE X B e te Te) (hr : DA X B es t T) (hs : starEach (e :: es) X.env = (false, eval e X.env) :: starEach es X.env := by rfl) : DA X B (e :: es) (tCons te t) (dCons Te T) :=
  ⟨pa_cons ha.pe hr.pa hs, fun ρ μ σ H G Q Qn S h hd => ha.ref ρ μ σ H G _ _ S h fun d μ1 v H1 G1 g1 S1 r1 q1 => hr.ref ρ μ1 σ H1 G1 _ _ S1 q1 fun ds μ2 vs H2 G2 g2 S2 r2 q2 => hd (d :: ds) μ2 (v :: vs) H2 G2 (g1.trans g2) S2 (Reps.cons (r1.mono g2) r2) q2⟩
@[simp] def dLst (c : Bool) (T : TDA) : TDE := fun ρ μ Q => T ρ μ fun ds μ1 => ds.length ≤ sizeLine ∧ mkL c ds μ1 Q
@[simp] def dTup (T : TDA) : TDE := fun ρ μ Q => T ρ μ fun ds μ1 => ds.length ≤ sizeLine ∧ Q (.tup ds) μ1
theorem de_lst (c : Bool) {es : List Expr} {t : TA} {T : TDA} (h : DA X B es t T) : DE X B (.List es pos) (tLst t) (dLst c T) :=
  ⟨pe_lst h.pa, fun ρ μ σ H G Q Qn S q hd => h.ref ρ μ σ H G _ _ S q fun ds μ1 vs H1 G1 g1 S1 r1 ⟨l, q1⟩ => ⟨by rw [r1.1]; exact l, fun p n => mkL_go q1 S1 r1 (hd.mono g1) n⟩⟩
theorem de_tup {es : List Expr} {x1} {t : TA} {T : TDA} (h : DA X B es t T) : DE X B (.Tuple es x1 pos) (tTup t) (dTup T) :=
  ⟨pe_tup h.pa, fun ρ μ σ H G Q Qn S q hd => h.ref ρ μ σ H G _ _ S q fun ds μ1 vs H1 G1 g1 S1 r1 ⟨l, q1⟩ => ⟨by rw [r1.1]; exact l, fun p n => tup_go q1 S1 r1 (hd.mono g1) n⟩⟩

/-! ### operators -/
abbrev R2D := D → D → Mu → QD → Prop
def Ref2 (K : PySem.W.Frag) (B : Gh) (R : R2D) (r : R2) : Prop := ∀ ρ μ σ H G x y dx dy Q (Qn : VK), Sat K B G ρ μ σ H → Rep K G x dx → Rep K G y dy → R dx dy μ Q → Hand K B G ρ σ Q Qn → r x y H Qn
@[simp] def dOp (R : R2D) (Ta Tb : TDE) : TDE := fun ρ μ Q => Ta ρ μ fun x μ1 => Tb ρ μ1 fun y μ2 => R x y μ2 Q
theorem ref_op {K : PySem.W.Frag} {R : R2D} {r : R2} {ta tb : TE} {Ta Tb : TDE} (hr : Ref2 K B R r) (ha : RefE K B Ta ta) (hb : RefE K B Tb tb) : RefE K B (dOp R Ta Tb) (tOp r ta tb) :=
  fun ρ μ σ H G Q Qn S h hd => ha ρ μ σ H G _ _ S h fun d μ1 v H1 G1 g1 S1 r1 q1 => hb ρ μ1 σ H1 G1 _ _ S1 q1 fun d2 μ2 v2 H2 G2 g2 S2 r2 q2 => hr ρ μ2 σ H2 G2 v v2 d d2 Q Qn S2 (r1.mono g2) r2 q2 (hd.mono (g1.trans g2))
variable {a b : Expr} {ta tb : TE} {Ta Tb : TDE} {R : R2D} {r : R2}
theorem de_op {op : Operator} (ho : OpR X (binaryOp op) r ∧ Ref2 X.K B R r) (ha : DE X B a ta Ta) (hb : DE X B b tb Tb) : DE X B (.BinOp a op b pos) (tOp r ta tb) (dOp R Ta Tb) := ⟨pe_op ho.1 ha.pe hb.pe, ref_op ho.2 ha.ref hb.ref⟩
theorem de_cmp {op : CmpOp} (ho : OpR X (compareOp op) r ∧ Ref2 X.K B R r) (ha : DE X B a ta Ta) (hb : DE X B b tb Tb) (hm : behindInMarks op b = false := by first | exact nomark _ | rfl) : DE X B (.Compare a [op] [b] pos) (tOp r ta tb) (dOp R Ta Tb) := ⟨pe_cmpR ho.1 ha.pe hb.pe hm, ref_op ho.2 ha.ref hb.ref⟩
/-- a test of a value that is True or False -/
@[simp] def dB (T : TDE) : TDT := fun ρ μ Q => T ρ μ fun d μ1 => match d with | .bl b => Q b μ1 | _ => False
theorem ref_B {K : PySem.W.Frag} {t : TE} {T : TDE} (h : RefE K B T t) : RefT K B (dB T) (tTest t) := fun ρ μ σ H G Q Qn S q hd => h ρ μ σ H G _ _ S q fun d μ1 v H1 G1 g1 S1 r1 q1 => by
  cases d with
  | bl b => exact ⟨b, r1.ofBl, hd b μ1 H1 G1 g1 S1 q1⟩
  | _ => exact q1.elim
theorem dt_cmp {op : CmpOp} (ho : OpR X (compareOp op) r ∧ Ref2 X.K B R r) (ha : DE X B a ta Ta) (hb : DE X B b tb Tb) (hm : behindInMarks op b = false := by first | exact nomark _ | rfl) : DT X B (.Compare a [op] [b] pos) (tTest (tOp r ta tb)) (dB (dOp R Ta Tb)) := ⟨pt_cmpR ho.1 ha.pe hb.pe hm, ref_B (ref_op ho.2 ha.ref hb.ref)⟩
/-- any expression whose value is a bool -/
theorem dt_val {e : Expr} {t : TE} {T : TDE} (h : DE X B e t T) (he : ∀ whole, isTrue e X.env whole = (do let v ← whole; standAt e.pos; holding [v] (truthy v)) := by intro _; rfl) : DT X B e (tB t) (dB T) := ⟨pt_val h.pe he, ref_B h.ref⟩

/-! ints, texts, lists: + -/
@[simp] def opAdd : R2D := fun x y μ Q => match vw μ x, vw μ y with
  | .int i, .int j => Q (.int (i + j)) μ
  | .str s, .str t => s.length + t.length ≤ sizeLine ∧ Q (.str (s ++ t)) μ
  | .lst xs, .lst ys => xs.length + ys.length ≤ sizeLine ∧ Q (.lst (xs ++ ys)) μ
  | _, _ => False
@[simp] def opAddC : R2D := fun x y μ Q => match vw μ x, vw μ y with
  | .lst xs, .lst ys => xs.length + ys.length ≤ sizeLine ∧ mkL true (xs ++ ys) μ Q
  | _, _ => False
end

theorem vw_int' {μ : Mu} {d : D} {i : Int} (h : vw μ d = .int i) : d = .int i := by
  cases d with
  | ptr a =>
    simp only [vw] at h
    split at h <;> cases h
  | _ => first | exact h | cases h
theorem vw_str' {μ : Mu} {d : D} {i : Str} (h : vw μ d = .str i) : d = .str i := by
  cases d with
  | ptr a =>
    simp only [vw] at h
    split at h <;> cases h
  | _ => first | exact h | cases h
theorem vw_bl' {μ : Mu} {d : D} {i : Bool} (h : vw μ d = .bl i) : d = .bl i := by
  cases d with
  | ptr a =>
    simp only [vw] at h
    split at h <;> cases h
  | _ => first | exact h | cases h
section
variable {X : Cx}
def rAddA : R2 := fun x y H Q => (∃ i j, x = .int i ∧ y = .int j ∧ Q (.int (i + j)) H) ∨ (∃ i j, x = .str i ∧ y = .str j ∧ i.length + j.length ≤ sizeLine ∧ Q (.str (i ++ j)) H) ∨ rCat x y H Q
theorem op_addA : OpR X (binaryOp .Add) rAddA := op_add.or (op_add_str.or op_cat)
theorem ref_addC : Ref2 X.K B opAddC rAddA := by
  intro ρ μ σ H G x y dx dy Q Qn S r1 r2 h hd
  unfold opAddC at h
  split at h
  · next e1 e2 =>
    obtain ⟨l, h⟩ := h
    obtain ⟨p, vs, rfl, h1, q1⟩ := S.hold.lst r1 e1
    obtain ⟨p2, ws, rfl, h2, q2⟩ := S.hold.lst r2 e2
    exact .inr (.inr ⟨p, p2, vs, ws, rfl, rfl, h1, h2, by rw [q1.1, q2.1]; exact l, fun q n => mkL_go h S (q1.append q2) hd n⟩)
  · exact h.elim
theorem ref_add : Ref2 X.K B opAdd rAddA := by
  intro ρ μ σ H G x y dx dy Q Qn S r1 r2 h hd
  unfold opAdd at h
  split at h
  · next i j e1 e2 =>
    cases vw_int' e1; cases vw_int' e2
    exact .inl ⟨i, j, r1.ofInt, r2.ofInt, hd.now S (.int _) h⟩
  · next i j e1 e2 =>
    cases vw_str' e1; cases vw_str' e2
    exact .inr (.inl ⟨i, j, r1.ofStr, r2.ofStr, h.1, hd.now S (.str _) h.2⟩)
  · next e1 e2 =>
    obtain ⟨l, h⟩ := h
    obtain ⟨p, vs, rfl, h1, q1⟩ := S.hold.lst r1 e1
    obtain ⟨p2, ws, rfl, h2, q2⟩ := S.hold.lst r2 e2
    exact .inr (.inr ⟨p, p2, vs, ws, rfl, rfl, h1, h2, by rw [q1.1, q2.1]; exact l, fun q n => mkL_go (c := false) h S (q1.append q2) hd n⟩)
  · exact h.elim
theorem do_add : OpR X (binaryOp .Add) rAddA ∧ Ref2 X.K B opAdd rAddA := ⟨op_addA, ref_add⟩
theorem do_addC : OpR X (binaryOp .Add) rAddA ∧ Ref2 X.K B opAddC rAddA := ⟨op_addA, ref_addC⟩

/-- two ints, a side condition -/
@[simp] def opZ (C : Int → Int → Prop) (g : Int → Int → D) : R2D := fun x y μ Q => match x, y with
  | .int i, .int j => C i j ∧ Q (g i j) μ
  | _, _ => False
@[simp] def opZ0 (g : Int → Int → D) : R2D := fun x y μ Q => match x, y with
  | .int i, .int j => Q (g i j) μ
  | _, _ => False
theorem ref_I {C : Int → Int → Prop} {g : Int → Int → Int} : Ref2 X.K B (opZ C fun i j => .int (g i j)) (rI C fun i j => .int (g i j)) := by
  intro ρ μ σ H G x y dx dy Q Qn S r1 r2 h hd
  unfold opZ at h
  split at h
  · next i j => exact ⟨i, j, r1.ofInt, r2.ofInt, h.1, hd.now S (.int _) h.2⟩
  · exact h.elim
theorem ref_I0 {g : Int → Int → Int} : Ref2 X.K B (opZ0 fun i j => .int (g i j)) (rI0 fun i j => .int (g i j)) := by
  intro ρ μ σ H G x y dx dy Q Qn S r1 r2 h hd
  unfold opZ0 at h
  split at h
  · next i j => exact ⟨i, j, r1.ofInt, r2.ofInt, hd.now S (.int _) h⟩
  · exact h.elim
theorem ref_B0 {g : Int → Int → Bool} : Ref2 X.K B (opZ0 fun i j => .bl (g i j)) (rI0 fun i j => .bl (g i j)) := by
  intro ρ μ σ H G x y dx dy Q Qn S r1 r2 h hd
  unfold opZ0 at h
  split at h
  · next i j => exact ⟨i, j, r1.ofInt, r2.ofInt, hd.now S (.bl _) h⟩
  · exact h.elim
abbrev opSub : R2D := opZ0 fun i j => .int (i - j)
abbrev opMul : R2D := opZ CMul fun i j => .int (i * j)
abbrev opMod : R2D := opZ (fun _ j => 0 < j) fun i j => .int (i % j)
abbrev opDiv : R2D := opZ CDiv fun i j => .int (i / j)
abbrev opPow : R2D := opZ CPow fun i j => .int (i ^ j.toNat)
theorem do_sub : OpR X (binaryOp .Sub) (rI0 fun i j => .int (i - j)) ∧ Ref2 X.K B opSub (rI0 fun i j => .int (i - j)) := ⟨op_sub, ref_I0⟩
theorem do_mul : OpR X (binaryOp .Mult) (rI CMul fun i j => .int (i * j)) ∧ Ref2 X.K B opMul (rI CMul fun i j => .int (i * j)) := ⟨op_mul, ref_I⟩
theorem do_mod : OpR X (binaryOp .Mod) (rI (fun _ j => 0 < j) fun i j => .int (i % j)) ∧ Ref2 X.K B opMod (rI (fun _ j => 0 < j) fun i j => .int (i % j)) := ⟨op_mod, ref_I⟩
theorem do_div : OpR X (binaryOp .FloorDiv) (rI CDiv fun i j => .int (i / j)) ∧ Ref2 X.K B opDiv (rI CDiv fun i j => .int (i / j)) := ⟨op_fdiv, ref_I⟩
theorem do_pow : OpR X (binaryOp .Pow) (rI CPow fun i j => .int (i ^ j.toNat)) ∧ Ref2 X.K B opPow (rI CPow fun i j => .int (i ^ j.toNat)) := ⟨op_pow, ref_I⟩
abbrev opLt : R2D := opZ0 fun i j => .bl (decide (i < j))
abbrev opLe : R2D := opZ0 fun i j => .bl (decide (i ≤ j))
abbrev opGt : R2D := opZ0 fun i j => .bl (decide (j < i))
abbrev opGe : R2D := opZ0 fun i j => .bl (decide (j ≤ i))
theorem do_lt : OpR X (compareOp .Lt) (rI0 fun i j => .bl (decide (i < j))) ∧ Ref2 X.K B opLt (rI0 fun i j => .bl (decide (i < j))) := ⟨op_lt, ref_B0⟩
theorem do_le : OpR X (compareOp .LtE) (rI0 fun i j => .bl (decide (i ≤ j))) ∧ Ref2 X.K B opLe (rI0 fun i j => .bl (decide (i ≤ j))) := ⟨op_le, ref_B0⟩
theorem do_gt : OpR X (compareOp .Gt) (rI0 fun i j => .bl (decide (j < i))) ∧ Ref2 X.K B opGt (rI0 fun i j => .bl (decide (j < i))) := ⟨op_gt, ref_B0⟩
theorem do_ge : OpR X (compareOp .GtE) (rI0 fun i j => .bl (decide (j ≤ i))) ∧ Ref2 X.K B opGe (rI0 fun i j => .bl (decide (j ≤ i))) := ⟨op_ge, ref_B0⟩
end
end DL

/-! DL2: equality, in, is None, items, slices, built-ins, methods. -/
namespace DL
open PySem PySem.Spec PyProof.Rows L2

/-! ### texts as lists of codes -/
def mk (l : List Nat) : Str := ⟨l.toArray⟩
@[simp] theorem mk_cps (l : List Nat) : (mk l).cps.toList = l := by simp [mk]
@[simp] theorem mk_cps' (l : List Nat) : (mk l).cps = l.toArray := rfl
@[simp] theorem mk_length (l : List Nat) : (mk l).length = l.length := by simp [mk, Str.length]
@[simp] theorem mk_append (a b : List Nat) : mk a ++ mk b = mk (a ++ b) := by
  show Str.append (mk a) (mk b) = _
  simp [mk, Str.append]
@[simp] theorem mk_inj {a b : List Nat} : mk a = mk b ↔ a = b := by
  constructor
  · intro h; have := congrArg (fun z => z.cps.toList) h; simpa using this
  · intro h; rw [h]
theorem ofString_mk (s : String) : Str.ofString s = mk (s.toList.map Char.toNat) := Str.ofString_eq_toList s
theorem mk_of (s : Str) : mk s.cps.toList = s := by cases s; simp [mk]

/-! ### data as the library's data -/
mutual
def py : D → Option PyData
  | .non => some .none
  | .bl b => some (.bool b)
  | .int i => some (.int i)
  | .str s => some (.str s)
  | .lst xs => (pyL xs).map .list
  | .tup xs => (pyL xs).map .tuple
  | .dic _ => none
  | .obj _ _ => none
  | .src => none
  | .room => none
  | .ptr _ => none
  | .scr _ => none
def pyL : List D → Option (List PyData)
  | [] => some []
  | x :: xs => match py x, pyL xs with
    | some d, some ds => some (d :: ds)
    | _, _ => none
end
mutual
theorem rep_dp {K : PySem.W.Frag} {G : Gh} {H : Hp} (e : Ext G.fr H) : ∀ (d : D) (v : V) (p : PyData), Rep K G v d → py d = some p → Dp K H v p
  | .non, v, p, r, h => by cases r; simp [py] at h; subst h; exact .non
  | .bl b, v, p, r, h => by cases r; simp [py] at h; subst h; exact .bl b
  | .int b, v, p, r, h => by cases r; simp [py] at h; subst h; exact .int b
  | .str b, v, p, r, h => by cases r; simp [py] at h; subst h; exact .str b
  | .lst xs, v, p, r, h => by
    cases r with
    | lst hh l r =>
      rw [py] at h
      cases q : pyL xs with
      | none => rw [q] at h; cases h
      | some ds => rw [q] at h; cases h; exact .lst (.inl (.inl (e _ _ hh))) (rep_dpL e xs _ ds ⟨l, r⟩ q)
  | .tup xs, v, p, r, h => by
    cases r with
    | tup hh l r =>
      rw [py] at h
      cases q : pyL xs with
      | none => rw [q] at h; cases h
      | some ds => rw [q] at h; cases h; exact .tup (e.seqT hh) (rep_dpL e xs _ ds ⟨l, r⟩ q)
  | .dic _, v, p, r, h => by simp [py] at h
  | .obj _ _, v, p, r, h => by simp [py] at h
  | .src, v, p, r, h => by simp [py] at h
  | .room, v, p, r, h => by simp [py] at h
  | .ptr _, v, p, r, h => by simp [py] at h
  | .scr _, v, p, r, h => by simp [py] at h
theorem rep_dpL {K : PySem.W.Frag} {G : Gh} {H : Hp} (e : Ext G.fr H) : ∀ (ds : List D) (vs : List V) (ps : List PyData), Reps K G vs ds → pyL ds = some ps → DpAll K H vs ps
  | [], vs, ps, r, h => by rw [r.nil_inv]; simp [pyL] at h; subst h; exact .nil
  | d :: ds, vs, ps, r, h => by
    obtain ⟨v, vr, rfl, a, b⟩ := r.cons_inv
    rw [pyL] at h
    cases q1 : py d with
    | none => simp [q1] at h
    | some p1 =>
      cases q2 : pyL ds with
      | none => simp [q1, q2] at h
      | some p2 =>
        simp [q1, q2] at h
        subst h
        exact .cons (rep_dp e d v p1 a q1) (rep_dpL e ds vr p2 b q2)
end
/-- the seen lists too -/
theorem Hold.dpL {K : PySem.W.Frag} {G : Gh} {μ : Mu} {H : Hp} {v : V} {d : D} {xs : List D} {ps : List PyData} (h : Hold K G μ H) (r : Rep K G v d) (e : vw μ d = .lst xs) (q : pyL xs = some ps) : Dp K H v (.list ps) := by
  obtain ⟨a, vs, rfl, h1, h2⟩ := h.lst r e
  exact .lst (.inl (.inl h1)) (rep_dpL h.fr xs vs ps h2 q)
theorem Hold.dpT {K : PySem.W.Frag} {G : Gh} {μ : Mu} {H : Hp} {v : V} {d : D} {xs : List D} {ps : List PyData} (h : Hold K G μ H) (r : Rep K G v d) (e : vw μ d = .tup xs) (q : pyL xs = some ps) : Dp K H v (.tuple ps) := by
  obtain ⟨a, vs, rfl, h1, h2⟩ := h.tup r e
  exact .tup h1 (rep_dpL h.fr xs vs ps h2 q)

section
variable {X : Cx} {pos : Pos}
/-- == : scalars by themselves, lists and tuples as the library's data -/
@[simp] def eqW (neg : Bool) : R2D := fun x y μ Q => match vw μ x, vw μ y with
  | .int i, .int j => Q (.bl (neg ^^ decide (i = j))) μ
  | .str i, .str j => Q (.bl (neg ^^ decide (i = j))) μ
  | .bl i, .bl j => Q (.bl (neg ^^ decide (i = j))) μ
  | .non, .non => Q (.bl (neg ^^ true)) μ
  | .non, .str _ => Q (.bl (neg ^^ false)) μ
  | .str _, .non => Q (.bl (neg ^^ false)) μ
  | .non, .int _ => Q (.bl (neg ^^ false)) μ
  | .int _, .non => Q (.bl (neg ^^ false)) μ
  | .lst xs, .lst ys => ∃ ds es, pyL xs = some ds ∧ pyL ys = some es ∧ SeqAt.shaped (.list ds) = true ∧ SeqAt.shaped (.list es) = true ∧ Q (.bl (neg ^^ PyData.eqvAll ds es)) μ
  | .tup xs, .tup ys => ∃ ds es, pyL xs = some ds ∧ pyL ys = some es ∧ SeqAt.shaped (.tuple ds) = true ∧ SeqAt.shaped (.tuple es) = true ∧ Q (.bl (neg ^^ PyData.eqvAll ds es)) μ
  | _, _ => False
abbrev opEq : R2D := eqW false
abbrev opNe : R2D := eqW true
def rEqA (K : PySem.W.Frag) : R2 := fun x y H Q => rEq x y H Q ∨ rEqD K x y H Q
def rNeA (K : PySem.W.Frag) : R2 := fun x y H Q => rNe x y H Q ∨ rNeD K x y H Q
theorem vw_non' {μ : Mu} {d : D} (h : vw μ d = .non) : d = .non := by
  cases d with
  | ptr a =>
    simp only [vw] at h
    split at h <;> cases h
  | _ => first | exact h | cases h
theorem ref_eq : Ref2 X.K B opEq (rEqA X.K) := by
  intro ρ μ σ H G x y dx dy Q Qn S r1 r2 h hd
  unfold opEq eqW at h
  split at h
  · next e1 e2 => cases vw_int' e1; cases vw_int' e2; cases r1; cases r2; exact .inl ⟨rfl, hd.now S (.bl _) (by simpa using h)⟩
  · next e1 e2 => cases vw_str' e1; cases vw_str' e2; cases r1; cases r2; exact .inl ⟨rfl, hd.now S (.bl _) (by simpa using h)⟩
  · next e1 e2 => cases vw_bl' e1; cases vw_bl' e2; cases r1; cases r2; exact .inl ⟨rfl, hd.now S (.bl _) (by simpa using h)⟩
  · next e1 e2 => cases vw_non' e1; cases vw_non' e2; cases r1; cases r2; exact .inl ⟨rfl, hd.now S (.bl _) (by simpa using h)⟩
  · next e1 e2 => cases vw_non' e1; cases vw_str' e2; cases r1; cases r2; exact .inl ⟨rfl, hd.now S (.bl _) (by simpa using h)⟩
  · next e1 e2 => cases vw_str' e1; cases vw_non' e2; cases r1; cases r2; exact .inl ⟨rfl, hd.now S (.bl _) (by simpa using h)⟩
  · next e1 e2 => cases vw_non' e1; cases vw_int' e2; cases r1; cases r2; exact .inl ⟨rfl, hd.now S (.bl _) (by simpa using h)⟩
  · next e1 e2 => cases vw_int' e1; cases vw_non' e2; cases r1; cases r2; exact .inl ⟨rfl, hd.now S (.bl _) (by simpa using h)⟩
  · next e1 e2 =>
    obtain ⟨ds, es, p1, p2, s1, s2, q⟩ := h
    exact .inr ⟨_, _, S.hold.dpL r1 e1 p1, S.hold.dpL r2 e2 p2, s1, s2, hd.now S (.bl _) (by rw [PyData.eqv]; simpa using q)⟩
  · next e1 e2 =>
    obtain ⟨ds, es, p1, p2, s1, s2, q⟩ := h
    exact .inr ⟨_, _, S.hold.dpT r1 e1 p1, S.hold.dpT r2 e2 p2, s1, s2, hd.now S (.bl _) (by rw [PyData.eqv]; simpa using q)⟩
  · exact h.elim
theorem ref_ne : Ref2 X.K B opNe (rNeA X.K) := by
  intro ρ μ σ H G x y dx dy Q Qn S r1 r2 h hd
  unfold opNe eqW at h
  split at h
  · next e1 e2 => cases vw_int' e1; cases vw_int' e2; cases r1; cases r2; exact .inl ⟨rfl, hd.now S (.bl _) (by simpa using h)⟩
  · next e1 e2 => cases vw_str' e1; cases vw_str' e2; cases r1; cases r2; exact .inl ⟨rfl, hd.now S (.bl _) (by simpa using h)⟩
  · next e1 e2 => cases vw_bl' e1; cases vw_bl' e2; cases r1; cases r2; exact .inl ⟨rfl, hd.now S (.bl _) (by simpa using h)⟩
  · next e1 e2 => cases vw_non' e1; cases vw_non' e2; cases r1; cases r2; exact .inl ⟨rfl, hd.now S (.bl _) (by simpa using h)⟩
  · next e1 e2 => cases vw_non' e1; cases vw_str' e2; cases r1; cases r2; exact .inl ⟨rfl, hd.now S (.bl _) (by simpa using h)⟩
  · next e1 e2 => cases vw_str' e1; cases vw_non' e2; cases r1; cases r2; exact .inl ⟨rfl, hd.now S (.bl _) (by simpa using h)⟩
  · next e1 e2 => cases vw_non' e1; cases vw_int' e2; cases r1; cases r2; exact .inl ⟨rfl, hd.now S (.bl _) (by simpa using h)⟩
  · next e1 e2 => cases vw_int' e1; cases vw_non' e2; cases r1; cases r2; exact .inl ⟨rfl, hd.now S (.bl _) (by simpa using h)⟩
  · next e1 e2 =>
    obtain ⟨ds, es, p1, p2, s1, s2, q⟩ := h
    exact .inr ⟨_, _, S.hold.dpL r1 e1 p1, S.hold.dpL r2 e2 p2, s1, s2, hd.now S (.bl _) (by rw [PyData.eqv]; simpa using q)⟩
  · next e1 e2 =>
    obtain ⟨ds, es, p1, p2, s1, s2, q⟩ := h
    exact .inr ⟨_, _, S.hold.dpT r1 e1 p1, S.hold.dpT r2 e2 p2, s1, s2, hd.now S (.bl _) (by rw [PyData.eqv]; simpa using q)⟩
  · exact h.elim
/-- hr: the call's room -/
theorem do_eq {k : Nat} (hr : Room k X.A) : OpR X (compareOp .Eq) (rEqA X.K) ∧ Ref2 X.K B opEq (rEqA X.K) := ⟨op_eq.or (op_eqD hr.units), ref_eq⟩
theorem do_ne {k : Nat} (hr : Room k X.A) : OpR X (compareOp .NotEq) (rNeA X.K) ∧ Ref2 X.K B opNe (rNeA X.K) := ⟨op_ne.or (op_neD hr.units), ref_ne⟩

/-! is None -/
@[simp] def isNonD : D → Bool
  | .non => true
  | _ => false
@[simp] def opIs (neg : Bool) : R2D := fun x y μ Q => match y with
  | .non => Q (.bl (neg ^^ isNonD x)) μ
  | _ => False
theorem rep_non {K : PySem.W.Frag} {G : Gh} {v : V} {d : D} (r : Rep K G v d) : decide (v = .non) = isNonD d := by
  cases r <;> simp [isNonD]
theorem do_is : OpR X (compareOp .Is) (fun x y H Q => y = .non ∧ Q (.bl (decide (x = .non))) H) ∧ Ref2 X.K B (opIs false) (fun x y H Q => y = .non ∧ Q (.bl (decide (x = .non))) H) := by
  refine ⟨op_isN, ?_⟩
  intro ρ μ σ H G x y dx dy Q Qn S r1 r2 h hd
  cases dy with
  | non =>
    refine ⟨r2.ofNon, ?_⟩
    rw [rep_non r1]
    have h' : Q (.bl (false ^^ isNonD dx)) μ := h
    exact hd.now S (.bl _) (by simpa using h')
  | _ => exact False.elim h
theorem do_isnot : OpR X (compareOp .IsNot) (fun x y H Q => y = .non ∧ Q (.bl (!decide (x = .non))) H) ∧ Ref2 X.K B (opIs true) (fun x y H Q => y = .non ∧ Q (.bl (!decide (x = .non))) H) := by
  refine ⟨op_notN, ?_⟩
  intro ρ μ σ H G x y dx dy Q Qn S r1 r2 h hd
  cases dy with
  | non =>
    refine ⟨r2.ofNon, ?_⟩
    rw [rep_non r1]
    have h' : Q (.bl (true ^^ isNonD dx)) μ := h
    exact hd.now S (.bl _) (by simpa using h')
  | _ => exact False.elim h

/-! in -/
def strsOf : List D → Option (List Str)
  | [] => some []
  | .str s :: r => (strsOf r).map (s :: ·)
  | _ :: _ => none
@[simp] theorem strsOf_nil : strsOf [] = some [] := rfl
@[simp] theorem strsOf_cons (s : Str) (r : List D) : strsOf (.str s :: r) = (strsOf r).map (s :: ·) := rfl
@[simp] theorem strsOf_map (ss : List Str) : strsOf (ss.map .str) = some ss := by
  induction ss with
  | nil => rfl
  | cons s r ih => rw [List.map_cons, strsOf, ih]; rfl
theorem strsOf_eq : ∀ {xs : List D} {ss : List Str}, strsOf xs = some ss → xs = ss.map .str
  | [], ss, h => by cases h; rfl
  | x :: r, ss, h => by
    cases x with
    | str s =>
      rw [strsOf] at h
      cases q : strsOf r with
      | none => rw [q] at h; cases h
      | some t => rw [q] at h; cases h; rw [strsOf_eq q]; rfl
    | _ => cases h
def intsOf : List D → Option (List Int)
  | [] => some []
  | .int s :: r => (intsOf r).map (s :: ·)
  | _ :: _ => none
@[simp] theorem intsOf_nil : intsOf [] = some [] := rfl
@[simp] theorem intsOf_cons (s : Int) (r : List D) : intsOf (.int s :: r) = (intsOf r).map (s :: ·) := rfl
@[simp] theorem intsOf_map (ss : List Int) : intsOf (ss.map .int) = some ss := by
  induction ss with
  | nil => rfl
  | cons s r ih => rw [List.map_cons, intsOf, ih]; rfl
theorem intsOf_eq : ∀ {xs : List D} {ss : List Int}, intsOf xs = some ss → xs = ss.map .int
  | [], ss, h => by cases h; rfl
  | x :: r, ss, h => by
    cases x with
    | int s =>
      rw [intsOf] at h
      cases q : intsOf r with
      | none => rw [q] at h; cases h
      | some t => rw [q] at h; cases h; rw [intsOf_eq q]; rfl
    | _ => cases h
theorem Reps.strs {K : PySem.W.Frag} {G : Gh} : ∀ {ss : List Str} {vs : List V}, Reps K G vs (ss.map .str) → vs = ss.map .str
  | [], vs, h => h.nil_inv
  | s :: r, vs, h => by
    obtain ⟨v, vr, rfl, a, b⟩ := h.cons_inv
    rw [a.ofStr, Reps.strs b]; rfl
theorem Reps.ofStrs {K : PySem.W.Frag} {G : Gh} : ∀ (ss : List Str), Reps K G (ss.map V.str) (ss.map D.str)
  | [] => Reps.nil
  | s :: r => Reps.cons (.str s) (Reps.ofStrs r)
theorem Reps.ints {K : PySem.W.Frag} {G : Gh} : ∀ {ss : List Int} {vs : List V}, Reps K G vs (ss.map .int) → vs = ss.map .int
  | [], vs, h => h.nil_inv
  | s :: r, vs, h => by
    obtain ⟨v, vr, rfl, a, b⟩ := h.cons_inv
    rw [a.ofInt, Reps.ints b]; rfl
theorem Reps.ofInts {K : PySem.W.Frag} {G : Gh} : ∀ (ss : List Int), Reps K G (ss.map V.int) (ss.map D.int)
  | [] => Reps.nil
  | s :: r => Reps.cons (.int s) (Reps.ofInts r)
theorem inV_strs (s : Str) (ss : List Str) : inV (.str s) (ss.map .str) = decide (s ∈ ss) := by
  unfold inV
  rw [List.any_map]
  induction ss with
  | nil => rfl
  | cons t r ih =>
    rw [List.any_cons, ih]
    have : (fun y => eqV y (V.str s)) (V.str t) = (t == s) := rfl
    simp only [Function.comp, this]
    by_cases h : t = s
    · subst h; simp
    · have h' : ¬ s = t := fun e => h e.symm
      simp [h, h']
theorem inV_ints (s : Int) (ss : List Int) : inV (.int s) (ss.map .int) = decide (s ∈ ss) := by
  unfold inV
  rw [List.any_map]
  induction ss with
  | nil => rfl
  | cons t r ih =>
    rw [List.any_cons, ih]
    have : (fun y => eqV y (V.int s)) (V.int t) = (t == s) := rfl
    simp only [Function.comp, this]
    by_cases h : t = s
    · subst h; simp
    · have h' : ¬ s = t := fun e => h e.symm
      simp [h, h']
theorem flat_strs (ss : List Str) : (ss.map V.str).all flatV = true := by
  induction ss with
  | nil => rfl
  | cons t r ih => simpa [flatV] using ih
theorem flat_ints (ss : List Int) : (ss.map V.int).all flatV = true := by
  induction ss with
  | nil => rfl
  | cons t r ih => simpa [flatV] using ih
/-- in a list or tuple of texts, of ints; one sign in a text -/
@[simp] def inSeq (neg : Bool) (x : D) (xs : List D) (μ : Mu) (Q : QD) : Prop := match x with
  | .str s => ∃ ss, strsOf xs = some ss ∧ Q (.bl (neg ^^ decide (s ∈ ss))) μ
  | .int s => ∃ ss, intsOf xs = some ss ∧ Q (.bl (neg ^^ decide (s ∈ ss))) μ
  | _ => False
@[simp] def inW (neg : Bool) : R2D := fun x y μ Q => match vw μ y with
  | .lst xs => inSeq neg x xs μ Q
  | .tup xs => inSeq neg x xs μ Q
  | .str t => match x with
    | .str s => ∃ c, s = mk [c] ∧ Q (.bl (neg ^^ decide (c ∈ t.cps.toList))) μ
    | _ => False
  | _ => False
abbrev opIn : R2D := inW false
abbrev opNin : R2D := inW true
def rInSeq (K : PySem.W.Frag) (neg : Bool) : R2 := fun x y H Q => rIn K neg x y H Q ∨ (∃ (c : Nat) (z : Str), x = .str ⟨#[c]⟩ ∧ y = .str z ∧ Q (.bl (neg ^^ decide (c ∈ z.cps.toList))) H)
theorem inSeq_go {K : PySem.W.Frag} {neg : Bool} {x : V} {dx : D} {xs : List D} {vs : List V} {μ : Mu} {Q : QD} {ρ : DR} {σ : St} {H : Hp} {G : Gh} {Qn : VK} (h : inSeq neg dx xs μ Q) (S : Sat K B G ρ μ σ H) (r1 : Rep K G x dx) (r : Reps K G vs xs) (hd : Hand K B G ρ σ Q Qn) : flatV x = true ∧ vs.all flatV = true ∧ Qn (.bl (if neg then !inV x vs else inV x vs)) H := by
  cases dx with
  | str s =>
    obtain ⟨ss, e, q⟩ := h
    have e' := strsOf_eq e
    subst e'
    have ev := r.strs
    subst ev
    cases r1
    refine ⟨rfl, flat_strs ss, ?_⟩
    rw [inV_strs]
    cases neg <;> exact hd.now S (.bl _) (by simpa using q)
  | int s =>
    obtain ⟨ss, e, q⟩ := h
    have e' := intsOf_eq e
    subst e'
    have ev := r.ints
    subst ev
    cases r1
    refine ⟨rfl, flat_ints ss, ?_⟩
    rw [inV_ints]
    cases neg <;> exact hd.now S (.bl _) (by simpa using q)
  | _ => exact False.elim h
theorem ref_inW (neg : Bool) : Ref2 X.K B (inW neg) (rInSeq X.K neg) := by
  intro ρ μ σ H G x y dx dy Q Qn S r1 r2 h hd
  unfold inW at h
  split at h
  · next e =>
    obtain ⟨p, vs, rfl, h1, q1⟩ := S.hold.lst r2 e
    obtain ⟨f1, f2, q⟩ := inSeq_go h S r1 q1 hd
    exact .inl ⟨p, vs, rfl, .inl (SqL.of h1), f1, f2, q⟩
  · next e =>
    obtain ⟨p, vs, rfl, h1, q1⟩ := S.hold.tup r2 e
    obtain ⟨f1, f2, q⟩ := inSeq_go h S r1 q1 hd
    exact .inl ⟨p, vs, rfl, .inr h1, f1, f2, q⟩
  · next t e =>
    cases vw_str' e
    cases dx with
    | str s =>
      obtain ⟨c, rfl, q⟩ := h
      cases r1; cases r2
      exact .inr ⟨c, t, rfl, rfl, hd.now S (.bl _) q⟩
    | _ => exact False.elim h
  · exact h.elim
theorem do_in : OpR X (compareOp .In) (rInSeq X.K false) ∧ Ref2 X.K B opIn (rInSeq X.K false) := ⟨(op_in_seq).or (by simpa using op_in_sign), ref_inW false⟩
theorem do_nin : OpR X (compareOp .NotIn) (rInSeq X.K true) ∧ Ref2 X.K B opNin (rInSeq X.K true) := ⟨(op_notIn_seq).or (by simpa using op_notIn_sign), ref_inW true⟩

/-! ### items and slices -/
@[simp] def opIx : R2D := fun x y μ Q => match vw μ x, y with
  | .lst xs, .int i => ∃ d, atI xs i = some d ∧ Q d μ
  | .tup xs, .int i => ∃ d, atI xs i = some d ∧ Q d μ
  | .str s, .int i => s.length ≤ sizeLine ∧ ∃ c, atI s.cps.toList i = some c ∧ Q (.str (mk [c])) μ
  | _, _ => False
theorem atI_reps {K : PySem.W.Frag} {G : Gh} {vs : List V} {xs : List D} (r : Reps K G vs xs) {i : Int} {d : D} (h : atI xs i = some d) : ∃ v, atI vs i = some v ∧ Rep K G v d := by
  unfold atI at *
  rw [r.1]
  cases q : ixN xs.length i with
  | none => rw [q] at h; cases h
  | some j =>
    rw [q] at h
    obtain ⟨v, a, b⟩ := r.get (show xs[j]? = some d from h)
    exact ⟨v, a, b⟩
theorem ref_ix : Ref2 X.K B opIx (rIx X.K) := by
  intro ρ μ σ H G x y dx dy Q Qn S r1 r2 h hd
  unfold opIx at h
  split at h
  · next i e =>
    cases r2
    obtain ⟨d, a, q⟩ := h
    obtain ⟨p, vs, rfl, h1, q1⟩ := S.hold.lst r1 e
    obtain ⟨v, a', rv⟩ := atI_reps q1 a
    exact .inl ⟨p, vs, i, v, rfl, rfl, SqL.of h1, a', hd.now S rv q⟩
  · next i e =>
    cases r2
    obtain ⟨d, a, q⟩ := h
    obtain ⟨p, vs, rfl, h1, q1⟩ := S.hold.tup r1 e
    obtain ⟨v, a', rv⟩ := atI_reps q1 a
    exact .inr (.inl ⟨p, vs, i, v, rfl, rfl, h1, a', hd.now S rv q⟩)
  · next s i e =>
    cases r2
    cases vw_str' e
    cases r1
    obtain ⟨l, c, a, q⟩ := h
    exact .inr (.inr ⟨s, i, c, rfl, rfl, l, a, hd.now S (.str _) q⟩)
  · exact h.elim
variable {a b : Expr} {ta tb : TE} {Ta Tb : TDE}
theorem de_ix (ha : DE X B a ta Ta) (hb : DE X B b tb Tb) (hs : PlainIx b := by exact fun _ _ => rfl) : DE X B (.Subscript a b pos) (tOp (rIx X.K) ta tb) (dOp opIx Ta Tb) := ⟨pe_ix ix_seq ha.pe hb.pe hs, ref_op ref_ix ha.ref hb.ref⟩

def cutD {α : Type} (xs : List α) (lo hi : Option Int) : List α := (xs.drop (HT.sIx xs.length 0 lo)).take (HT.sIx xs.length xs.length hi - HT.sIx xs.length 0 lo)
theorem Reps.cut {K : PySem.W.Frag} {G : Gh} {vs : List V} {xs : List D} (r : Reps K G vs xs) (lo hi : Option Int) : Reps K G (cutV vs lo hi) (cutD xs lo hi) := by
  unfold cutV cutD
  rw [r.1]
  exact (r.drop _).take _
@[simp] theorem cutS_mk (l : List Nat) (lo hi : Option Int) : cutS (mk l) lo hi = mk (cutD l lo hi) := by
  unfold cutS cutD
  simp only [mk_cps, mk_length]
  rfl
abbrev TDO := DR → Mu → (Option Int → Mu → Prop) → Prop
def RefO (K : PySem.W.Frag) (B : Gh) (T : TDO) (t : TO) : Prop := ∀ ρ μ σ H G Q (Qn : Option Int → Hp → Prop), Sat K B G ρ μ σ H → T ρ μ Q → (∀ o μ' H' G', Gle G G' → Sat K B G' ρ μ' σ H' → Q o μ' → Qn o H') → t σ H Qn
structure DO (X : Cx) (B : Gh) (e : Option Expr) (t : TO) (T : TDO) : Prop where
  po : PO X e t
  ref : RefO X.K B T t
@[simp] def dNoPart : TDO := fun _ μ Q => Q none μ
@[simp] def dPart (T : TDE) : TDO := fun ρ μ Q => T ρ μ fun d μ1 => match d with | .int i => Q (some i) μ1 | _ => False
theorem do_none : DO X B none tNoPart dNoPart := ⟨po_none, fun ρ μ σ H G Q Qn S h hd => hd none μ H G (Gle.refl G) S h⟩
theorem do_some {e : Expr} {te : TE} {T : TDE} (h : DE X B e te T) : DO X B (some e) (tPart te) (dPart T) := ⟨po_some h.pe, fun ρ μ σ H G Q Qn S q hd => h.ref ρ μ σ H G _ _ S q fun d μ1 v H1 G1 g1 S1 r1 q1 => by
  cases d with
  | int i => exact ⟨i, r1.ofInt, hd (some i) μ1 H1 G1 g1 S1 q1⟩
  | _ => exact False.elim q1⟩
/-- a slice: of a list (c: a cell), of a tuple, of a text -/
@[simp] def slW (c : Bool) (x : D) (lo hi : Option Int) (μ : Mu) (Q : QD) : Prop := match vw μ x with
  | .lst xs => mkL c (cutD xs lo hi) μ Q
  | .str s => s.length ≤ sizeLine ∧ Q (.str (cutS s lo hi)) μ
  | _ => False
@[simp] def dSl (c : Bool) (T : TDE) (Tl Th : TDO) : TDE := fun ρ μ Q => T ρ μ fun x μ1 => Tl ρ μ1 fun l μ2 => Th ρ μ2 fun u μ3 => slW c x l u μ3 Q
def rSlA (K : PySem.W.Frag) : V → Option Int → Option Int → Hp → VK → Prop := fun x lo hi H Q => rSlL K x lo hi H Q ∨ rSlS x lo hi H Q
theorem de_sl (c : Bool) {e : Expr} {lo hi : Option Expr} {p2 : Pos} {te : TE} {tl th : TO} {T : TDE} {Tl Th : TDO} (he : DE X B e te T) (hl : DO X B lo tl Tl) (hu : DO X B hi th Th) : DE X B (.Subscript e (.Slice lo hi none p2) pos) (tSl (rSlA X.K) te tl th) (dSl c T Tl Th) :=
  ⟨pe_slice (sl_list.or sl_str) he.pe hl.po hu.po, fun ρ μ σ H G Q Qn S h hd => he.ref ρ μ σ H G _ _ S h fun d μ1 v H1 G1 g1 S1 r1 q1 =>
    hl.ref ρ μ1 σ H1 G1 _ _ S1 q1 fun l μ2 H2 G2 g2 S2 q2 => hu.ref ρ μ2 σ H2 G2 _ _ S2 q2 fun u μ3 H3 G3 g3 S3 q3 => by
      have r3 := (r1.mono g2).mono g3
      have hd3 := hd.mono ((g1.trans g2).trans g3)
      unfold slW at q3
      split at q3
      · next e =>
        obtain ⟨p, vs, rfl, h1, rr⟩ := S3.hold.lst r3 e
        exact .inl ⟨p, vs, rfl, SqL.of h1, fun q n => mkL_go q3 S3 (rr.cut l u) hd3 n⟩
      · next s e =>
        cases vw_str' e
        cases r3
        exact .inr ⟨s, rfl, q3.1, hd3.now S3 (.str _) q3.2⟩
      · exact q3.elim⟩
end
end DL

/-! DL3: built-in calls, methods, tests, boolean words. -/
namespace DL
open PySem PySem.Spec PyProof.Rows L2
section
variable {X : Cx} {pos : Pos}

/-! ### calls of built-ins -/
abbrev RCD := List D → Mu → QD → Prop
def RefC (K : PySem.W.Frag) (B : Gh) (R : RCD) (r : List V → Hp → VK → Prop) : Prop := ∀ ρ μ σ H G vs ds Q (Qn : VK), Sat K B G ρ μ σ H → Reps K G vs ds → R ds μ Q → Hand K B G ρ σ Q Qn → r vs H Qn
@[simp] def dCB (R : RCD) (T : TDA) : TDE := fun ρ μ Q => T ρ μ fun ds μ1 => R ds μ1 Q
theorem ref_CB {K : PySem.W.Frag} {R : RCD} {r : List V → Hp → VK → Prop} {t : TA} {T : TDA} (hr : RefC K B R r) (h : RefA K B T t) : RefE K B (dCB R T) (tCB r t) :=
  fun ρ μ σ H G Q Qn S q hd => h ρ μ σ H G _ _ S q fun ds μ1 vs H1 G1 g1 S1 r1 q1 => hr ρ μ1 σ H1 G1 vs ds Q Qn S1 r1 q1 (hd.mono g1)
theorem de_callB {x : Str} {id : String} {r : List V → Hp → VK → Prop} {R : RCD} {e : Expr} {es : List Expr} {t : TA} {T : TDA} {p : Pos} (hc : CallR X (.builtin id) r ∧ RefC X.K B R r) (hg : Gl X x) (hm : X.mg x = none) (hv : bootBuiltins x = some (.builtin id)) (ha : DA X B (e :: es) t T) (hn : x ≠ "__name__" := by decide) (hdb : (x == ("__debug__" : Str)) = false := by decide)
    (h1 : starEach (e :: es) X.env = (false, eval e X.env) :: starEach es X.env := by rfl) (h2 : (backTo pos (starEach es X.env)).any (·.1) = false := by rfl) :
    DE X B (.Call (.Name x p) (e :: es) [] pos) (tCB r t) (dCB R T) := ⟨pe_callB hc.1 hg hm hv ha.pa hn hdb h1 h2, ref_CB hc.2 ha.ref⟩
theorem de_callTy {x : Str} {Ty : String} {r : List V → Hp → VK → Prop} {R : RCD} {e : Expr} {es : List Expr} {t : TA} {T : TDA} {p : Pos} (hc : CallR X (.type Ty) r ∧ RefC X.K B R r) (hg : Gl X x) (hm : X.mg x = none) (hv : bootBuiltins x = some (.type Ty)) (ha : DA X B (e :: es) t T) (hn : x ≠ "__name__" := by decide) (hdb : (x == ("__debug__" : Str)) = false := by decide)
    (h1 : starEach (e :: es) X.env = (false, eval e X.env) :: starEach es X.env := by rfl) (h2 : (backTo pos (starEach es X.env)).any (·.1) = false := by rfl) :
    DE X B (.Call (.Name x p) (e :: es) [] pos) (tCB r t) (dCB R T) := ⟨pe_callTy hc.1 hg hm hv ha.pa hn hdb h1 h2, ref_CB hc.2 ha.ref⟩

/-- len -/
def lenD (d : D) : Option Nat := match d with
  | .lst xs => some xs.length
  | .tup xs => some xs.length
  | .str s => if s.length ≤ sizeLine then some s.length else none
  | .dic kvs => some kvs.length
  | _ => none
@[simp] def cLen : RCD := fun ds μ Q => match ds with
  | [x] => match vw μ x with
    | .lst xs => Q (.int xs.length) μ
    | .tup xs => Q (.int xs.length) μ
    | .str s => s.length ≤ sizeLine ∧ Q (.int s.length) μ
    | .scr ns => Q (.int ns.length) μ
    | _ => False
  | _ => False
theorem vw_scr' {μ : Mu} {d : D} {i : List Int} (h : vw μ d = .scr i) : d = .scr i := by
  cases d with
  | ptr a =>
    simp only [vw] at h
    split at h <;> cases h
  | _ => first | exact h | cases h
theorem reps1 {K : PySem.W.Frag} {G : Gh} {vs : List V} {d : D} (r : Reps K G vs [d]) : ∃ v, vs = [v] ∧ Rep K G v d := by
  obtain ⟨v, w, rfl, a, b⟩ := r.cons_inv
  rw [b.nil_inv]; exact ⟨v, rfl, a⟩
theorem reps2 {K : PySem.W.Frag} {G : Gh} {vs : List V} {d e : D} (r : Reps K G vs [d, e]) : ∃ v w, vs = [v, w] ∧ Rep K G v d ∧ Rep K G w e := by
  obtain ⟨v, w, rfl, a, b⟩ := r.cons_inv
  obtain ⟨w2, rfl, b2⟩ := reps1 b; exact ⟨v, w2, rfl, a, b2⟩
theorem reps3 {K : PySem.W.Frag} {G : Gh} {vs : List V} {d e f : D} (r : Reps K G vs [d, e, f]) : ∃ v w z, vs = [v, w, z] ∧ Rep K G v d ∧ Rep K G w e ∧ Rep K G z f := by
  obtain ⟨v, w, rfl, a, b⟩ := r.cons_inv
  obtain ⟨w2, z, rfl, b2, c⟩ := reps2 b; exact ⟨v, w2, z, rfl, a, b2, c⟩
theorem dc_len : CallR X (.builtin "len") (fun xs H Q => ∃ x n, xs = [x] ∧ LenV X.K x H n ∧ Q (.int n) H) ∧ RefC X.K B cLen (fun xs H Q => ∃ x n, xs = [x] ∧ LenV X.K x H n ∧ Q (.int n) H) := by
  refine ⟨call_len, ?_⟩
  intro ρ μ σ H G vs ds Q Qn S r h hd
  unfold cLen at h
  split at h
  · next x =>
    obtain ⟨v, rfl, rv⟩ := reps1 r
    split at h
    · next e =>
      obtain ⟨a, ws, rfl, h1, q⟩ := S.hold.lst rv e
      refine ⟨.ref a, ws.length, rfl, .inl ⟨ws, SqL.of h1, rfl⟩, ?_⟩
      rw [q.1]; exact hd.now S (.int _) h
    · next e =>
      obtain ⟨a, ws, rfl, h1, q⟩ := S.hold.tup rv e
      refine ⟨.ref a, ws.length, rfl, .inr ⟨ws, h1, rfl⟩, ?_⟩
      rw [q.1]; exact hd.now S (.int _) h
    · next s e =>
      cases vw_str' e
      cases rv
      exact ⟨.str s, s.length, rfl, ⟨h.1, rfl⟩, hd.now S (.int _) h.2⟩
    · next ns e =>
      cases vw_scr' e
      cases rv with
      | scr hh => exact ⟨_, ns.length, rfl, .inl ⟨_, S.hold.fr.seqL hh, by simp⟩, hd.now S (.int _) h⟩
    · exact h.elim
  · exact h.elim
/-- list(x) of a list or tuple (c: a cell) -/
@[simp] def cList (c : Bool) : RCD := fun ds μ Q => match ds with
  | [x] => match vw μ x with
    | .lst xs => mkL c xs μ Q
    | .tup xs => mkL c xs μ Q
    | .scr ns => mkL c (ns.map .int) μ Q
    | _ => False
  | _ => False
theorem dc_list (c : Bool) : CallR X (.type "list") (fun xs H Q => ∃ p ys, xs = [.ref p] ∧ (SqL X.K H p ys ∨ SqT X.K H p ys) ∧ ∀ l, H l = none → Q (.ref l) (upd H l (.lst ys))) ∧
    RefC X.K B (cList c) (fun xs H Q => ∃ p ys, xs = [.ref p] ∧ (SqL X.K H p ys ∨ SqT X.K H p ys) ∧ ∀ l, H l = none → Q (.ref l) (upd H l (.lst ys))) := by
  refine ⟨call_list_of, ?_⟩
  intro ρ μ σ H G vs ds Q Qn S r h hd
  unfold cList at h
  split at h
  · obtain ⟨v, rfl, rv⟩ := reps1 r
    split at h
    · next e =>
      obtain ⟨a, ws, rfl, h1, q⟩ := S.hold.lst rv e
      exact ⟨a, ws, rfl, .inl (SqL.of h1), fun l n => mkL_go h S q hd n⟩
    · next e =>
      obtain ⟨a, ws, rfl, h1, q⟩ := S.hold.tup rv e
      exact ⟨a, ws, rfl, .inr h1, fun l n => mkL_go h S q hd n⟩
    · next ns e =>
      cases vw_scr' e
      cases rv with
      | scr hh => exact ⟨_, _, rfl, .inl (S.hold.fr.seqL hh), fun l n => mkL_go h S (Reps.ofInts ns) hd n⟩
    · exact h.elim
  · exact h.elim
/-- int(n) -/
@[simp] def cInt : RCD := fun ds μ Q => match ds with
  | [.int i] => Q (.int i) μ
  | [.bl b] => Q (.int (if b then 1 else 0)) μ
  | _ => False
theorem dc_int : CallR X (.type "int") (fun xs H Q => (∃ i, xs = [.int i] ∧ Q (.int i) H) ∨ ∃ k, xs = [.bl k] ∧ Q (.int (if k then 1 else 0)) H) ∧ RefC X.K B cInt (fun xs H Q => (∃ i, xs = [.int i] ∧ Q (.int i) H) ∨ ∃ k, xs = [.bl k] ∧ Q (.int (if k then 1 else 0)) H) := by
  refine ⟨call_int1, ?_⟩
  intro ρ μ σ H G vs ds Q Qn S r h hd
  unfold cInt at h
  split at h
  · next i =>
    obtain ⟨v, rfl, rv⟩ := reps1 r
    cases rv; exact .inl ⟨i, rfl, hd.now S (.int _) h⟩
  · next b =>
    obtain ⟨v, rfl, rv⟩ := reps1 r
    cases rv; exact .inr ⟨b, rfl, hd.now S (.int _) h⟩
  · exact h.elim
/-- min, max of two ints -/
@[simp] def cMin2 : RCD := fun ds μ Q => match ds with
  | [.int i, .int j] => Q (.int (if j < i then j else i)) μ
  | _ => False
@[simp] def cMax2 : RCD := fun ds μ Q => match ds with
  | [.int i, .int j] => Q (.int (if j > i then j else i)) μ
  | _ => False
theorem dc_min2 (hc : X.calm = true) : CallR X (.builtin "min") (fun xs H Q => ∃ i j, xs = [.int i, .int j] ∧ Q (.int (if j < i then j else i)) H) ∧ RefC X.K B cMin2 (fun xs H Q => ∃ i j, xs = [.int i, .int j] ∧ Q (.int (if j < i then j else i)) H) := by
  refine ⟨call_min2 hc, ?_⟩
  intro ρ μ σ H G vs ds Q Qn S r h hd
  unfold cMin2 at h
  split at h
  · next i j =>
    obtain ⟨v, w, rfl, rv, rw'⟩ := reps2 r
    cases rv; cases rw'; exact ⟨i, j, rfl, hd.now S (.int _) h⟩
  · exact h.elim
theorem dc_max2 (hc : X.calm = true) : CallR X (.builtin "max") (fun xs H Q => ∃ i j, xs = [.int i, .int j] ∧ Q (.int (if j > i then j else i)) H) ∧ RefC X.K B cMax2 (fun xs H Q => ∃ i j, xs = [.int i, .int j] ∧ Q (.int (if j > i then j else i)) H) := by
  refine ⟨call_max2 hc, ?_⟩
  intro ρ μ σ H G vs ds Q Qn S r h hd
  unfold cMax2 at h
  split at h
  · next i j =>
    obtain ⟨v, w, rfl, rv, rw'⟩ := reps2 r
    cases rv; cases rw'; exact ⟨i, j, rfl, hd.now S (.int _) h⟩
  · exact h.elim
/-- all, any of a list of bools -/
def blsOf : List D → Option (List Bool)
  | [] => some []
  | .bl s :: r => (blsOf r).map (s :: ·)
  | _ :: _ => none
@[simp] theorem blsOf_nil : blsOf [] = some [] := rfl
@[simp] theorem blsOf_cons (s : Bool) (r : List D) : blsOf (.bl s :: r) = (blsOf r).map (s :: ·) := rfl
@[simp] theorem blsOf_map (ss : List Bool) : blsOf (ss.map .bl) = some ss := by
  induction ss with
  | nil => rfl
  | cons s r ih => rw [List.map_cons, blsOf, ih]; rfl
theorem blsOf_eq : ∀ {xs : List D} {ss : List Bool}, blsOf xs = some ss → xs = ss.map .bl
  | [], ss, h => by cases h; rfl
  | x :: r, ss, h => by
    cases x with
    | bl s =>
      rw [blsOf] at h
      cases q : blsOf r with
      | none => rw [q] at h; cases h
      | some t => rw [q] at h; cases h; rw [blsOf_eq q]; rfl
    | _ => cases h
theorem Reps.bls {K : PySem.W.Frag} {G : Gh} : ∀ {ss : List Bool} {vs : List V}, Reps K G vs (ss.map .bl) → vs = ss.map .bl
  | [], vs, h => h.nil_inv
  | s :: r, vs, h => by
    obtain ⟨v, vr, rfl, a, b⟩ := h.cons_inv
    rw [a.ofBl, Reps.bls b]; rfl
@[simp] def cAll : RCD := fun ds μ Q => match ds with
  | [x] => ∃ xs bs, vw μ x = .lst xs ∧ blsOf xs = some bs ∧ Q (.bl (bs.all id)) μ
  | _ => False
@[simp] def cAny : RCD := fun ds μ Q => match ds with
  | [x] => ∃ xs bs, vw μ x = .lst xs ∧ blsOf xs = some bs ∧ Q (.bl (bs.any id)) μ
  | _ => False
theorem dc_all (hc : X.calm = true) : CallR X (.builtin "all") (rAll X.K) ∧ RefC X.K B cAll (rAll X.K) := by
  refine ⟨cr_all hc, ?_⟩
  intro ρ μ σ H G vs ds Q Qn S r h hd
  unfold cAll at h
  split at h
  · obtain ⟨v, rfl, rv⟩ := reps1 r
    obtain ⟨xs, bs, e, eb, q⟩ := h
    obtain ⟨a, ws, rfl, h1, qq⟩ := S.hold.lst rv e
    rw [blsOf_eq eb] at qq
    have := qq.bls
    subst this
    exact ⟨a, bs, rfl, SqL.of h1, hd.now S (.bl _) q⟩
  · exact h.elim
theorem dc_any (hc : X.calm = true) : CallR X (.builtin "any") (rAny X.K) ∧ RefC X.K B cAny (rAny X.K) := by
  refine ⟨cr_any hc, ?_⟩
  intro ρ μ σ H G vs ds Q Qn S r h hd
  unfold cAny at h
  split at h
  · obtain ⟨v, rfl, rv⟩ := reps1 r
    obtain ⟨xs, bs, e, eb, q⟩ := h
    obtain ⟨a, ws, rfl, h1, qq⟩ := S.hold.lst rv e
    rw [blsOf_eq eb] at qq
    have := qq.bls
    subst this
    exact ⟨a, bs, rfl, SqL.of h1, hd.now S (.bl _) q⟩
  · exact h.elim
/-- isinstance(x, T), T a built-in type -/
@[simp] def tyN : D → Option String
  | .non => some "NoneType" | .bl _ => some "bool" | .int _ => some "int" | .str _ => some "str" | .lst _ => some "list" | .tup _ => some "tuple" | .dic _ => some "dict" | _ => none
def cIsi (T : String) : RCD := fun ds μ Q => match ds with
  | [x, .ptr _] => ∃ n, tyN (vw μ x) = some n ∧ ∃ b, kitB n T = some b ∧ Q (.bl b) μ
  | _ => False

/-! ### methods -/
abbrev RMD := D → List D → Mu → QD → Prop
def RefM (K : PySem.W.Frag) (B : Gh) (T : String) (R : RMD) (r : V → List V → Hp → VK → Prop) : Prop := ∀ ρ μ σ H G x dx vs ds Q (Qn : VK), Sat K B G ρ μ σ H → Rep K G x dx → Reps K G vs ds → R dx ds μ Q → Hand K B G ρ σ Q Qn → r x vs H Qn
@[simp] def isTyD (T : String) (d : D) : Prop := match d with
  | .lst _ => T = "list" | .str _ => T = "str" | _ => False
@[simp] def dBM (T : String) (R : RMD) (To : TDE) (Ta : TDA) : TDE := fun ρ μ Q => To ρ μ fun x μ1 => isTyD T (vw μ1 x) ∧ Ta ρ μ1 fun ds μ2 => R x ds μ2 Q
theorem tyV_go {K : PySem.W.Frag} {T : String} {x : V} {dx : D} {μ : Mu} {H : Hp} {G : Gh} (h : isTyD T (vw μ dx)) (S : Hold K G μ H) (r : Rep K G x dx) : tyV K T x H := by
  cases e : vw μ dx with
  | lst xs =>
    rw [e] at h
    have h' : T = "list" := h
    subst h'
    obtain ⟨a, vs, rfl, h1, _⟩ := S.lst r e
    exact .inl ⟨rfl, _, SqL.of h1⟩
  | str s =>
    rw [e] at h
    have h' : T = "str" := h
    subst h'
    cases vw_str' e
    cases r
    rfl
  | _ => rw [e] at h; exact False.elim h
theorem de_bm {T id : String} {name : Str} {o e : Expr} {es : List Expr} {to : TE} {t : TA} {To : TDE} {Ta : TDA} {apos cpos : Pos} {r : V → List V → Hp → VK → Prop} {R : RMD} (pa : PlainAttrs T) (slot : Slot T name id) (hty : typeOf (.builtin id) = pure (.type "method_descriptor")) (hm : MtR X id r ∧ RefM X.K B T R r) (ho : DE X B o to To) (ha : DA X B (e :: es) t Ta)
    (hbase : attributeBase o name X.env (eval o X.env) = eval o X.env := by rfl)
    (hfew : ((backTo cpos (starEach (e :: es) X.env)).all (fun x => !x.1) && (backToKw cpos (keywordEach [] X.env)).all (fun x => x.1.isSome)
      && decide ((e :: es).length + ([] : List Keyword).length + (if ([] : List Keyword).isEmpty then 0 else 1) < 30)) = true := by rfl)
    (hline : (apos.endLine == cpos.line) = true := by rfl) (hs : starEach (e :: es) X.env = (false, eval e X.env) :: starEach es X.env := by rfl) (hplain : (backTo cpos (starEach es X.env)).any (·.1) = false := by rfl) :
    DE X B (.Call (.Attribute o name apos) (e :: es) [] cpos) (tBM X.K T r to t) (dBM T R To Ta) :=
  ⟨pe_bm pa slot hty hm.1 ho.pe ha.pa hbase hfew hline hs hplain, fun ρ μ σ H G Q Qn S h hd => ho.ref ρ μ σ H G _ _ S h fun d μ1 v H1 G1 g1 S1 r1 ⟨k1, q1⟩ => ⟨tyV_go k1 S1.hold r1, ha.ref ρ μ1 σ H1 G1 _ _ S1 q1 fun ds μ2 vs H2 G2 g2 S2 r2 q2 => hm.2 ρ μ2 σ H2 G2 v d vs ds Q Qn S2 (r1.mono g2) r2 q2 (hd.mono (g1.trans g2))⟩⟩
theorem de_bm0 {T id : String} {name : Str} {o : Expr} {to : TE} {To : TDE} {apos cpos : Pos} {r : V → List V → Hp → VK → Prop} {R : RMD} (pa : PlainAttrs T) (slot : Slot T name id) (hty : typeOf (.builtin id) = pure (.type "method_descriptor")) (hm : MtR X id r ∧ RefM X.K B T R r) (ho : DE X B o to To)
    (hbase : attributeBase o name X.env (eval o X.env) = eval o X.env := by rfl) (hline : (apos.endLine == cpos.line) = true := by rfl) :
    DE X B (.Call (.Attribute o name apos) [] [] cpos) (tBM0 X.K T r to) (dBM T R To dNil) :=
  ⟨pe_bm0 pa slot hty hm.1 ho.pe hbase hline, fun ρ μ σ H G Q Qn S h hd => ho.ref ρ μ σ H G _ _ S h fun d μ1 v H1 G1 g1 S1 r1 ⟨k1, q1⟩ => ⟨tyV_go k1 S1.hold r1, hm.2 ρ μ1 σ H1 G1 v d [] [] Q Qn S1 r1 Reps.nil q1 (hd.mono g1)⟩⟩

/-! list methods on cells -/
@[simp] def mAppend : RMD := fun x ds μ Q => match x, ds with
  | .ptr a, [d] => ∃ xs, μ a = some (.lst xs) ∧ xs.length < sizeLine ∧ Q .non (mup μ a (.lst (xs ++ [d])))
  | _, _ => False
theorem Sat.cellSet {K : PySem.W.Frag} {G : Gh} {ρ : DR} {σ : St} {μ : Mu} {H : Hp} {p : Addr} {o : HO} {c c0 : Cell} (S : Sat K B G ρ μ σ H) (q0 : μ p = some c0) (r : CellR K G o c) : Sat K B G ρ (mup μ p c) σ (upd H p o) := ⟨S.hold.cellSet q0 r, S.env⟩
theorem Hold.lstAt {K : PySem.W.Frag} {G : Gh} {μ : Mu} {H : Hp} {a : Addr} {xs : List D} (h : Hold K G μ H) (e : μ a = some (.lst xs)) : ∃ vs, H a = some (.lst vs) ∧ Reps K G vs xs := by
  obtain ⟨_, o, y, z⟩ := h.cell a _ e
  obtain ⟨vs, rfl, z2⟩ := cellR_lst z
  exact ⟨vs, y, z2⟩
theorem dm_append : MtR X "list.append" rAppend ∧ RefM X.K B "list" mAppend rAppend := by
  refine ⟨mt_append, ?_⟩
  intro ρ μ σ H G x dx vs ds Q Qn S r1 r2 h hd
  unfold mAppend at h
  split at h
  · next a d =>
    cases r1
    obtain ⟨v, rfl, rv⟩ := reps1 r2
    obtain ⟨xs, e, l, q⟩ := h
    obtain ⟨ws, h1, rr⟩ := S.hold.lstAt e
    exact ⟨a, ws, v, rfl, rfl, h1, by rw [rr.1]; exact l, hd.now (S.cellSet e (show CellR X.K G (.lst (ws ++ [v])) (.lst (xs ++ [d])) from rr.append (Reps.one rv))) .non q⟩
  · exact h.elim
@[simp] def mPop : RMD := fun x ds μ Q => match x, ds with
  | .ptr a, [] => ∃ xs d, μ a = some (.lst (xs ++ [d])) ∧ Q d (mup μ a (.lst xs))
  | _, _ => False
theorem dm_pop : MtR X "list.pop" rPop ∧ RefM X.K B "list" mPop rPop := by
  refine ⟨mt_pop, ?_⟩
  intro ρ μ σ H G x dx vs ds Q Qn S r1 r2 h hd
  unfold mPop at h
  split at h
  · next a =>
    cases r1
    rw [r2.nil_inv]
    obtain ⟨xs, d, e, q⟩ := h
    obtain ⟨ws, h1, rr⟩ := S.hold.lstAt e
    have l := rr.1
    obtain ⟨v, ev, rv⟩ := rr.get (i := xs.length) (d := d) (by simp)
    refine ⟨a, ws, v, rfl, rfl, h1, by rw [l]; simpa using ev, ?_⟩
    have r3 := rr.dropLast
    rw [List.dropLast_concat] at r3
    exact hd.now (S.cellSet e (show CellR X.K G (.lst ws.dropLast) (.lst xs) from r3)) rv q
  · exact h.elim
/-- xs.insert(i, d), 0 ≤ i -/
@[simp] def mInsert : RMD := fun x ds μ Q => match x, ds with
  | .ptr a, [.int i, d] => ∃ xs, μ a = some (.lst xs) ∧ xs.length < sizeLine ∧ 0 ≤ i ∧ i < 2 ^ 63 ∧ Q .non (mup μ a (.lst (xs.take i.toNat ++ d :: xs.drop i.toNat)))
  | _, _ => False

/-! text methods -/
@[simp] def mStarts : RMD := fun x ds μ Q => match x, ds with
  | .str a, [.str b] => Q (.bl (Txt.startswith a b)) μ
  | _, _ => False
theorem dm_startswith : MtR X "str.startswith" (fun x xs H Q => ∃ a b, x = .str a ∧ xs = [.str b] ∧ Q (.bl (Txt.startswith a b)) H) ∧ RefM X.K B "str" mStarts (fun x xs H Q => ∃ a b, x = .str a ∧ xs = [.str b] ∧ Q (.bl (Txt.startswith a b)) H) := by
  refine ⟨mt_startswith, ?_⟩
  intro ρ μ σ H G x dx vs ds Q Qn S r1 r2 h hd
  unfold mStarts at h
  split at h
  · next a b =>
    cases r1
    obtain ⟨v, rfl, rv⟩ := reps1 r2
    cases rv
    exact ⟨a, b, rfl, rfl, hd.now S (.bl _) h⟩
  · exact h.elim
@[simp] def mEnds : RMD := fun x ds μ Q => match x, ds with
  | .str a, [.str b] => Q (.bl (Txt.endswith a b)) μ
  | _, _ => False
theorem dm_endswith : MtR X "str.endswith" (fun x xs H Q => ∃ a b, x = .str a ∧ xs = [.str b] ∧ Q (.bl (Txt.endswith a b)) H) ∧ RefM X.K B "str" mEnds (fun x xs H Q => ∃ a b, x = .str a ∧ xs = [.str b] ∧ Q (.bl (Txt.endswith a b)) H) := by
  refine ⟨mt_endswith, ?_⟩
  intro ρ μ σ H G x dx vs ds Q Qn S r1 r2 h hd
  unfold mEnds at h
  split at h
  · next a b =>
    cases r1
    obtain ⟨v, rfl, rv⟩ := reps1 r2
    cases rv
    exact ⟨a, b, rfl, rfl, hd.now S (.bl _) h⟩
  · exact h.elim
/-- t.split(sep) -/
@[simp] def mSplit (c : Bool) : RMD := fun x ds μ Q => match x, ds with
  | .str a, [.str b] => (b.length == 0) = false ∧ a.length + 2 ≤ sizeLine ∧ mkL c ((Txt.split a b).map .str) μ Q
  | _, _ => False
theorem dm_split (c : Bool) : MtR X "str.split" (fun x xs H Q => ∃ a b, x = .str a ∧ xs = [.str b] ∧ (b.length == 0) = false ∧ a.length + 2 ≤ sizeLine ∧ rNewStrs (Txt.split a b) H Q) ∧
    RefM X.K B "str" (mSplit c) (fun x xs H Q => ∃ a b, x = .str a ∧ xs = [.str b] ∧ (b.length == 0) = false ∧ a.length + 2 ≤ sizeLine ∧ rNewStrs (Txt.split a b) H Q) := by
  refine ⟨mt_split, ?_⟩
  intro ρ μ σ H G x dx vs ds Q Qn S r1 r2 h hd
  unfold mSplit at h
  split at h
  · next a b =>
    cases r1
    obtain ⟨v, rfl, rv⟩ := reps1 r2
    cases rv
    exact ⟨a, b, rfl, rfl, h.1, h.2.1, fun p n => mkL_go h.2.2 S (Reps.ofStrs _) hd n⟩
  · exact h.elim
end

/-! ### words of truth -/
section
variable {X : Cx} {pos : Pos} {a b : Expr} {rest : List Expr} {tA tB' : TT} {TA' TB' : TDT} {ta tb : TE} {Ta Tb : TDE}
@[simp] def dAnd (t u : TDT) : TDT := fun ρ μ Q => t ρ μ fun c μ1 => if c = true then u ρ μ1 Q else Q false μ1
@[simp] def dOr (t u : TDT) : TDT := fun ρ μ Q => t ρ μ fun c μ1 => if c = true then Q true μ1 else u ρ μ1 Q
@[simp] def dNot (t : TDT) : TDT := fun ρ μ Q => t ρ μ fun c μ1 => Q (!c) μ1
theorem dw_and1 (h : DT X B a tA TA') : DW X B (.BoolOp .And [a] pos) tA TA' := ⟨pw_and1 h.pt, h.ref⟩
theorem dw_or1 (h : DT X B a tA TA') : DW X B (.BoolOp .Or [a] pos) tA TA' := ⟨pw_or1 h.pt, h.ref⟩
theorem dw_and (ha : DT X B a tA TA') (hb : DW X B (.BoolOp .And (b :: rest) pos) tB' TB') : DW X B (.BoolOp .And (a :: b :: rest) pos) (tAnd tA tB') (dAnd TA' TB') :=
  ⟨pw_and ha.pt hb.pw, fun ρ μ σ H G Q Qn S h hd => ha.ref ρ μ σ H G _ _ S h fun c μ1 H1 G1 g1 S1 q1 => by
    cases c with
    | true => exact hb.ref ρ μ1 σ H1 G1 _ _ S1 q1 fun d μ2 H2 G2 g2 => hd d μ2 H2 G2 (g1.trans g2)
    | false => exact hd false μ1 H1 G1 g1 S1 q1⟩
theorem dw_or (ha : DT X B a tA TA') (hb : DW X B (.BoolOp .Or (b :: rest) pos) tB' TB') : DW X B (.BoolOp .Or (a :: b :: rest) pos) (tOr tA tB') (dOr TA' TB') :=
  ⟨pw_or ha.pt hb.pw, fun ρ μ σ H G Q Qn S h hd => ha.ref ρ μ σ H G _ _ S h fun c μ1 H1 G1 g1 S1 q1 => by
    cases c with
    | false => exact hb.ref ρ μ1 σ H1 G1 _ _ S1 q1 fun d μ2 H2 G2 g2 => hd d μ2 H2 G2 (g1.trans g2)
    | true => exact hd true μ1 H1 G1 g1 S1 q1⟩
theorem DW.dt {e : Expr} {t : TT} {T : TDT} (h : DW X B e t T) : DT X B e t T := ⟨h.pw.pt, h.ref⟩
theorem dt_not (h : DT X B a tA TA') : DT X B (.UnaryOp .Not a pos) (tNot tA) (dNot TA') :=
  ⟨pt_not h.pt, fun ρ μ σ H G Q Qn S q hd => h.ref ρ μ σ H G _ _ S q fun c μ1 H1 G1 g1 S1 q1 => hd (!c) μ1 H1 G1 g1 S1 q1⟩
/-! .. as values (all but the last a bool) -/
@[simp] def dAndV (ta tb : TDE) : TDE := fun ρ μ Q => ta ρ μ fun x μ1 => match x with | .bl c => if c = true then tb ρ μ1 Q else Q (.bl false) μ1 | _ => False
@[simp] def dOrV (ta tb : TDE) : TDE := fun ρ μ Q => ta ρ μ fun x μ1 => match x with | .bl c => if c = true then Q (.bl true) μ1 else tb ρ μ1 Q | _ => False
@[simp] def dNotV (ta : TDE) : TDE := fun ρ μ Q => ta ρ μ fun x μ1 => match x with | .bl c => Q (.bl (!c)) μ1 | _ => False
theorem de_one {op} (h : DE X B a ta Ta) : DE X B (.BoolOp op [a] pos) ta Ta := ⟨pe_one h.pe, h.ref⟩
theorem de_and (ha : DE X B a ta Ta) (hb : DE X B (.BoolOp .And (b :: rest) pos) tb Tb) : DE X B (.BoolOp .And (a :: b :: rest) pos) (tAndV ta tb) (dAndV Ta Tb) :=
  ⟨pe_and ha.pe hb.pe, fun ρ μ σ H G Q Qn S h hd => ha.ref ρ μ σ H G _ _ S h fun d μ1 v H1 G1 g1 S1 r1 q1 => by
    cases d with
    | bl c =>
      refine ⟨c, r1.ofBl, ?_⟩
      cases c with
      | true => exact hb.ref ρ μ1 σ H1 G1 _ _ S1 q1 (hd.mono g1)
      | false => exact hd.mono g1 |>.now S1 (.bl _) q1
    | _ => exact False.elim q1⟩
theorem de_or (ha : DE X B a ta Ta) (hb : DE X B (.BoolOp .Or (b :: rest) pos) tb Tb) : DE X B (.BoolOp .Or (a :: b :: rest) pos) (tOrV ta tb) (dOrV Ta Tb) :=
  ⟨pe_or ha.pe hb.pe, fun ρ μ σ H G Q Qn S h hd => ha.ref ρ μ σ H G _ _ S h fun d μ1 v H1 G1 g1 S1 r1 q1 => by
    cases d with
    | bl c =>
      refine ⟨c, r1.ofBl, ?_⟩
      cases c with
      | false => exact hb.ref ρ μ1 σ H1 G1 _ _ S1 q1 (hd.mono g1)
      | true => exact hd.mono g1 |>.now S1 (.bl _) q1
    | _ => exact False.elim q1⟩
theorem de_not (h : DE X B a ta Ta) : DE X B (.UnaryOp .Not a pos) (tNotV ta) (dNotV Ta) :=
  ⟨pe_not h.pe, fun ρ μ σ H G Q Qn S q hd => h.ref ρ μ σ H G _ _ S q fun d μ1 v H1 G1 g1 S1 r1 q1 => by
    cases d with
    | bl c => exact ⟨c, r1.ofBl, hd.mono g1 |>.now S1 (.bl _) q1⟩
    | _ => exact False.elim q1⟩
@[simp] def dIf (t : TDT) (ta tb : TDE) : TDE := fun ρ μ Q => t ρ μ fun c μ1 => if c = true then ta ρ μ1 Q else tb ρ μ1 Q
theorem de_ifExp {c : Expr} {tc : TT} {Tc : TDT} (hc : DT X B c tc Tc) (ha : DE X B a ta Ta) (hb : DE X B b tb Tb) : DE X B (.IfExp c a b pos) (tIf tc ta tb) (dIf Tc Ta Tb) :=
  ⟨pe_ifExp hc.pt ha.pe hb.pe, fun ρ μ σ H G Q Qn S h hd => hc.ref ρ μ σ H G _ _ S h fun c μ1 H1 G1 g1 S1 q1 => by
    cases c with
    | true => exact ha.ref ρ μ1 σ H1 G1 _ _ S1 q1 (hd.mono g1)
    | false => exact hb.ref ρ μ1 σ H1 G1 _ _ S1 q1 (hd.mono g1)⟩
/-! a number's sign -/
@[simp] def dNeg (T : TDE) : TDE := fun ρ μ Q => T ρ μ fun d μ1 => match d with | .int i => Q (.int (-i)) μ1 | _ => False
theorem de_neg (h : DE X B a ta Ta) : DE X B (.UnaryOp .USub a pos) (tUn (rU fun i => .int (-i)) ta) (dNeg Ta) :=
  ⟨pe_un un_neg h.pe, fun ρ μ σ H G Q Qn S q hd => h.ref ρ μ σ H G _ _ S q fun d μ1 v H1 G1 g1 S1 r1 q1 => by
    cases d with
    | int i => exact ⟨i, r1.ofInt, hd.mono g1 |>.now S1 (.int _) q1⟩
    | _ => exact False.elim q1⟩
/-! truth of a value -/
@[simp] def truD : D → Option Bool
  | .non => some false
  | .bl b => some b
  | .int i => some (i != 0)
  | .str s => if s.length ≤ sizeLine then some ((s.length : Int) != 0) else none
  | .lst xs => some (!xs.isEmpty)
  | .tup xs => some (!xs.isEmpty)
  | _ => none
@[simp] def dTru (T : TDE) : TDT := fun ρ μ Q => T ρ μ fun d μ1 => ∃ b, truD (vw μ1 d) = some b ∧ Q b μ1
end
end DL

/-! DL4: statements, loops, comprehensions, calls, defs. -/
namespace DL
open PySem PySem.Spec PyProof.Rows L2

/-! ### targets -/
abbrev TDG := D → DR → Mu → (DR → Mu → Prop) → Prop
abbrev TDGs := List D → DR → Mu → (DR → Mu → Prop) → Prop
def RefG (K : PySem.W.Frag) (B : Gh) (T : TDG) (t : TG) : Prop := ∀ d v ρ μ σ H G (Q : DR → Mu → Prop) (Qn : St → Hp → Prop), Sat K B G ρ μ σ H → Rep K G v d → T d ρ μ Q → (∀ ρ' μ' σ' H' G', Gle G G' → Sat K B G' ρ' μ' σ' H' → Q ρ' μ' → Qn σ' H') → t v σ H Qn
def RefGs (K : PySem.W.Frag) (B : Gh) (T : TDGs) (t : TGs) : Prop := ∀ ds vs ρ μ σ H G (Q : DR → Mu → Prop) (Qn : St → Hp → Prop), Sat K B G ρ μ σ H → Reps K G vs ds → T ds ρ μ Q → (∀ ρ' μ' σ' H' G', Gle G G' → Sat K B G' ρ' μ' σ' H' → Q ρ' μ' → Qn σ' H') → t vs σ H Qn
structure DG (X : Cx) (B : Gh) (e : Expr) (t : TG) (T : TDG) : Prop where
  pg : PG X e t
  ref : RefG X.K B T t
structure DGs (X : Cx) (B : Gh) (es : List Expr) (t : TGs) (T : TDGs) : Prop where
  pgs : PGs X es t
  ref : RefGs X.K B T t
section
variable {X : Cx} {pos : Pos}
@[simp] def dgName (i : Nat) : TDG := fun d ρ μ Q => Q (ρ.set i (some d)) μ
theorem dg_name (i : Nat) {x : Str} (hN : X.N.Nodup) (hi : X.N[i]? = some x := by rfl) (hx : Loc X.env.scope x := by first | exact Or.inl rfl | exact Or.inr rfl) (hf : X.fn x = true ∨ X.env.scope.names.lookup x = some .local := by first | exact .inl rfl | exact .inr rfl | assumption) : DG X B (.Name x pos) (gName i) (dgName i) :=
  ⟨pg_name hN hi hx hf, fun d v ρ μ σ H G Q Qn S r h hd => hd _ μ _ H G (Gle.refl G) ⟨S.hold, S.env.set r i⟩ h⟩
@[simp] def dgNil : TDGs := fun ds ρ μ Q => ds = [] ∧ Q ρ μ
@[simp] def dgCons (T : TDG) (U : TDGs) : TDGs := fun ds ρ μ Q => match ds with
  | d :: r => T d ρ μ fun ρ' μ' => U r ρ' μ' Q
  | [] => False
theorem dgs_nil : DGs X B [] gNil dgNil := ⟨pgs_nil, fun ds vs ρ μ σ H G Q Qn S r h hd => by
  obtain ⟨rfl, h⟩ := h
  exact ⟨r.nil_inv, hd ρ μ σ H G (Gle.refl G) S h⟩⟩
theorem dgs_cons {e : Expr} {es : List Expr} {t : TG} {u : TGs} {T : TDG} {U : TDGs} (h1 : DG X B e t T) (h2 : DGs X B es u U) (hs : (assignEach (e :: es) X.env).map (·.2) = assign e X.env :: (assignEach es X.env).map (·.2) := by rfl) : DGs X B (e :: es) (gCons t u) (dgCons T U) :=
  ⟨pgs_cons h1.pg h2.pgs hs, fun ds vs ρ μ σ H G Q Qn S r h hd => by
    cases ds with
    | nil => exact False.elim h
    | cons d ds =>
      obtain ⟨v, w, rfl, a, b⟩ := r.cons_inv
      exact ⟨v, w, rfl, h1.ref d v ρ μ σ H G _ _ S a h fun ρ1 μ1 σ1 H1 G1 g1 S1 q1 => h2.ref ds w ρ1 μ1 σ1 H1 G1 _ _ S1 (b.mono g1) q1 fun ρ2 μ2 σ2 H2 G2 g2 => hd ρ2 μ2 σ2 H2 G2 (g1.trans g2)⟩⟩
/-- a, b, .. = a tuple -/
@[simp] def dgTup (n : Nat) (U : TDGs) : TDG := fun d ρ μ Q => ∃ xs, vw μ d = .tup xs ∧ xs.length = n ∧ U xs ρ μ Q
theorem dg_tup {es : List Expr} {k : Nat} {t : TGs} {U : TDGs} {n : Nat} (hc : X.calm = true) (h : DGs X B es t U) (hn : (assignEach es X.env).length = n := by rfl) (hst : (assignEach es X.env).findIdx? (·.1) = none := by rfl) : DG X B (.Tuple es k pos) (gTup X.K n t) (dgTup n U) :=
  ⟨pg_tup hc h.pgs hn hst, fun d v ρ μ σ H G Q Qn S r ⟨xs, e, l, q⟩ hd => by
    obtain ⟨a, vs, rfl, h1, rr⟩ := S.hold.tup r e
    exact ⟨a, vs, rfl, h1, by rw [rr.1]; exact l, h.ref xs vs ρ μ σ H G Q Qn S rr q hd⟩⟩
/-- xs[i] = d, a cell -/
@[simp] def setD (o i d : D) (μ : Mu) (Q : Mu → Prop) : Prop := match o, i with
  | .ptr a, .int k => ∃ xs j, μ a = some (.lst xs) ∧ ixN xs.length k = some j ∧ Q (mup μ a (.lst (xs.set j d)))
  | _, _ => False
@[simp] def dgSub (To Ti : TDE) : TDG := fun d ρ μ Q => To ρ μ fun o μ1 => Ti ρ μ1 fun i μ2 => setD o i d μ2 fun μ3 => Q ρ μ3
theorem dg_sub {o i : Expr} {to ti : TE} {To Ti : TDE} (ho : DE X B o to To) (hi : DE X B i ti Ti) (ha : ∀ v, assign (.Subscript o i pos) X.env v = (do
      let ov ← holding [v] (eval o X.env)
      let iv ← holding [v, ov] (eval i X.env)
      standAt pos
      holding [v, ov, iv] (setItem ov iv v)
      release [v, ov, iv] []) := by intro _; rfl) : DG X B (.Subscript o i pos) (gSub to ti rSetL) (dgSub To Ti) :=
  ⟨pg_sub ho.pe hi.pe set_list ha, fun d v ρ μ σ H G Q Qn S r h hd => ho.ref ρ μ σ H G _ _ S h fun o' μ1 ov H1 G1 g1 S1 r1 q1 => hi.ref ρ μ1 σ H1 G1 _ _ S1 q1 fun i' μ2 iv H2 G2 g2 S2 r2 q2 => by
    unfold setD at q2
    split at q2
    · next a k =>
      cases r1; cases r2
      obtain ⟨xs, j, e, ej, q⟩ := q2
      obtain ⟨ws, h1, rr⟩ := S2.hold.lstAt e
      have rd : Rep X.K G2 v d := r.mono (g1.trans g2)
      exact ⟨a, ws, k, j, rfl, rfl, h1, by rw [rr.1]; exact ej, hd ρ _ _ _ G2 (g1.trans g2) (S2.cellSet e (show CellR X.K G2 (.lst (ws.set j v)) (.lst (xs.set j d)) from rr.set rd j)) q⟩
    · exact q2.elim⟩

/-! ### statements -/
@[simp] def dNext : TDS := fun E ρ μ => E.nx ρ μ
@[simp] def dSeq (T U : TDS) : TDS := fun E ρ μ => T { E with nx := fun ρ' μ' => U E ρ' μ' } ρ μ
theorem dss_nil : DSs X B [] tNext dNext := ⟨pss_nil, fun ρ μ σ H G E Dn S h hd => hd.nx ρ μ σ H G (Gle.refl G) S h⟩
theorem ref_seq {K : PySem.W.Frag} {t u : TS} {T U : TDS} (h1 : RefS K B T t) (h2 : RefS K B U u) : RefS K B (dSeq T U) (tSeq t u) := fun ρ μ σ H G E Dn S h hd =>
  h1 ρ μ σ H G { E with nx := fun ρ' μ' => U E ρ' μ' } { Dn with nx := u Dn } S h ⟨fun ρ' μ' σ' H' G' g S' q => h2 ρ' μ' σ' H' G' E Dn S' q (hd.mono g), hd.rt, hd.bk, hd.ct⟩
theorem dss_cons {st : Stmt} {rest : List Stmt} {t u : TS} {T U : TDS} (h1 : DS X B st t T) (h2 : DSs X B rest u U) : DSs X B (st :: rest) (tSeq t u) (dSeq T U) := ⟨pss_cons h1.ps h2.pss, ref_seq h1.ref h2.ref⟩
theorem dss_one {st : Stmt} {t : TS} {T : TDS} (h1 : DS X B st t T) : DSs X B [st] t T := ⟨pss_one h1.ps, h1.ref⟩
@[simp] def dBreak : TDS := fun E ρ μ => E.bk ρ μ
@[simp] def dCont : TDS := fun E ρ μ => E.ct ρ μ
theorem ds_pass : DS X B (.Pass pos) tNext dNext := ⟨ps_pass, fun ρ μ σ H G E Dn S h hd => hd.nx ρ μ σ H G (Gle.refl G) S h⟩
theorem ds_break : DS X B (.Break pos) tBreak dBreak := ⟨ps_break, fun ρ μ σ H G E Dn S h hd => hd.bk ρ μ σ H G (Gle.refl G) S h⟩
theorem ds_continue : DS X B (.Continue pos) tCont dCont := ⟨ps_continue, fun ρ μ σ H G E Dn S h hd => hd.ct ρ μ σ H G (Gle.refl G) S h⟩
def dNever : TDS := fun _ _ _ => False
theorem ds_never {st : Stmt} : DS X B st tNever dNever := ⟨ps_never, fun _ _ _ _ _ _ _ _ h _ => h.elim⟩
theorem dss_never {st : List Stmt} : DSs X B st tNever dNever := ⟨pss_never, fun _ _ _ _ _ _ _ _ h _ => h.elim⟩
@[simp] def dDrop (T : TDE) : TDS := fun E ρ μ => T ρ μ fun _ μ1 => E.nx ρ μ1
theorem ds_expr {e : Expr} {te : TE} {T : TDE} (he : DE X B e te T) (hs : swapsWith e none pos.line X.env = pure false := by rfl) : DS X B (.Expr e pos) (tDrop te) (dDrop T) :=
  ⟨ps_expr he.pe hs, fun ρ μ σ H G E Dn S h hd => he.ref ρ μ σ H G _ _ S h fun d μ1 v H1 G1 g1 S1 r1 q1 => hd.nx ρ μ1 σ H1 G1 g1 S1 q1⟩
@[simp] def dRet (T : TDE) : TDS := fun E ρ μ => T ρ μ E.rt
theorem ds_ret {e : Expr} {te : TE} {T : TDE} (he : DE X B e te T) : DS X B (.Return (some e) pos) (tRet te) (dRet T) :=
  ⟨ps_ret he.pe, fun ρ μ σ H G E Dn S h hd => he.ref ρ μ σ H G _ _ S h fun d μ1 v H1 G1 g1 S1 r1 q1 => hd.rt d μ1 v H1 G1 g1 S1.hold r1 q1⟩
@[simp] def dRetN : TDS := fun E _ μ => E.rt .non μ
theorem ds_retN : DS X B (.Return none pos) tRetN dRetN := ⟨ps_retN, fun ρ μ σ H G E Dn S h hd => hd.rt .non μ .non H G (Gle.refl G) S.hold .non h⟩
@[simp] def dIfS (c : TDT) (T U : TDS) : TDS := fun E ρ μ => c ρ μ fun b μ1 => if b = true then T E ρ μ1 else U E ρ μ1
theorem ds_if {c : Expr} {p q : List Stmt} {tc : TT} {t u : TS} {Tc : TDT} {T U : TDS} (hc : DT X B c tc Tc) (ha : DSs X B p t T) (hb : DSs X B q u U) : DS X B (.If c p q pos) (tIfS tc t u) (dIfS Tc T U) :=
  ⟨ps_if hc.pt ha.pss hb.pss, fun ρ μ σ H G E Dn S h hd => hc.ref ρ μ σ H G _ _ S h fun b μ1 H1 G1 g1 S1 q1 => by
    cases b with
    | true => exact ha.ref ρ μ1 σ H1 G1 E Dn S1 q1 (hd.mono g1)
    | false => exact hb.ref ρ μ1 σ H1 G1 E Dn S1 q1 (hd.mono g1)⟩
@[simp] def dAsg (T : TDE) (g : TDG) : TDS := fun E ρ μ => T ρ μ fun d μ1 => g d ρ μ1 E.nx
theorem ref_asg {K : PySem.W.Frag} {te : TE} {g : TG} {T : TDE} {U : TDG} (he : RefE K B T te) (hg : RefG K B U g) : RefS K B (dAsg T U) (tAsg te g) := fun ρ μ σ H G E Dn S h hd =>
  he ρ μ σ H G _ _ S h fun d μ1 v H1 G1 g1 S1 r1 q1 => hg d v ρ μ1 σ H1 G1 _ _ S1 r1 q1 fun ρ2 μ2 σ2 H2 G2 g2 S2 q2 => hd.nx ρ2 μ2 σ2 H2 G2 (g1.trans g2) S2 q2
theorem ds_asg {tg e : Expr} {te : TE} {g : TG} {T : TDE} {U : TDG} (he : DE X B e te T) (hg : DG X B tg g U) (hs : swapsWithSole [tg] e pos.line X.env = pure false := by rfl) (hw : swappedStores [tg] e X.env = pure none := by rfl)
    (h1 : (assignEach [tg] X.env).map (·.2) = [assign tg X.env] := by rfl) : DS X B (.Assign [tg] e pos) (tAsg te g) (dAsg T U) := ⟨ps_asg he.pe hg.pg hs hw h1, ref_asg he.ref hg.ref⟩
theorem ds_set (i : Nat) {x : Str} {e : Expr} {te : TE} {T : TDE} {pos' : Pos} (hN : X.N.Nodup) (he : DE X B e te T) (hi : X.N[i]? = some x := by rfl) (hx : Loc X.env.scope x := by first | exact Or.inl rfl | exact Or.inr rfl) (hs : swapsWith e (some (.Name x pos')) pos.line X.env = pure false := by rfl) (hf : X.fn x = true ∨ X.env.scope.names.lookup x = some .local := by first | exact .inl rfl | exact .inr rfl | assumption) :
    DS X B (.Assign [.Name x pos'] e pos) (tAsg te (gName i)) (dAsg T (dgName i)) := ⟨ps_set hN hi hx he.pe hs hf, ref_asg he.ref (dg_name (X := X) (pos := pos') i hN hi hx hf).ref⟩
/-- name op= e -/
@[simp] def dAug (i : Nat) (R : R2D) (T : TDE) : TDS := fun E ρ μ => match ρ[i]? with
  | some (some x) => T ρ μ fun y μ1 => R x y μ1 fun z μ2 => E.nx (ρ.set i (some z)) μ2
  | _ => False
theorem ds_aug (i : Nat) {x : Str} {e : Expr} {te : TE} {T : TDE} {op : Operator} {r : R2} {R : R2D} {pos' : Pos} (hN : X.N.Nodup) (ho : OpR X (inplaceOp op) r ∧ Ref2 X.K B R r) (he : DE X B e te T) (hi : X.N[i]? = some x := by rfl) (hx : Loc X.env.scope x := by first | exact Or.inl rfl | exact Or.inr rfl) (hf : X.fn x = true ∨ X.env.scope.names.lookup x = some .local := by first | exact .inl rfl | exact .inr rfl | assumption) :
    DS X B (.AugAssign (.Name x pos') op e pos) (tAug i te r) (dAug i R T) :=
  ⟨ps_aug hN hi hx he.pe ho.1 hf, fun ρ μ σ H G E Dn S h hd => by
    unfold dAug at h
    split at h
    · next d e1 =>
      obtain ⟨v, a, rv⟩ := S.env.2 i d e1
      exact ⟨v, a, he.ref ρ μ σ H G _ _ S h fun d2 μ1 v2 H1 G1 g1 S1 r1 q1 => ho.2 ρ μ1 σ H1 G1 v v2 d d2 _ _ S1 (rv.mono g1) r1 q1 fun d3 μ2 v3 H2 G2 g2 S2 r2 q2 => hd.nx _ μ2 _ H2 G2 (g1.trans g2) ⟨S2.hold, S2.env.set r2 i⟩ q2⟩
    · exact h.elim⟩
theorem do_iadd : OpR X (inplaceOp .Add) (rI0 fun i j => .int (i + j)) ∧ Ref2 X.K B (opZ0 fun i j => .int (i + j)) (rI0 fun i j => .int (i + j)) := ⟨iop_add, ref_I0⟩
theorem do_isub : OpR X (inplaceOp .Sub) (rI0 fun i j => .int (i - j)) ∧ Ref2 X.K B opSub (rI0 fun i j => .int (i - j)) := ⟨iop_sub, ref_I0⟩
/-- a local's cell is frozen, ahead of a block -/
@[simp] def dFrzS (i : Nat) (T : TDS) : TDS := fun E ρ μ => match ρ[i]? with
  | some (some (.ptr a)) => match μ a with
    | some (.lst xs) => T E (ρ.set i (some (.lst xs))) (mdel μ a)
    | _ => False
  | _ => False
theorem St.set_self {σ : St} {i : Nat} {v : V} (h : σ[i]? = some (some v)) : σ.set i (some v) = σ := by
  apply List.ext_getElem?
  intro j
  rw [List.getElem?_set]
  split
  · next e =>
    subst e
    have l := (List.getElem?_eq_some_iff.mp h).1
    rw [if_pos l, h]
  · rfl
theorem ref_frz {K : PySem.W.Frag} (i : Nat) {t : TS} {T : TDS} (h : RefS K B T t) : RefS K B (dFrzS i T) t := fun ρ μ σ H G E Dn S q hd => by
  unfold dFrzS at q
  split at q
  · next a e =>
    split at q
    · next xs e2 =>
      obtain ⟨v, ev, rv⟩ := S.env.2 i _ e
      cases rv
      obtain ⟨ws, h1, rr⟩ := S.hold.lstAt e2
      have g : Gle G (G.frz a (.lst ws)) := Gle.frz (S.hold.cell a _ e2).1
      have S2 : Sat K B (G.frz a (.lst ws)) (ρ.set i (some (.lst xs))) (mdel μ a) σ H := by
        refine ⟨S.hold.freeze e2 h1, ?_⟩
        have := (S.env.mono g).set (v := .ref a) (d := .lst xs) (.lst (show upd G.fr a (.lst ws) a = some (.lst ws) from upd_same) rr.1 fun j v d x y => (rr.2 j v d x y).mono g) i
        rwa [St.set_self ev] at this
      exact h _ _ σ H _ E Dn S2 q (hd.mono g)
    · exact q.elim
  · exact q.elim
theorem dss_frz (i : Nat) {st : List Stmt} {t : TS} {T : TDS} (h : DSs X B st t T) : DSs X B st t (dFrzS i T) := ⟨h.pss, ref_frz i h.ref⟩
/-- an expression whose cell is frozen at once -/
@[simp] def frz (d : D) (μ : Mu) (Q : QD) : Prop := match d with
  | .ptr a => match μ a with
    | some (.lst xs) => Q (.lst xs) (mdel μ a)
    | some (.dic xs) => Q (.dic xs) (mdel μ a)
    | some (.ins C fs) => Q (.obj C fs) (mdel μ a)
    | _ => False
  | d => Q d μ
@[simp] def dFrz (T : TDE) : TDE := fun ρ μ Q => T ρ μ fun d μ1 => frz d μ1 Q
theorem de_frz {e : Expr} {te : TE} {T : TDE} (h : DE X B e te T) : DE X B e te (dFrz T) := ⟨h.pe, fun ρ μ σ H G Q Qn S q hd => h.ref ρ μ σ H G _ _ S q fun d μ1 v H1 G1 g1 S1 r1 q1 => by
  cases d with
  | ptr a =>
    cases r1
    have q2 : (match μ1 a with
      | some (.lst xs) => Q (.lst xs) (mdel μ1 a)
      | some (.dic xs) => Q (.dic xs) (mdel μ1 a)
      | some (.ins C fs) => Q (.obj C fs) (mdel μ1 a)
      | _ => False) := q1
    cases e : μ1 a with
    | none => rw [e] at q2; exact q2.elim
    | some c =>
      rw [e] at q2
      obtain ⟨f, o, h1, rr⟩ := S1.hold.cell a c e
      have g : Gle G1 (G1.frz a o) := Gle.frz f
      have S2 : Sat X.K B (G1.frz a o) ρ (mdel μ1 a) σ H1 := ⟨S1.hold.freeze e h1, S1.env.mono g⟩
      have up : upd G1.fr a o a = some o := upd_same
      cases c with
      | lst xs =>
        obtain ⟨ws, rfl, r9⟩ := cellR_lst rr
        exact hd _ _ _ _ _ (g1.trans g) S2 (.lst up r9.1 fun j v d x y => (r9.2 j v d x y).mono g) q2
      | dic xs =>
        obtain ⟨ws, rfl, r9⟩ := cellR_dic rr
        exact hd _ _ _ _ _ (g1.trans g) S2 (.dic up r9.1 fun j v d x y => (r9.2.2 j v d x y).mono g) q2
      | dicL _ _ xs => exact False.elim q2
      | ins C fs =>
        obtain ⟨dx, ws, rfl, r9⟩ := cellR_ins rr
        exact hd _ _ _ _ _ (g1.trans g) S2 (.obj up r9.1 fun j v d x y => (r9.2.2 j v d x y).mono g) q2
  | _ => exact (hd.mono g1) _ _ _ _ G1 (Gle.refl G1) S1 r1 q1⟩

/-! ### loops -/
/-- what is walked: the items, handed over as data -/
abbrev TDI := DR → Mu → (List D → Mu → Prop) → Prop
def loopL (g : TDG) (T : TDS) (E : DEnds) : List D → DR → Mu → Prop
  | [], ρ, μ => E.nx ρ μ
  | x :: r, ρ, μ => g x ρ μ fun ρ2 μ2 => T { E with nx := loopL g T E r, ct := loopL g T E r, bk := E.nx } ρ2 μ2
@[simp] def dFor (I : TDI) (g : TDG) (T : TDS) : TDS := fun E ρ μ => I ρ μ fun xs μ1 => loopL g T E xs ρ μ1
/-- the walk of iter at the layer's level yields these items -/
def RefI (K : PySem.W.Frag) (B : Gh) (I : TDI) (i : TI) : Prop := ∀ ρ μ σ H G (Q : List D → Mu → Prop) (R : It → Hp → Prop), Sat K B G ρ μ σ H → I ρ μ Q →
  (∀ xs μ1 J H1 G1, Gle G G1 → Sat K B G1 ρ μ1 σ H1 → Q xs μ1 →
    (∀ n H' G' μ', Gle G1 G' → Hold K G' μ' H' → (n < xs.length → J.go n H') ∧ (xs.length ≤ n → J.stop n H')) →
    (∀ n x v H' H2 G' μ', Gle G1 G' → Hold K G' μ' H' → xs[n]? = some x → J.yld n H' v H2 → ∃ G2, Gle G' G2 ∧ Hold K G2 μ' H2 ∧ Rep K G2 v x) → R J H1) → i σ H R
theorem ref_for {K : PySem.W.Frag} {I : TDI} {i : TI} {g : TDG} {gn : TG} {T : TDS} {t : TS} (hi : RefI K B I i) (hg : RefG K B g gn) (ht : RefS K B T t) : RefS K B (dFor I g T) (tFor i gn t) := fun ρ μ σ H G E Dn S h hd => by
  refine hi ρ μ σ H G _ _ S h fun xs μ1 J H1 G1 g1 S1 q1 hgo hy => ?_
  refine ⟨fun n m σ' H' => m = xs.length - n ∧ n ≤ xs.length ∧ ∃ G' ρ' μ', Gle G1 G' ∧ Sat K B G' ρ' μ' σ' H' ∧ loopL g T E (xs.drop n) ρ' μ', ⟨xs.length, by simp, Nat.zero_le _, G1, ρ, μ1, Gle.refl _, S1, by simpa using q1⟩, ?_⟩
  rintro n m σ' H' ⟨rfl, hn, G', ρ', μ', g2, S2, q2⟩
  by_cases hlt : n < xs.length
  · refine .inr ⟨(hgo n H' G' μ' g2 S2.hold).1 hlt, fun σ3 H3 => ∃ G3 ρ3 μ3, Gle G1 G3 ∧ Sat K B G3 ρ3 μ3 σ3 H3 ∧ loopL g T E (xs.drop (n + 1)) ρ3 μ3, ?_, ?_⟩
    · rintro σ3 H3 ⟨G3, ρ3, μ3, g3, S3, q3⟩
      exact ⟨xs.length - (n + 1), by omega, rfl, hlt, G3, ρ3, μ3, g3, S3, q3⟩
    · intro v H2 yv
      obtain ⟨G2, g3, h2, rv⟩ := hy n xs[n] v H' H2 G' μ' g2 S2.hold (List.getElem?_eq_getElem hlt) yv
      rw [List.drop_eq_getElem_cons hlt] at q2
      have S3 : Sat K B G2 ρ' μ' σ' H2 := ⟨h2, S2.env.mono g3⟩
      refine hg xs[n] v ρ' μ' σ' H2 G2 _ _ S3 rv q2 fun ρ4 μ4 σ4 H4 G4 g4 S4 q4 => ?_
      refine ht ρ4 μ4 σ4 H4 G4 _ _ S4 q4 ⟨?_, ?_, ?_, ?_⟩
      · exact fun ρ5 μ5 σ5 H5 G5 g5 S5 q5 => ⟨G5, ρ5, μ5, ((g2.trans g3).trans g4).trans g5, S5, q5⟩
      · exact fun d μ5 v5 H5 G5 g5 S5 r5 q5 => hd.rt d μ5 v5 H5 G5 ((((g1.trans g2).trans g3).trans g4).trans g5) S5 r5 q5
      · exact fun ρ5 μ5 σ5 H5 G5 g5 S5 q5 => hd.nx ρ5 μ5 σ5 H5 G5 ((((g1.trans g2).trans g3).trans g4).trans g5) S5 q5
      · exact fun ρ5 μ5 σ5 H5 G5 g5 S5 q5 => ⟨G5, ρ5, μ5, ((g2.trans g3).trans g4).trans g5, S5, q5⟩
  · have e : n = xs.length := by omega
    subst e
    rw [List.drop_length] at q2
    exact .inl ⟨(hgo _ H' G' μ' g2 S2.hold).2 (Nat.le_refl _), hd.nx ρ' μ' σ' H' G' (g1.trans g2) S2 q2⟩
structure DI (X : Cx) (B : Gh) (tg e : Expr) (i : TI) (I : TDI) : Prop where
  pi : PI X tg e i
  ref : RefI X.K B I i
theorem ds_for {tg iter : Expr} {body : List Stmt} {i : TI} {I : TDI} {g : TG} {U : TDG} {t : TS} {T : TDS} (hp : PassesOwn (model X.prog X.w) X.A X.env X.xe) (hc : X.calm = true) (hi : DI X B tg iter i I) (hg : DG X B tg g U) (hb : DSs X B body t T)
    (hs : ∀ x, foldedSetIterable iter X.env x = pure x := by intro _; rfl) : DS X B (.For tg iter body [] pos) (tFor i g t) (dFor I U T) := ⟨ps_for hp hc hi.pi hg.pg hb.pss hs, ref_for hi.ref hg.ref hb.ref⟩
/-- a frozen list, a tuple -/
@[simp] def iLst (T : TDE) : TDI := fun ρ μ Q => T ρ μ fun d μ1 => match d with | .lst xs => Q xs μ1 | _ => False
@[simp] def iTupD (T : TDE) : TDI := fun ρ μ Q => T ρ μ fun d μ1 => match d with | .tup xs => Q xs μ1 | _ => False
theorem di_list {tg e : Expr} {te : TE} {T : TDE} (h : DE X B e te T) : DI X B tg e (iList X.K te) (iLst T) := ⟨pi_list h.pe, fun ρ μ σ H G Q R S q hd => h.ref ρ μ σ H G _ _ S q fun d μ1 v H1 G1 g1 S1 r1 q1 => by
  cases d with
  | lst xs =>
    cases r1 with
    | lst hh l r =>
      rename_i a vs
      have at' : ∀ {H' : Hp} {G' : Gh} {μ' : Mu}, Gle G1 G' → Hold X.K G' μ' H' → H' a = some (.lst vs) := fun g hh' => hh'.fr _ _ (g.fr _ _ hh)
      refine ⟨a, rfl, ⟨vs, SqL.of (at' (Gle.refl _) S1.hold)⟩, hd xs μ1 _ H1 G1 g1 S1 q1 (fun n H' G' μ' g h' => ⟨fun hn => ?_, fun hn => ?_⟩) fun n x w H' H2 G' μ' g h' ex y => ?_⟩
      · exact ⟨vs, vs[n]'(by rw [l]; exact hn), SqL.of (at' g h'), List.getElem?_eq_getElem _⟩
      · exact ⟨vs, SqL.of (at' g h'), by rw [l]; exact hn⟩
      · obtain ⟨rfl, y⟩ := y
        have e1 := y vs (SqL.of (at' g h'))
        exact ⟨G', Gle.refl _, h', (r n w x e1 ex).mono g⟩
  | _ => exact False.elim q1⟩
theorem di_tup {tg e : Expr} {te : TE} {T : TDE} (h : DE X B e te T) : DI X B tg e (iTup X.K te) (iTupD T) := ⟨pi_tup h.pe, fun ρ μ σ H G Q R S q hd => h.ref ρ μ σ H G _ _ S q fun d μ1 v H1 G1 g1 S1 r1 q1 => by
  cases d with
  | tup xs =>
    cases r1 with
    | tup hh l r =>
      rename_i a vs
      have at' : ∀ {H' : Hp} {G' : Gh} {μ' : Mu}, Gle G1 G' → Hold X.K G' μ' H' → SqT X.K H' a vs := fun g hh' => hh'.fr.seqT (g.fr.seqT hh)
      refine ⟨a, rfl, ⟨vs, at' (Gle.refl _) S1.hold⟩, hd xs μ1 _ H1 G1 g1 S1 q1 (fun n H' G' μ' g h' => ⟨fun hn => ?_, fun hn => ?_⟩) fun n x w H' H2 G' μ' g h' ex y => ?_⟩
      · exact ⟨vs, vs[n]'(by rw [l]; exact hn), at' g h', List.getElem?_eq_getElem _⟩
      · exact ⟨vs, at' g h', by rw [l]; exact hn⟩
      · obtain ⟨rfl, y⟩ := y
        have e1 := y vs (at' g h')
        exact ⟨G', Gle.refl _, h', (r n w x e1 ex).mono g⟩
  | _ => exact False.elim q1⟩
/-- the script -/
@[simp] def iScr (T : TDE) : TDI := fun ρ μ Q => T ρ μ fun d μ1 => match d with | .scr ns => Q (ns.map .int) μ1 | _ => False
theorem di_scr {tg e : Expr} {te : TE} {T : TDE} (h : DE X B e te T) : DI X B tg e (iList X.K te) (iScr T) := ⟨pi_list h.pe, fun ρ μ σ H G Q R S q hd => h.ref ρ μ σ H G _ _ S q fun d μ1 v H1 G1 g1 S1 r1 q1 => by
  cases d with
  | scr ns =>
    cases r1 with
    | scr hh =>
      rename_i a
      have at' : ∀ {H' : Hp} {G' : Gh} {μ' : Mu}, Gle G1 G' → Hold X.K G' μ' H' → SqL X.K H' a (ns.map V.int) := fun g hh' => hh'.fr.seqL (g.fr.seqL hh)
      refine ⟨a, rfl, ⟨_, at' (Gle.refl _) S1.hold⟩, hd (ns.map .int) μ1 _ H1 G1 g1 S1 q1 (fun n H' G' μ' g h' => ⟨fun hn => ?_, fun hn => ?_⟩) fun n x w H' H2 G' μ' g h' ex y => ?_⟩
      · exact ⟨_, (ns.map V.int)[n]'(by simpa using hn), at' g h', List.getElem?_eq_getElem _⟩
      · exact ⟨_, at' g h', by simpa using hn⟩
      · obtain ⟨rfl, y⟩ := y
        have e1 := y _ (at' g h')
        exact ⟨G', Gle.refl _, h', (Reps.ofInts ns).2 n w x e1 ex⟩
  | _ => exact False.elim q1⟩
/-- range(n), range(a, b) -/
def rngD (lo hi : Int) : List D := (List.range (hi - lo).toNat).map fun (k : Nat) => .int (lo + (k : Int))
@[simp] def iRg1 (T : TDA) : TDI := fun ρ μ Q => T ρ μ fun ds μ1 => match ds with | [.int j] => (-(2 ^ 62) ≤ j ∧ j < 2 ^ 62) ∧ Q (rngD 0 j) μ1 | _ => False
@[simp] def iRg2 (T : TDA) : TDI := fun ρ μ Q => T ρ μ fun ds μ1 => match ds with | [.int i, .int j] => (-(2 ^ 62) ≤ i ∧ i < 2 ^ 62 ∧ -(2 ^ 62) ≤ j ∧ j < 2 ^ 62) ∧ Q (rngD i j) μ1 | _ => False
theorem rngD_get {lo hi : Int} {n : Nat} {x : D} (h : (rngD lo hi)[n]? = some x) : x = .int (lo + (n : Int)) := by
  unfold rngD at h
  rw [List.getElem?_map] at h
  cases q : (List.range (hi - lo).toNat)[n]? with
  | none => rw [q] at h; cases h
  | some k =>
    rw [q] at h
    have := (List.getElem?_eq_some_iff.mp q).2
    simp at this
    subst this
    cases h; rfl
theorem di_range1 {a : Expr} {ta : TA} {T : TDA} {tg : Expr} {p : Pos} (hg : Gl X "range") (hm : X.mg "range" = none) (ha : DA X B [a] ta T) (hs : starEach [a] X.env = [(false, eval a X.env)] := by rfl) : DI X B tg (.Call (.Name "range" p) [a] [] pos) (iRng1 ta) (iRg1 T) :=
  ⟨pi_range1 hg hm ha.pa hs, fun ρ μ σ H G Q R S q hd => ha.ref ρ μ σ H G _ _ S q fun ds μ1 vs H1 G1 g1 S1 r1 q1 => by
    split at q1
    · next j =>
      obtain ⟨v, rfl, rv⟩ := reps1 r1
      cases rv
      obtain ⟨⟨b1, b2⟩, q1⟩ := q1
      refine ⟨j, rfl, b1, b2, hd (rngD 0 j) μ1 _ H1 G1 g1 S1 q1 (fun n H' G' μ' g h' => ⟨fun hn => ?_, fun hn => ?_⟩) fun n x w H' H2 G' μ' g h' ex y => ?_⟩
      · simpa [rngD, Itr] using hn
      · simpa [rngD, Itr] using hn
      · obtain ⟨rfl, rfl⟩ := y
        rw [rngD_get ex]
        exact ⟨G', Gle.refl _, h', .int _⟩
    · exact q1.elim⟩
theorem di_range2 {a b : Expr} {ta : TA} {T : TDA} {tg : Expr} {p : Pos} (hg : Gl X "range") (hm : X.mg "range" = none) (ha : DA X B [a, b] ta T) (hs : starEach [a, b] X.env = [(false, eval a X.env), (false, eval b X.env)] := by rfl) (hs2 : starEach [b] X.env = [(false, eval b X.env)] := by rfl) :
    DI X B tg (.Call (.Name "range" p) [a, b] [] pos) (iRng2 ta) (iRg2 T) :=
  ⟨pi_range2 hg hm ha.pa hs hs2, fun ρ μ σ H G Q R S q hd => ha.ref ρ μ σ H G _ _ S q fun ds μ1 vs H1 G1 g1 S1 r1 q1 => by
    split at q1
    · next i j =>
      obtain ⟨v, w, rfl, rv, rw'⟩ := reps2 r1
      cases rv; cases rw'
      obtain ⟨⟨b1, b2, b3, b4⟩, q1⟩ := q1
      refine ⟨i, j, rfl, ⟨b1, b2, b3, b4⟩, hd (rngD i j) μ1 _ H1 G1 g1 S1 q1 (fun n H' G' μ' g h' => ⟨fun hn => ?_, fun hn => ?_⟩) fun n x w H' H2 G' μ' g h' ex y => ?_⟩
      · simpa [rngD, Itr] using hn
      · simpa [rngD, Itr] using hn
      · obtain ⟨rfl, rfl⟩ := y
        rw [rngD_get ex]
        exact ⟨G', Gle.refl _, h', .int _⟩
    · exact q1.elim⟩
/-- a text, sign by sign -/
@[simp] def iTxt (T : TDE) : TDI := fun ρ μ Q => T ρ μ fun d μ1 => match d with | .str s => Q (s.cps.toList.map fun c => .str (mk [c])) μ1 | _ => False
theorem di_str {tg e : Expr} {te : TE} {T : TDE} (h : DE X B e te T) : DI X B tg e (iStr te) (iTxt T) := ⟨pi_str h.pe, fun ρ μ σ H G Q R S q hd => h.ref ρ μ σ H G _ _ S q fun d μ1 v H1 G1 g1 S1 r1 q1 => by
  cases d with
  | str s =>
    cases r1
    refine ⟨s, rfl, hd _ μ1 _ H1 G1 g1 S1 q1 (fun n H' G' μ' g h' => ⟨fun hn => ?_, fun hn => ?_⟩) fun n x w H' H2 G' μ' g h' ex y => ?_⟩
    · simpa [Its] using hn
    · simpa [Its] using hn
    · obtain ⟨rfl, c, ec, rfl⟩ := y
      refine ⟨G', Gle.refl _, h', ?_⟩
      rw [List.getElem?_map] at ex
      have : s.cps.toList[n]? = some c := by simpa using ec
      rw [this] at ex
      cases ex
      exact .str _
  | _ => exact False.elim q1⟩
end

/-! ### while: an invariant, a measure -/
def dWhile (c : TDT) (T : TDS) : TDS := fun E ρ μ => ∃ W : Nat → DR → Mu → Prop, (∃ m, W m ρ μ) ∧ ∀ m ρ μ, W m ρ μ →
  c ρ μ fun b μ1 => if b = true then T { E with nx := fun ρ' μ' => ∃ m', m' < m ∧ W m' ρ' μ', ct := fun ρ' μ' => ∃ m', m' < m ∧ W m' ρ' μ', bk := E.nx } ρ μ1 else E.nx ρ μ1
section
variable {X : Cx} {pos : Pos}
theorem ds_while {c : Expr} {body : List Stmt} {tc : TT} {t : TS} {Tc : TDT} {T : TDS} (hp : PassesOwn (model X.prog X.w) X.A X.env X.xe) (hc : DT X B c tc Tc) (hb : DSs X B body t T) : DS X B (.While c body [] pos) (tWhile tc t) (dWhile Tc T) :=
  ⟨ps_while hp hc.pt hb.pss, fun ρ μ σ H G E Dn S h hd => by
    obtain ⟨W, ⟨m0, w0⟩, turn⟩ := h
    refine ⟨fun m σ' H' => ∃ G' ρ' μ', Gle G G' ∧ Sat X.K B G' ρ' μ' σ' H' ∧ W m ρ' μ', ⟨m0, G, ρ, μ, Gle.refl G, S, w0⟩, ?_⟩
    rintro m σ' H' ⟨G', ρ', μ', g, S', w⟩
    refine hc.ref ρ' μ' σ' H' G' _ _ S' (turn m ρ' μ' w) fun b μ1 H1 G1 g1 S1 q1 => ?_
    cases b with
    | true =>
      refine ⟨fun σ3 H3 => ∃ m', m' < m ∧ ∃ G3 ρ3 μ3, Gle G G3 ∧ Sat X.K B G3 ρ3 μ3 σ3 H3 ∧ W m' ρ3 μ3, fun σ3 H3 ⟨m', l, r⟩ => ⟨m', l, r⟩, ?_⟩
      refine hb.ref ρ' μ1 σ' H1 G1 _ _ S1 q1 ⟨?_, ?_, ?_, ?_⟩
      · exact fun ρ5 μ5 σ5 H5 G5 g5 S5 ⟨m', l, w5⟩ => ⟨m', l, G5, ρ5, μ5, (g.trans g1).trans g5, S5, w5⟩
      · exact fun d μ5 v5 H5 G5 g5 S5 r5 q5 => hd.rt d μ5 v5 H5 G5 ((g.trans g1).trans g5) S5 r5 q5
      · exact fun ρ5 μ5 σ5 H5 G5 g5 S5 q5 => hd.nx ρ5 μ5 σ5 H5 G5 ((g.trans g1).trans g5) S5 q5
      · exact fun ρ5 μ5 σ5 H5 G5 g5 S5 ⟨m', l, w5⟩ => ⟨m', l, G5, ρ5, μ5, (g.trans g1).trans g5, S5, w5⟩
    | false => exact hd.nx ρ' μ1 σ' H1 G1 (g.trans g1) S1 q1⟩
end
end DL

/-! DL5: comprehensions, calls, defs, the law's end. -/
namespace DL
open PySem PySem.Spec PyProof.Rows L2

/-! ### comprehensions -/
@[simp] def wipeD (ρ : DR) : List Nat → DR
  | [] => ρ
  | v :: vs => (wipeD ρ vs).set v none
theorem Envr.unset {K : PySem.W.Frag} {G : Gh} {σ : St} {ρ : DR} (h : Envr K B G σ ρ) (i : Nat) : Envr K B G (σ.set i none) (ρ.set i none) := by
  refine ⟨⟨by simp [h.1.1], h.1.2⟩, fun j d q => ?_⟩
  rw [List.getElem?_set] at q
  split at q
  · next e =>
    split at q
    · cases q
    · cases q
  · next e => obtain ⟨u, a, b⟩ := h.2 j d q; exact ⟨u, by rw [List.getElem?_set_ne e]; exact a, b⟩
theorem Envr.wipe {K : PySem.W.Frag} {G : Gh} {σ : St} {ρ : DR} (h : Envr K B G σ ρ) : ∀ vs : List Nat, Envr K B G (L2.wipe σ vs) (wipeD ρ vs)
  | [] => h
  | v :: vs => (Envr.wipe h vs).unset v
/-- the comprehension's names alone are stored by the target -/
def KeepG (t : TG) (vs : List Nat) : Prop := ∀ v σ H (Q : St → Hp → Prop), t v σ H Q → t v σ H fun σ' H' => L2.wipe σ' vs = L2.wipe σ vs ∧ Q σ' H'
theorem wipe_set {σ : St} {i : Nat} {x : Option V} : ∀ {vs : List Nat}, i ∈ vs → L2.wipe (σ.set i x) vs = L2.wipe σ vs
  | v :: vs, h => by
    show (L2.wipe (σ.set i x) vs).set v none = (L2.wipe σ vs).set v none
    by_cases hm : i ∈ vs
    · rw [wipe_set hm]
    · have e : i = v := by
        rcases List.mem_cons.mp h with e | e
        · exact e
        · exact absurd e hm
      subst e
      have aux : ∀ (ws : List Nat) (τ : St), i ∉ ws → (L2.wipe (τ.set i x) ws).set i none = (L2.wipe τ ws).set i none := by
        intro ws
        induction ws with
        | nil => intro τ _; show (τ.set i x).set i none = τ.set i none; rw [List.set_set]
        | cons w ws ih =>
          intro τ hn
          have n1 : i ≠ w := fun e => hn (e ▸ List.mem_cons_self)
          have n2 : i ∉ ws := fun e => hn (List.mem_cons_of_mem _ e)
          show ((L2.wipe (τ.set i x) ws).set w none).set i none = ((L2.wipe τ ws).set w none).set i none
          rw [List.set_comm _ _ n1.symm, ih τ n2, List.set_comm _ _ n1]
      exact aux vs σ hm
theorem keep_name {i : Nat} {vs : List Nat} (h : i ∈ vs) : KeepG (gName i) vs := fun v σ H Q q => ⟨wipe_set h, q⟩
def KeepGs (t : TGs) (vs : List Nat) : Prop := ∀ xs σ H (Q : St → Hp → Prop), t xs σ H Q → t xs σ H fun σ' H' => L2.wipe σ' vs = L2.wipe σ vs ∧ Q σ' H'
theorem keep_nil {vs : List Nat} : KeepGs gNil vs := fun xs σ H Q ⟨e, q⟩ => ⟨e, rfl, q⟩
theorem keep_cons {i : Nat} {t : TGs} {vs : List Nat} (h : i ∈ vs) (hs : KeepGs t vs) : KeepGs (gCons (gName i) t) vs := fun xs σ H Q ⟨v, r, e, q⟩ => ⟨v, r, e, by
  have q1 := hs r (σ.set i (some v)) H Q q
  rw [wipe_set h] at q1
  exact q1⟩
theorem keep_tup {K : PySem.W.Frag} {n : Nat} {t : TGs} {vs : List Nat} (h : KeepGs t vs) : KeepG (gTup K n t) vs := fun v σ H Q ⟨a, xs, e1, e2, e3, q⟩ => ⟨a, xs, e1, e2, e3, h xs σ H Q q⟩
theorem wipe_wipe (σ : St) (vs : List Nat) : L2.wipe (L2.wipe σ vs) vs = L2.wipe σ vs := by
  have aux : ∀ (ws vs : List Nat) (τ : St), (∀ w ∈ ws, w ∈ vs) → L2.wipe (L2.wipe τ ws) vs = L2.wipe τ vs := by
    intro ws
    induction ws with
    | nil => intro vs τ _; rfl
    | cons w ws ih =>
      intro vs τ hs
      show L2.wipe ((L2.wipe τ ws).set w none) vs = _
      rw [wipe_set (hs w List.mem_cons_self)]
      exact ih vs τ fun x hx => hs x (List.mem_cons_of_mem _ hx)
  exact aux vs vs σ fun _ h => h

def compL (g : TDG) (tt : TDT) (te : TDE) (p : Addr) (ρ0 : DR) (Q : Mu → Prop) : List D → Mu → Prop
  | [], μ => Q μ
  | x :: r, μ => g x ρ0 μ fun ρ2 μ2 => tt ρ2 μ2 fun b μ3 => if b = true then te ρ2 μ3 fun d μ4 => ∃ acc, μ4 p = some (.lst acc) ∧ acc.length < sizeLine ∧ compL g tt te p ρ0 Q r (mup μ4 p (.lst (acc ++ [d]))) else compL g tt te p ρ0 Q r μ3
/-- the made list: a cell, or frozen -/
@[simp] def endL (c : Bool) (p : Addr) (μ : Mu) (Q : QD) : Prop := match c with
  | true => Q (.ptr p) μ
  | false => ∃ acc, μ p = some (.lst acc) ∧ Q (.lst acc) (mdel μ p)
@[simp] def dLc (c : Bool) (I : TDI) (g : TDG) (tt : TDT) (te : TDE) (vs : List Nat) : TDE := fun ρ μ Q => I ρ μ fun xs μ1 => ∀ p, μ1 p = none → compL g tt te p (wipeD ρ vs) (fun μ2 => endL c p μ2 Q) xs (mup μ1 p (.lst []))
theorem endL_go {K : PySem.W.Frag} {c : Bool} {p : Addr} {μ : Mu} {Q : QD} {ρ : DR} {σ : St} {H : Hp} {G : Gh} {Qn : VK} (h : endL c p μ Q) (S : Sat K B G ρ μ σ H) (hd : Hand K B G ρ σ Q Qn) : Qn (.ref p) H := by
  cases c with
  | true => exact hd.now S (.ptr p) h
  | false =>
    obtain ⟨acc, e, q⟩ := h
    obtain ⟨ws, h1, rr⟩ := S.hold.lstAt e
    have g : Gle G (G.frz p (.lst ws)) := Gle.frz (S.hold.cell p _ e).1
    exact hd _ _ _ _ _ g ⟨S.hold.freeze e h1, S.env.mono g⟩ (.lst (show upd G.fr p (.lst ws) p = some (.lst ws) from upd_same) rr.1 fun j v d x y => (rr.2 j v d x y).mono g) q
theorem ref_lc {K : PySem.W.Frag} {c : Bool} {I : TDI} {i : TI} {g : TDG} {gn : TG} {tt : TDT} {ttn : TT} {te : TDE} {ten : TE} {vs : List Nat} (hi : RefI K B I i) (hg : RefG K B g gn) (hk : KeepG gn vs) (ht : RefT K B tt ttn) (he : RefE K B te ten) : RefE K B (dLc c I g tt te vs) (tLc i gn ttn ten vs) := fun ρ μ σ H G Q Qn S h hd => by
  refine hi ρ μ σ H G _ _ S h fun xs μ1 J H1 G1 g1 S1 q1 hgo hy => ?_
  intro p np
  have hc1 : Hold K G1 (mup μ1 p (.lst [])) (upd H1 p (.lst [])) := S1.hold.cellNew np (show CellR K G1 (.lst []) (.lst []) from Reps.nil)
  have q2 := q1 p (S1.hold.free np).2.1
  refine ⟨fun n m H' => m = xs.length - n ∧ n ≤ xs.length ∧ ∃ G' μ', Gle G1 G' ∧ Hold K G' μ' H' ∧ compL g tt te p (wipeD ρ vs) (fun μ2 => endL c p μ2 Q) (xs.drop n) μ', ⟨xs.length, by simp, Nat.zero_le _, G1, _, Gle.refl _, hc1, by simpa using q2⟩, ?_⟩
  rintro n m H' ⟨rfl, hn, G', μ', g2, S2, q3⟩
  by_cases hlt : n < xs.length
  · refine .inr ⟨(hgo n H' G' μ' g2 S2).1 hlt, fun H3 => ∃ G3 μ3, Gle G1 G3 ∧ Hold K G3 μ3 H3 ∧ compL g tt te p (wipeD ρ vs) (fun μ2 => endL c p μ2 Q) (xs.drop (n + 1)) μ3, ?_, ?_⟩
    · rintro H3 ⟨G3, μ3, g3, S3, q4⟩
      exact ⟨xs.length - (n + 1), by omega, rfl, hlt, G3, μ3, g3, S3, q4⟩
    · intro v H2 yv
      obtain ⟨G2, g3, h2, rv⟩ := hy n xs[n] v H' H2 G' μ' g2 S2 (List.getElem?_eq_getElem hlt) yv
      rw [List.drop_eq_getElem_cons hlt] at q3
      have S3 : Sat K B G2 (wipeD ρ vs) μ' (L2.wipe σ vs) H2 := ⟨h2, (((S1.env.mono g2).mono g3).wipe vs)⟩
      have q4 := hg xs[n] v (wipeD ρ vs) μ' (L2.wipe σ vs) H2 G2 _ (fun σ2 H3 => ttn σ2 H3 fun b H3 => if b = true then ten σ2 H3 fun y H4 => ∃ acc, H4 p = some (.lst acc) ∧ acc.length < sizeLine ∧ (∃ G3 μ3, Gle G1 G3 ∧ Hold K G3 μ3 (upd H4 p (.lst (acc ++ [y]))) ∧ compL g tt te p (wipeD ρ vs) (fun μ2 => endL c p μ2 Q) (xs.drop (n + 1)) μ3) else ∃ G3 μ3, Gle G1 G3 ∧ Hold K G3 μ3 H3 ∧ compL g tt te p (wipeD ρ vs) (fun μ2 => endL c p μ2 Q) (xs.drop (n + 1)) μ3) S3 rv q3 fun ρ4 μ4 σ4 H4 G4 g4 S4 q4 => by
        refine ht ρ4 μ4 σ4 H4 G4 _ _ S4 q4 fun b μ5 H5 G5 g5 S5 q5 => ?_
        cases b with
        | true =>
          refine he ρ4 μ5 σ4 H5 G5 _ _ S5 q5 fun d μ6 v6 H6 G6 g6 S6 r6 q6 => ?_
          obtain ⟨acc, e, l, q6⟩ := q6
          obtain ⟨ws, h1, rr⟩ := S6.hold.lstAt e
          exact ⟨ws, h1, by rw [rr.1]; exact l, G6, _, (((g2.trans g3).trans g4).trans g5).trans g6, S6.hold.cellSet e (show CellR K G6 (.lst (ws ++ [v6])) (.lst (acc ++ [d])) from rr.append (Reps.one r6)), q6⟩
        | false => exact ⟨G5, μ5, ((g2.trans g3).trans g4).trans g5, S5.hold, q5⟩
      have q5 := hk v (L2.wipe σ vs) H2 _ q4
      rw [wipe_wipe] at q5
      exact q5
  · have e : n = xs.length := by omega
    subst e
    rw [List.drop_length] at q3
    exact .inl ⟨(hgo _ H' G' μ' g2 S2).2 (Nat.le_refl _), endL_go q3 ⟨S2, S1.env.mono g2⟩ (hd.mono (g1.trans g2))⟩
structure DTs (X : Cx) (B : Gh) (ifs : List Expr) (t : TT) (T : TDT) : Prop where
  pts : PTs X ifs t
  ref : RefT X.K B T t
@[simp] def dYes : TDT := fun _ μ Q => Q true μ
theorem dts_nil {X : Cx} : DTs X B [] tYes dYes := ⟨pts_nil, fun ρ μ σ H G Q Qn S q hd => hd true μ H G (Gle.refl G) S q⟩
theorem dts_one {X : Cx} {c : Expr} {t : TT} {T : TDT} (h : DT X B c t T) : DTs X B [c] t T := ⟨pts_one h.pt, h.ref⟩
section
variable {X : Cx} {pos : Pos}
theorem de_lc (c : Bool) {elt tg iter : Expr} {ifs : List Expr} {scope : Scope} {own : List (Str × Nat)} {wi : TI} {I : TDI} {g : TG} {U : TDG} {tt : TT} {Tt : TDT} {te : TE} {Te : TDE} (hc : X.calm = true) (hN : X.N.Nodup) (hi : DI X B tg iter wi I) (ok : BlkOk X.N X.env.scope scope own)
    (hg : ∀ (s : Shared) (H : Hp) (C : Addr) (cl : List (Str × Addr)) (fp : List Addr), DG (X.blk s H scope (compEnvC scope cl C X.env) fp) B tg g U) (hk : KeepG g (own.map (·.2))) (ht : ∀ (s : Shared) (H : Hp) (C : Addr) (cl : List (Str × Addr)) (fp : List Addr), DTs (X.blk s H scope (compEnvC scope cl C X.env) fp) B ifs tt Tt)
    (he : ∀ (s : Shared) (H : Hp) (C : Addr) (cl : List (Str × Addr)) (fp : List Addr), DE (X.blk s H scope (compEnvC scope cl C X.env) fp) B elt te Te) (hs : ∀ x, foldedSetIterable iter X.env x = pure x := by intro _; rfl) :
    DE X B (.ListComp elt [⟨tg, iter, ifs, 0⟩] scope pos) (tLc wi g tt te (own.map (·.2))) (dLc c I U Tt Te (own.map (·.2))) :=
  ⟨pe_lc hc hN hi.pi ok (fun s H C cl fp => (hg s H C cl fp).pg) (fun s H C cl fp => (ht s H C cl fp).pts) (fun s H C cl fp => (he s H C cl fp).pe) hs,
    ref_lc hi.ref (hg X.s_0 X.H_0 0 [] []).ref hk (ht X.s_0 X.H_0 0 [] []).ref (he X.s_0 X.H_0 0 [] []).ref⟩
/-- name = [..] on one line -/
theorem ds_setLc (c : Bool) (i : Nat) {y : Str} {py : Pos} {elt tg iter : Expr} {ifs : List Expr} {scope : Scope} {own : List (Str × Nat)} {spos : Pos} {wi : TI} {I : TDI} {g : TG} {U : TDG} {tt : TT} {Tt : TDT} {te : TE} {Te : TDE} (hc : X.calm = true) (hN : X.N.Nodup) (hy : X.N[i]? = some y) (hyl : X.env.scope.names.lookup y = some .local)
    (hsw : swapsWith (.ListComp elt [⟨tg, iter, ifs, 0⟩] scope pos) (some (.Name y py)) spos.line X.env = pure true) (hi : DI X B tg iter wi I) (ok : BlkOk X.N X.env.scope scope own)
    (hg : ∀ (s : Shared) (H : Hp) (C : Addr) (cl : List (Str × Addr)) (fp : List Addr), DG (X.blk s H scope (compEnvC scope cl C X.env) fp) B tg g U) (hk : KeepG g (own.map (·.2))) (ht : ∀ (s : Shared) (H : Hp) (C : Addr) (cl : List (Str × Addr)) (fp : List Addr), DTs (X.blk s H scope (compEnvC scope cl C X.env) fp) B ifs tt Tt)
    (he : ∀ (s : Shared) (H : Hp) (C : Addr) (cl : List (Str × Addr)) (fp : List Addr), DE (X.blk s H scope (compEnvC scope cl C X.env) fp) B elt te Te) (hs : ∀ x, foldedSetIterable iter X.env x = pure x := by intro _; rfl) :
    DS X B (.Assign [.Name y py] (.ListComp elt [⟨tg, iter, ifs, 0⟩] scope pos) spos) (tAsg (tLc wi g tt te (own.map (·.2))) (gName i)) (dAsg (dLc c I U Tt Te (own.map (·.2))) (dgName i)) :=
  ⟨ps_setLc hc hN hy hyl hsw hi.pi ok (fun s H C cl fp => (hg s H C cl fp).pg) (fun s H C cl fp => (ht s H C cl fp).pts) (fun s H C cl fp => (he s H C cl fp).pe) hs,
    ref_asg (ref_lc hi.ref (hg X.s_0 X.H_0 0 [] []).ref hk (ht X.s_0 X.H_0 0 [] []).ref (he X.s_0 X.H_0 0 [] []).ref) (fun d v ρ μ σ H G Q Qn S r h hd => hd _ μ _ H G (Gle.refl G) ⟨S.hold, S.env.set r i⟩ h)⟩
end

/-! ### calls of own defs -/
abbrev XDt := Value → List (Str × D) → Mu → Prop
abbrev DSp := List D → Mu → QD → XDt → Prop
/-- the dict of what is raised: frozen -/
def XRep (K : PySem.W.Frag) (G : Gh) (fs : List (Str × D)) : Option Addr → Prop
  | none => fs = []
  | some a => ∃ fvs, G.fr a = some (.xd fvs) ∧ FReps K G fvs fs
theorem XRep.mono {K : PySem.W.Frag} {G G' : Gh} {fs : List (Str × D)} {od : Option Addr} (h : XRep K G fs od) (g : Gle G G') : XRep K G' fs od := by
  cases od with
  | none => exact h
  | some a => obtain ⟨fvs, e, r⟩ := h; exact ⟨fvs, g.fr _ _ e, r.mono g⟩
def toSp (K : PySem.W.Frag) (S : DSp) : Sp := fun vs H Q E => ∃ G ds μ QQ EE, Hold K G μ H ∧ Reps K G vs ds ∧ S ds μ QQ EE ∧ (∀ d μ' v H' G', Gle G G' → Hold K G' μ' H' → Rep K G' v d → QQ d μ' → Q v H') ∧
  (∀ cls fs μ' od H' G', Gle G G' → Hold K G' μ' H' → XRep K G' fs od → EE cls fs μ' → E cls od H')
@[simp] def noX : XDt := fun _ _ _ => False
@[simp] def dCall (S : DSp) (T : TDA) : TDE := fun ρ μ Q => T ρ μ fun ds μ1 => S ds μ1 Q noX
section
variable {X : Cx} {pos : Pos} {CX : CXT} {k : Nat} {f : Addr} {fd : FuncData} {ps : List Str} {S : DSp} {x : Str} {p : Pos} {e : Expr} {es : List Expr} {t : TA} {T : TDA}
theorem ref_call {K : PySem.W.Frag} (h : RefA K B T t) : RefE K B (dCall S T) (tCall (toSp K S) [] E0 t) := fun ρ μ σ H G Q Qn St q hd => h ρ μ σ H G _ _ St q fun ds μ1 vs H1 G1 g1 S1 r1 q1 => by
  refine ⟨G1, ds, μ1, Q, noX, S1.hold, by rw [List.append_nil]; exact r1, q1, fun d μ' v H' G' g' h' r' q' => hd d μ' v H' G' (g1.trans g') ⟨h', S1.env.mono g'⟩ r' q', fun _ _ _ _ _ _ _ _ _ z => z.elim⟩
theorem de_call (F : FnOk X.prog X.w X.K X.mg X.base CX0 k f fd ps (toSp X.K S)) (hr : Room k X.A) (hm : X.mg x = some (.ref f)) (hk : PySem.W.keepIn X.K (.ref f) = true) (hb : Binds X.K fd ps []) (ha : DA X B (e :: es) t T) (hg : Gl X x := by rfl)
    (hdb : (x == ("__debug__" : Str)) = false := by decide) (he : starEach (e :: es) X.env = (false, eval e X.env) :: starEach es X.env := by rfl) (hpl : (backTo pos (starEach es X.env)).any (·.1) = false := by rfl) :
    DE X B (.Call (.Name x p) (e :: es) [] pos) (tCall (toSp X.K S) [] E0 t) (dCall S T) := ⟨pe_call F hr hg hm hk hb .nil pass0 ha.pa hdb he hpl, ref_call ha.ref⟩
theorem de_call0 (F : FnOk X.prog X.w X.K X.mg X.base CX0 k f fd ps (toSp X.K S)) (hr : Room k X.A) (hm : X.mg x = some (.ref f)) (hk : PySem.W.keepIn X.K (.ref f) = true) (hb : Binds X.K fd ps []) (hg : Gl X x := by rfl)
    (hdb : (x == ("__debug__" : Str)) = false := by decide) : DE X B (.Call (.Name x p) [] [] pos) (tCall (toSp X.K S) [] E0 tNil) (dCall S dNil) := ⟨pe_call0 F hr hg hm hk hb .nil pass0 hdb, ref_call da_nil.ref⟩
theorem RefA.nil' {K : PySem.W.Frag} : RefA K B dNil tNil := fun ρ μ σ H G Q Qn S h hd => hd [] μ [] H G (Gle.refl G) S Reps.nil h
end

/-! ### a def keeps its promise -/
@[simp] def startD (N : List Str) (ds : List D) : DR := ds.map some ++ List.replicate (N.length - ds.length) none
theorem envr_start {K : PySem.W.Frag} {G : Gh} {vs : List V} {ds : List D} (N : List Str) (r : Reps K G vs ds) (b : Gle B G) : Envr K B G (start N vs) (startD N ds) := by
  refine ⟨⟨by simp [L2.start, startD, r.1], b⟩, fun i d q => ?_⟩
  unfold startD at q
  unfold L2.start
  by_cases h : i < ds.length
  · rw [List.getElem?_append_left (by simpa using h)] at q
    rw [List.getElem?_append_left (by simpa [r.1] using h)]
    rw [List.getElem?_map] at q ⊢
    cases e : ds[i]? with
    | none => rw [e] at q; cases q
    | some d' =>
      rw [e] at q
      cases q
      obtain ⟨v, a, b⟩ := r.get e
      exact ⟨v, by rw [a]; rfl, b⟩
  · rw [List.getElem?_append_right (by simpa using Nat.le_of_not_lt h)] at q
    rw [List.getElem?_replicate] at q
    split at q <;> cases q
section
variable {P : Program} {w : World} {K : PySem.W.Frag} {mg : Str → Option Value} {base : Heap}
theorem fn_ok {x qual : Str} {st : Stmt} {f : Addr} {fd : FuncData} {N ps : List Str} {k : Nat} {S : DSp} (F : Fun K x qual st f fd) (SC : FnScope N ps (defScope st)) (len : ∀ ds μ Q E, S ds μ Q E → ds.length = ps.length)
    (hb : ∀ (B : Gh) (cdv : Value) (A : Around) (outer : List Env) (s : Shared) (H : Hp) (E : XK), Room k (A.deeper (envOfC qual (defScope st) s.heap.objs.size f cdv)) →
      ∃ t T, DSs (cxOf CX0 P w K mg base N qual (defScope st) f cdv A outer s H E).nox B (defBody st) t T ∧ ∀ ds μ Q EE, S ds μ Q EE → T { nx := fun _ μ' => Q .non μ', rt := Q } (startD N ds) μ) : FnOk P w K mg base CX0 (k + 1) f fd ps (toSp K S) :=
  F.ok SC (fun vs H Q E ⟨G, ds, μ, QQ, EE, _, r, s, _⟩ => r.1.trans (len ds μ QQ EE s)) fun cdv A outer s H vs Q E hr ⟨G, ds, μ, QQ, EE, hh, r, sp, q, _⟩ => by
    obtain ⟨t, T, h, b⟩ := hb G cdv A outer s H E hr
    refine ⟨t, h.pss, h.ref (startD N ds) μ (start N vs) H G _ _ ⟨hh, envr_start N r (Gle.refl G)⟩ (b ds μ QQ EE sp) ⟨?_, ?_, ?_, ?_⟩⟩
    · exact fun ρ' μ' σ' H' G' g S' z => q .non μ' .non H' G' g S'.hold .non z
    · exact fun d μ' v H' G' g S' rv z => q d μ' v H' G' g S' rv z
    · exact fun _ _ _ _ _ _ _ z => z.elim
    · exact fun _ _ _ _ _ _ _ z => z.elim
/-- a store with less in it -/
def Sub (μ μ' : Mu) : Prop := ∀ a c, μ a = some c → μ' a = some c
theorem Sub.refl (μ : Mu) : Sub μ μ := fun _ _ h => h
theorem Sub.mup {μ μ' : Mu} {p : Addr} {c : Cell} (h : Sub μ μ') (n : μ p = none) : Sub μ (mup μ' p c) := fun a d e => by
  rw [mup_ne (fun x => by rw [x, n] at e; cases e)]; exact h a d e
theorem Sub.mdel {μ μ' : Mu} {p : Addr} (h : Sub μ μ') (n : μ p = none) : Sub μ (mdel μ' p) := fun a d e => by
  rw [mdel_ne (fun x => by rw [x, n] at e; cases e)]; exact h a d e
theorem Hold.sub {G : Gh} {μ μ' : Mu} {H : Hp} (h : Hold K G μ' H) (s : Sub μ μ') : Hold K G μ H :=
  ⟨h.fr, fun a c q => h.cell a c (s a c q), fun a q => let ⟨x, y, z⟩ := h.src a q; ⟨x, (by cases e : μ a with | none => rfl | some c => rw [s a c e] at y; cases y), z⟩,
    fun a q => let ⟨x, y, z⟩ := h.rooms a q; ⟨x, (by cases e : μ a with | none => rfl | some c => rw [s a c e] at y; cases y), z⟩⟩
/-- what is made and not handed back is forgotten -/
def Fg (P : Mu → Prop) (μ : Mu) : Prop := ∃ μ0, Sub μ0 μ ∧ P μ0
theorem Fg.here {P : Mu → Prop} {μ : Mu} (h : P μ) : Fg P μ := ⟨μ, Sub.refl μ, h⟩
theorem Fg.to {P : Mu → Prop} {μ μ0 : Mu} (h : P μ0) (s : Sub μ0 μ) : Fg P μ := ⟨μ0, s, h⟩
/-- as fn_ok; the def's own cells may be left behind -/
theorem fn_okF {x qual : Str} {st : Stmt} {f : Addr} {fd : FuncData} {N ps : List Str} {k : Nat} {S : DSp} (F : Fun K x qual st f fd) (SC : FnScope N ps (defScope st)) (len : ∀ ds μ Q E, S ds μ Q E → ds.length = ps.length)
    (hb : ∀ (B : Gh) (cdv : Value) (A : Around) (outer : List Env) (s : Shared) (H : Hp) (E : XK), Room k (A.deeper (envOfC qual (defScope st) s.heap.objs.size f cdv)) →
      ∃ t T, DSs (cxOf CX0 P w K mg base N qual (defScope st) f cdv A outer s H E).nox B (defBody st) t T ∧ ∀ ds μ Q EE, S ds μ Q EE → T { nx := fun _ μ' => Fg (Q .non) μ', rt := fun d μ' => Fg (Q d) μ' } (startD N ds) μ) : FnOk P w K mg base CX0 (k + 1) f fd ps (toSp K S) :=
  F.ok SC (fun vs H Q E ⟨G, ds, μ, QQ, EE, _, r, s, _⟩ => r.1.trans (len ds μ QQ EE s)) fun cdv A outer s H vs Q E hr ⟨G, ds, μ, QQ, EE, hh, r, sp, q, _⟩ => by
    obtain ⟨t, T, h, b⟩ := hb G cdv A outer s H E hr
    refine ⟨t, h.pss, h.ref (startD N ds) μ (start N vs) H G _ _ ⟨hh, envr_start N r (Gle.refl G)⟩ (b ds μ QQ EE sp) ⟨?_, ?_, ?_, ?_⟩⟩
    · exact fun ρ' μ' σ' H' G' g S' ⟨μ0, s0, z⟩ => q .non μ0 .non H' G' g (S'.hold.sub s0) .non z
    · exact fun d μ' v H' G' g S' rv ⟨μ0, s0, z⟩ => q d μ0 v H' G' g (S'.sub s0) rv z
    · exact fun _ _ _ _ _ _ _ z => z.elim
    · exact fun _ _ _ _ _ _ _ z => z.elim
end
/-- the law's promise -/
def spLaw : DSp := fun ds μ Q _ => ∃ ns, ds = [.scr ns] ∧ ns.length ≤ 63 ∧ ∀ μ', Q (.bl true) μ'
def g0 (H : Hp) : Gh := ⟨H, [], []⟩
theorem hold0 (K : PySem.W.Frag) (H : Hp) : Hold K (g0 H) (fun _ => none) H := ⟨Ext.refl _, (fun _ _ h => by cases h), (fun _ h => by cases h), (fun _ h => by cases h)⟩
theorem spLaw_of {K : PySem.W.Frag} {H : Hp} {a : Addr} {ns : List Int} {Q : VK} {E : XK} (h : SqL K H a (ns.map V.int)) (l : ns.length ≤ 63) (q : ∀ H', Q (.bl true) H') : toSp K spLaw [.ref a] H Q E :=
  ⟨g0 H, [.scr ns], _, fun d _ => d = .bl true, noX, hold0 K H, Reps.one (.scr h), ⟨ns, rfl, l, fun _ => rfl⟩, fun d μ' v H' G' _ _ r e => by
    subst e
    rw [r.ofBl]; exact q H', fun _ _ _ _ _ _ _ _ _ z => z.elim⟩
theorem walk {l : PySem.W.OpenLaw} {q : Program} {loose : List Str} {XP : (Str → Option Value) → Heap → Prop} {YP : World → Heap → Prop} {d : DefRec} {K : Params → PySem.W.Frag} {k : Nat} (hr : Room k callerA) (hn : l.most = some 63) (hdf : d.params.defaults = [])
    (hY : ∀ (w : World) (h : Heap), YP w h → (K w.params).In h)
    (F : ∀ (w : World) (mg : Str → Option Value) (fa : Addr) (h : Heap), (K w.params).In h → h.Ns mainGlobals mg → mg d.name = some (.ref fa) →
      ∃ fd : FuncData, (∀ (s : Shared) (u : Value), BindsTo s fd ⟨[u], []⟩ [("script", u)]) ∧ ∀ base : Heap, (K w.params).In base → base.Ns mainGlobals mg → FnOk l.prog w (K w.params) mg base CX0 k fa fd ["script"] (toSp (K w.params) spLaw)) :
    PySem.W.WalkO q loose XP YP l.row.toRowW d [] (fun f vs => PySem.call f vs) :=
  L2.walk_of (n := 63) (k := k) (x := "script") (CX := fun _ => CX0) (sp := fun w => toSp (K w.params) spLaw) hn (by decide) hdf hr hY F (fun _ _ a ns hl _ hS => spLaw_of hS hl fun _ => rfl) fun _ _ _ _ _ z => z
end DL

/-! DL6: dicts, join, insert, truth, isinstance. -/
namespace DL
open PySem PySem.Spec PyProof.Rows L2

/-! ### dicts -/
def keyD : D → Option Key
  | .int i => some (.inl i)
  | .str s => some (.inr s)
  | _ => none
def unkey : Key → D
  | .inl i => .int i
  | .inr s => .str s
@[simp] theorem unkey_l {i : Int} : unkey (.inl i) = .int i := rfl
@[simp] theorem unkey_r {i : Str} : unkey (.inr i) = .str i := rfl
@[simp] theorem keyD_int {i : Int} : keyD (.int i) = some (.inl i) := rfl
@[simp] theorem keyD_str {i : Str} : keyD (.str i) = some (.inr i) := rfl
theorem rep_key {K : PySem.W.Frag} {G : Gh} {v : V} {d : D} {k : Key} (r : Rep K G v d) (h : keyD d = some k) : v = kV k := by
  cases d with
  | int i => cases h; exact r.ofInt
  | str s => cases h; exact r.ofStr
  | _ => cases h
theorem rep_unkey {K : PySem.W.Frag} {G : Gh} (k : Key) : Rep K G (kV k) (unkey k) := by
  cases k with
  | inl i => exact .int i
  | inr s => exact .str s
def valD {κ : Type} [DecidableEq κ] (kvs : List (κ × D)) (k : κ) : Option D := (kvs.find? fun kv => decide (kv.1 = k)).map (·.2)
def putD {κ : Type} [DecidableEq κ] (kvs : List (κ × D)) (k : κ) (d : D) : List (κ × D) :=
  if (kvs.any fun kv => decide (kv.1 = k)) = true then kvs.map (fun kv => if kv.1 = k then (kv.1, d) else kv) else kvs ++ [(k, d)]
section
variable {κ : Type} [DecidableEq κ] {K : PySem.W.Frag} {G : Gh}
theorem FReps.cons_inv {kv : List (κ × V)} {k : κ} {d : D} {ds : List (κ × D)} (h : FReps K G kv ((k, d) :: ds)) : ∃ v r, kv = (k, v) :: r ∧ Rep K G v d ∧ FReps K G r ds := by
  obtain ⟨h1, h2⟩ := h
  cases kv with
  | nil => simp at h1
  | cons p r =>
    obtain ⟨k', v⟩ := p
    simp at h1
    obtain ⟨rfl, h1⟩ := h1
    obtain ⟨v', w, e, a, b⟩ := h2.cons_inv
    simp at e
    obtain ⟨rfl, rfl⟩ := e
    exact ⟨v, r, rfl, a, h1, b⟩
theorem FReps.nil_inv {kv : List (κ × V)} (h : FReps K G kv ([] : List (κ × D))) : kv = [] := by
  have := h.1
  simpa using this
theorem FReps.nil : FReps K G ([] : List (κ × V)) ([] : List (κ × D)) := ⟨rfl, Reps.nil⟩
theorem FReps.cons {k : κ} {v : V} {d : D} {kv : List (κ × V)} {ds : List (κ × D)} (r : Rep K G v d) (h : FReps K G kv ds) : FReps K G ((k, v) :: kv) ((k, d) :: ds) := ⟨by simp [h.1], Reps.cons r h.2⟩
theorem FReps.append {kv kw : List (κ × V)} {ds es : List (κ × D)} (h : FReps K G kv ds) (g : FReps K G kw es) : FReps K G (kv ++ kw) (ds ++ es) := ⟨by simp [h.1, g.1], by rw [List.map_append, List.map_append]; exact h.2.append g.2⟩
theorem FReps.len {kv : List (κ × V)} {ds : List (κ × D)} (h : FReps K G kv ds) : kv.length = ds.length := by simpa using congrArg List.length h.1
theorem FReps.val {ds : List (κ × D)} (k : κ) : ∀ {kv : List (κ × V)}, FReps K G kv ds → (∀ d, valD ds k = some d → ∃ v, valV kv k = some v ∧ Rep K G v d) ∧ (valD ds k = none → valV kv k = none) := by
  induction ds with
  | nil => intro kv h; rw [h.nil_inv]; exact ⟨fun d e => by simp [valD] at e, fun _ => rfl⟩
  | cons p ds ih =>
    intro kv h
    obtain ⟨k', d⟩ := p
    obtain ⟨v, r, rfl, a, b⟩ := h.cons_inv
    by_cases e : k' = k
    · subst e
      refine ⟨fun d' q => ?_, fun q => ?_⟩
      · simp [valD] at q; subst q; exact ⟨v, by simp [valV], a⟩
      · simp [valD] at q
    · have e1 : valD ((k', d) :: ds) k = valD ds k := by simp [valD, List.find?_cons, e]
      have e2 : valV ((k', v) :: r) k = valV r k := by simp [valV, List.find?_cons, e]
      rw [e1, e2]
      exact ih b
theorem FReps.any {ds : List (κ × D)} (k : κ) : ∀ {kv : List (κ × V)}, FReps K G kv ds → (kv.any fun kv => decide (kv.1 = k)) = (ds.any fun kv => decide (kv.1 = k)) := by
  induction ds with
  | nil => intro kv h; rw [h.nil_inv]; rfl
  | cons p ds ih =>
    intro kv h
    obtain ⟨k', d⟩ := p
    obtain ⟨v, r, rfl, a, b⟩ := h.cons_inv
    simp only [List.any_cons, ih b]
theorem FReps.mapPut {ds : List (κ × D)} {v : V} {d : D} (k : κ) (r : Rep K G v d) : ∀ {kv : List (κ × V)}, FReps K G kv ds → FReps K G (kv.map (fun kv => if kv.1 = k then (kv.1, v) else kv)) (ds.map (fun kv => if kv.1 = k then (kv.1, d) else kv)) := by
  induction ds with
  | nil => intro kv h; rw [h.nil_inv]; exact FReps.nil
  | cons p ds ih =>
    intro kv h
    obtain ⟨k', d'⟩ := p
    obtain ⟨v', kr, rfl, a, b⟩ := h.cons_inv
    by_cases e : k' = k
    · subst e
      simp only [List.map_cons, if_true]
      exact FReps.cons r (ih b)
    · simp only [List.map_cons, if_neg e]
      exact FReps.cons a (ih b)
theorem FReps.put {ds : List (κ × D)} {kv : List (κ × V)} {v : V} {d : D} (h : FReps K G kv ds) (k : κ) (r : Rep K G v d) : FReps K G (putK kv k v) (putD ds k d) := by
  unfold putK putD
  rw [h.any k]
  split
  · exact FReps.mapPut k r h
  · exact h.append (FReps.cons r FReps.nil)
end
section
variable {X : Cx} {pos : Pos}
/-- d[k] -/
@[simp] def dDGet (Td Tk : TDE) : TDE := fun ρ μ Q => Td ρ μ fun x μ1 => Tk ρ μ1 fun y μ2 => ∃ kvs k d, vw μ2 x = .dic kvs ∧ keyD y = some k ∧ valD kvs k = some d ∧ Q d μ2
theorem de_dget {k : Nat} (hr : Room k X.A) {o i : Expr} {td tk : TE} {Td Tk : TDE} (ho : DE X B o td Td) (hi : DE X B i tk Tk) (hs : NoSl i := by exact fun _ _ => rfl) : DE X B (.Subscript o i pos) (tDGet td tk) (dDGet Td Tk) :=
  ⟨pe_dget (hu_of hr) ho.pe hi.pe hs, fun ρ μ σ H G Q Qn S h hd => ho.ref ρ μ σ H G _ _ S h fun x μ1 v H1 G1 g1 S1 r1 q1 => hi.ref ρ μ1 σ H1 G1 _ _ S1 q1 fun y μ2 w H2 G2 g2 S2 r2 ⟨kvs, k, d, e1, e2, e3, q2⟩ => by
    obtain ⟨a, vs, rfl, h1, rr⟩ := S2.hold.dic (r1.mono g2) e1
    obtain ⟨u, eu, ru⟩ := (rr.val k).1 d e3
    exact ⟨a, u, rfl, .inl ⟨vs, k, h1, rep_key r2 e2, eu.symm⟩, (hd.mono (g1.trans g2)).now S2 ru q2⟩⟩
/-- k in d -/
@[simp] def dDIn (neg : Bool) (Tk Td : TDE) : TDE := fun ρ μ Q => Tk ρ μ fun y μ1 => Td ρ μ1 fun x μ2 => ∃ kvs k, vw μ2 x = .dic kvs ∧ keyD y = some k ∧ Q (.bl (neg ^^ (valD kvs k).isSome)) μ2
theorem dic_get {K : PySem.W.Frag} {G : Gh} {H : Hp} {a : Addr} {vs : List (Key × V)} {kvs : List (Key × D)} {k : Key} {v : V} (h1 : Rd H a (.dK vs)) (rr : FReps K G vs kvs) (e : v = kV k) : ∃ o, DGet H a v o ∧ o.isSome = (valD kvs k).isSome := by
  refine ⟨valV vs k, .inl ⟨vs, k, h1, e, rfl⟩, ?_⟩
  cases q : valD kvs k with
  | none => rw [(rr.val k).2 q]; rfl
  | some d => obtain ⟨u, eu, _⟩ := (rr.val k).1 d q; rw [eu]; rfl
theorem de_din {k : Nat} (hr : Room k X.A) {o i : Expr} {td tk : TE} {Td Tk : TDE} (hi : DE X B i tk Tk) (ho : DE X B o td Td) (hm : behindInMarks .In o = false := by rfl) : DE X B (.Compare i [.In] [o] pos) (tDIn tk td) (dDIn false Tk Td) :=
  ⟨pe_cmp (pc_din (hu_of hr) hi.pe ho.pe) hm, fun ρ μ σ H G Q Qn S h hd => hi.ref ρ μ σ H G _ _ S h fun y μ1 w H1 G1 g1 S1 r1 q1 => ho.ref ρ μ1 σ H1 G1 _ _ S1 q1 fun x μ2 v H2 G2 g2 S2 r2 ⟨kvs, k, e1, e2, q2⟩ => by
    obtain ⟨a, vs, rfl, h1, rr⟩ := S2.hold.dic r2 e1
    obtain ⟨ov, g, es⟩ := dic_get h1 rr (rep_key (r1.mono g2) e2)
    exact ⟨a, ov, rfl, g, (hd.mono (g1.trans g2)).now S2 (.bl _) (by rw [es]; simpa using q2)⟩⟩
theorem de_dnin {k : Nat} (hr : Room k X.A) {o i : Expr} {td tk : TE} {Td Tk : TDE} (hi : DE X B i tk Tk) (ho : DE X B o td Td) (hm : behindInMarks .NotIn o = false := by rfl) : DE X B (.Compare i [.NotIn] [o] pos) (tDNotIn tk td) (dDIn true Tk Td) :=
  ⟨pe_cmp (pc_dnotin (hu_of hr) hi.pe ho.pe) hm, fun ρ μ σ H G Q Qn S h hd => hi.ref ρ μ σ H G _ _ S h fun y μ1 w H1 G1 g1 S1 r1 q1 => ho.ref ρ μ1 σ H1 G1 _ _ S1 q1 fun x μ2 v H2 G2 g2 S2 r2 ⟨kvs, k, e1, e2, q2⟩ => by
    obtain ⟨a, vs, rfl, h1, rr⟩ := S2.hold.dic r2 e1
    obtain ⟨ov, g, es⟩ := dic_get h1 rr (rep_key (r1.mono g2) e2)
    exact ⟨a, ov, rfl, g, (hd.mono (g1.trans g2)).now S2 (.bl _) (by rw [es]; simpa using q2)⟩⟩
theorem dt_din {k : Nat} (hr : Room k X.A) {o i : Expr} {td tk : TE} {Td Tk : TDE} (hi : DE X B i tk Tk) (ho : DE X B o td Td) (hm : behindInMarks .In o = false := by rfl) : DT X B (.Compare i [.In] [o] pos) (tB (tDIn tk td)) (dB (dDIn false Tk Td)) := ⟨pt_cmp (pc_din (hu_of hr) hi.pe ho.pe) hm, ref_B (de_din (pos := pos) hr hi ho hm).ref⟩
theorem dt_dnin {k : Nat} (hr : Room k X.A) {o i : Expr} {td tk : TE} {Td Tk : TDE} (hi : DE X B i tk Tk) (ho : DE X B o td Td) (hm : behindInMarks .NotIn o = false := by rfl) : DT X B (.Compare i [.NotIn] [o] pos) (tB (tDNotIn tk td)) (dB (dDIn true Tk Td)) := ⟨pt_cmp (pc_dnotin (hu_of hr) hi.pe ho.pe) hm, ref_B (de_dnin (pos := pos) hr hi ho hm).ref⟩
/-- d[k] = v, a cell -/
@[simp] def dsDPut (Td Tk Tv : TDE) : TDS := fun E ρ μ => Tv ρ μ fun v μ1 => Td ρ μ1 fun x μ2 => Tk ρ μ2 fun y μ3 => ∃ a kvs k, x = .ptr a ∧ μ3 a = some (.dic kvs) ∧ keyD y = some k ∧ kvs.length < sizeLine ∧ E.nx ρ (mup μ3 a (.dic (putD kvs k v)))
theorem ds_dput {k : Nat} (hr : Room k X.A) {o i value : Expr} {td tk tv : TE} {Td Tk Tv : TDE} {pos' : Pos} (ho : DE X B o td Td) (hi : DE X B i tk Tk) (hv : DE X B value tv Tv) (hs : swapsWith value (some (.Subscript o i pos')) pos.line X.env = pure false := by rfl) :
    DS X B (.Assign [.Subscript o i pos'] value pos) (sDPut td tk tv) (dsDPut Td Tk Tv) :=
  ⟨ps_dput (hu_of hr) ho.pe hi.pe hv.pe hs, fun ρ μ σ H G E Dn S h hd => hv.ref ρ μ σ H G _ _ S h fun dv μ1 v H1 G1 g1 S1 r1 q1 => ho.ref ρ μ1 σ H1 G1 _ _ S1 q1 fun x μ2 xv H2 G2 g2 S2 r2 q2 => hi.ref ρ μ2 σ H2 G2 _ _ S2 q2 fun y μ3 yv H3 G3 g3 S3 r3 ⟨a, kvs, k, e1, e2, e3, l, q3⟩ => by
    subst e1
    cases r2
    obtain ⟨_, o, y, z⟩ := S3.hold.cell a _ e2
    obtain ⟨vs, rfl, z2⟩ := cellR_dic z
    refine ⟨a, _, rfl, .inl ⟨vs, k, y, rep_key r3 e3, by rw [z2.len]; exact l, rfl⟩, ?_⟩
    exact hd.nx ρ _ σ _ G3 ((g1.trans g2).trans g3) (S3.cellSet e2 (show CellR X.K G3 (.dK (putK vs k v)) (.dic (putD kvs k dv)) from z2.put k (r1.mono (g2.trans g3)))) q3⟩
/-- {k: v, ..}: c a cell -/
def mkDc (c : Bool) (kvs : List (Key × D)) (μ : Mu) (Q : QD) : Prop := match c with
  | true => ∀ a, μ a = none → Q (.ptr a) (mup μ a (.dic kvs))
  | false => Q (.dic kvs) μ
@[simp] theorem mkDc_t {kvs : List (Key × D)} {μ : Mu} {Q : QD} : mkDc true kvs μ Q = ∀ a, μ a = none → Q (.ptr a) (mup μ a (.dic kvs)) := rfl
@[simp] theorem mkDc_f {kvs : List (Key × D)} {μ : Mu} {Q : QD} : mkDc false kvs μ Q = Q (.dic kvs) μ := rfl
theorem mkDc_go {K : PySem.W.Frag} {c : Bool} {xs : List (Key × D)} {μ : Mu} {Q : QD} {ρ : DR} {σ : St} {H : Hp} {G : Gh} {vs : List (Key × V)} {Qn : VK} {p : Addr} (h : mkDc c xs μ Q) (S : Sat K B G ρ μ σ H) (r : FReps K G vs xs) (hd : Hand K B G ρ σ Q Qn) (n : H p = none) : Qn (.ref p) (upd H p (.dK vs)) := by
  cases c with
  | true => exact hd (.ptr p) _ _ _ G (Gle.refl G) (S.cellNew n (show CellR K G (.dK vs) (.dic xs) from r)) (.ptr p) (h p (S.hold.free n).2.1)
  | false => exact dic_go h S r hd n
@[simp] def dDNew (c : Bool) : TDE := fun _ μ Q => mkDc c [] μ Q
theorem de_dnew (c : Bool) : DE X B (.Dict [] [] pos) tDNewK (dDNew c) := ⟨pe_dnewK, fun ρ μ σ H G Q Qn S h hd p n => mkDc_go h S FReps.nil hd n⟩
/-- the pairs: written keys and values that only read (constants, names) -/
@[simp] def dPairs : List (TDE × TDE) → DR → Mu → (List (D × D) → Mu → Prop) → Prop
  | [], _, μ, Q => Q [] μ
  | (tk, tv) :: r, ρ, μ, Q => tk ρ μ fun x μ1 => tv ρ μ1 fun y μ2 => dPairs r ρ μ2 fun ps μ3 => Q ((x, y) :: ps) μ3
structure DPs (X : Cx) (B : Gh) (pos : Pos) (keys : List (Option Expr)) (values : List Expr) (trs : List (TE × TE)) (Trs : List (TDE × TDE)) : Prop where
  pps : PPs X pos keys values trs
  ref : ∀ ρ μ σ H G (Q : List (D × D) → Mu → Prop) (Qn : List (V × V) → Hp → Prop), Sat X.K B G ρ μ σ H → dPairs Trs ρ μ Q →
    (∀ ps μ' vs H' G', Gle G G' → Sat X.K B G' ρ μ' σ H' → Reps X.K G' (vs.map (·.1)) (ps.map (·.1)) → Reps X.K G' (vs.map (·.2)) (ps.map (·.2)) → Q ps μ' → Qn vs H') → tPairs trs σ H Qn
theorem dps_nil : DPs X B pos [] [] [] [] := ⟨pps_nil, fun ρ μ σ H G Q Qn S h hd => hd [] μ [] H G (Gle.refl G) S Reps.nil Reps.nil h⟩
theorem dps_cons {k v : Expr} {ks : List (Option Expr)} {vs : List Expr} {tk tv : TE} {trs : List (TE × TE)} {Tk Tv : TDE} {Trs : List (TDE × TDE)} (hk : DE X B k tk Tk) (hv : DE X B v tv Tv) (hr : DPs X B pos ks vs trs Trs) : DPs X B pos (some k :: ks) (v :: vs) ((tk, tv) :: trs) ((Tk, Tv) :: Trs) :=
  ⟨pps_cons hk.pe hv.pe hr.pps, fun ρ μ σ H G Q Qn S h hd => hk.ref ρ μ σ H G _ _ S h fun x μ1 xv H1 G1 g1 S1 r1 q1 => hv.ref ρ μ1 σ H1 G1 _ _ S1 q1 fun y μ2 yv H2 G2 g2 S2 r2 q2 => hr.ref ρ μ2 σ H2 G2 _ _ S2 q2 fun ps μ3 ws H3 G3 g3 S3 r3 r4 q3 =>
    hd ((x, y) :: ps) μ3 ((xv, yv) :: ws) H3 G3 ((g1.trans g2).trans g3) S3 (Reps.cons (r1.mono (g2.trans g3)) r3) (Reps.cons (r2.mono g3) r4) q3⟩
@[simp] def keysD : List (D × D) → Option (List (Key × D))
  | [] => some []
  | (k, d) :: r => match keyD k, keysD r with
    | some k', some r' => some ((k', d) :: r')
    | _, _ => none
def mergeD (more : List (Key × D)) : List (Key × D) := more.foldl (fun acc kv => putD acc kv.1 kv.2) []
@[simp] def dDisp (c : Bool) (Trs : List (TDE × TDE)) : TDE := fun ρ μ Q => ∀ p, μ p = none → dPairs Trs ρ (mup μ p (.dic [])) fun ps μ2 => μ2 p = some (.dic []) ∧ ∃ kvs, keysD ps = some kvs ∧ kvs.length ≤ 15 ∧ (match c with
  | true => Q (.ptr p) (mup μ2 p (.dic (mergeD kvs)))
  | false => Q (.dic (mergeD kvs)) (mdel μ2 p))
theorem keys_go {K : PySem.W.Frag} {G : Gh} : ∀ {ps : List (D × D)} {kvs : List (Key × D)} {vs : List (V × V)}, keysD ps = some kvs → Reps K G (vs.map (·.1)) (ps.map (·.1)) → Reps K G (vs.map (·.2)) (ps.map (·.2)) → ∃ ws : List (Key × V), vs = ws.map (fun kv => (kV kv.1, kv.2)) ∧ FReps K G ws kvs
  | [], kvs, vs, h, r1, _ => by
    cases h
    have : vs = [] := by simpa using r1.nil_inv
    subst this
    exact ⟨[], rfl, FReps.nil⟩
  | (k, d) :: ps, kvs, vs, h, r1, r2 => by
    rw [keysD] at h
    cases q1 : keyD k with
    | none => simp [q1] at h
    | some k' =>
      cases q2 : keysD ps with
      | none => simp [q1, q2] at h
      | some r' =>
        simp [q1, q2] at h
        subst h
        cases vs with
        | nil => have := r1.1; simp at this
        | cons p vs =>
          obtain ⟨v1, w1, e1, a1, b1⟩ := r1.cons_inv
          obtain ⟨v2, w2, e2, a2, b2⟩ := r2.cons_inv
          simp at e1 e2
          obtain ⟨rfl, rfl⟩ := e1
          obtain ⟨rfl, rfl⟩ := e2
          obtain ⟨ws, e, rr⟩ := keys_go q2 b1 b2
          refine ⟨(k', p.2) :: ws, ?_, FReps.cons a2 rr⟩
          rw [List.map_cons, ← e, ← rep_key a1 q1]
theorem merge_go {K : PySem.W.Frag} {G : Gh} {ws : List (Key × V)} {kvs : List (Key × D)} (h : FReps K G ws kvs) : FReps K G (mergeK [] ws) (mergeD kvs) := by
  unfold mergeK mergeD
  have aux : ∀ (kvs : List (Key × D)) (ws : List (Key × V)) (a : List (Key × V)) (b : List (Key × D)), FReps K G ws kvs → FReps K G a b → FReps K G (ws.foldl (fun acc kv => putK acc kv.1 kv.2) a) (kvs.foldl (fun acc kv => putD acc kv.1 kv.2) b) := by
    intro kvs
    induction kvs with
    | nil => intro ws a b h h2; rw [h.nil_inv]; exact h2
    | cons p kvs ih =>
      intro ws a b h h2
      obtain ⟨k, d⟩ := p
      obtain ⟨v, r, rfl, x, y⟩ := h.cons_inv
      exact ih r _ _ y (h2.put k x)
  exact aux kvs ws [] [] h FReps.nil
theorem de_disp (c : Bool) {keys : List (Option Expr)} {values : List Expr} {trs : List (TE × TE)} {Trs : List (TDE × TDE)} (h : DPs X B pos keys values trs Trs) (hall : keys.all (·.isSome) = true := by rfl) (hl : keys.length = values.length := by rfl) (h0 : keys ≠ [] := by exact fun z => nomatch z)
    (h15 : keys.length ≤ 15 := by decide) : DE X B (.Dict keys values pos) (tDisp trs) (dDisp c Trs) :=
  ⟨pe_disp h.pps hall hl h0 h15, fun ρ μ σ H G Q Qn S q hd p n => by
    refine h.ref ρ _ σ _ G _ _ (S.cellNew n (show CellR X.K G (.dK []) (.dic []) from FReps.nil)) (q p (S.hold.free n).2.1) fun ps μ2 vs H2 G2 g2 S2 r1 r2 ⟨e, kvs, ek, l, q2⟩ => ?_
    obtain ⟨f1, o, y, z⟩ := S2.hold.cell p _ e
    obtain ⟨ws0, rfl, z2⟩ := cellR_dic z
    obtain rfl := z2.nil_inv
    obtain ⟨ws, rfl, rr⟩ := keys_go ek r1 r2
    refine ⟨y, ws, rfl, by rw [rr.len]; exact l, ?_⟩
    have rm := merge_go rr
    have S3 := S2.cellSet e (show CellR X.K G2 (.dK (mergeK [] ws)) (.dic (mergeD kvs)) from rm)
    cases c with
    | true => exact (hd.mono g2).now S3 (.ptr p) q2
    | false =>
      have e3 : (mup μ2 p (.dic (mergeD kvs))) p = some (.dic (mergeD kvs)) := mup_same
      have g : Gle G2 (G2.frz p (.dK (mergeK [] ws))) := Gle.frz f1
      have ed : mdel (mup μ2 p (.dic (mergeD kvs))) p = mdel μ2 p := by
        funext b; unfold mdel mup; split <;> simp_all
      have hf := S3.hold.freeze e3 upd_same
      rw [ed] at hf
      exact hd _ _ _ _ _ (g2.trans g) ⟨hf, S3.env.mono g⟩ (.dic (show upd G2.fr p _ p = _ from upd_same) rm.1 fun j v d x y => (rm.2.2 j v d x y).mono g) q2⟩

/-! ### for k in d: d a cell, locked while the loop runs -/
@[simp] def lockE (E : DEnds) (a : Addr) (kvs : List (Key × D)) (od : Obj) (vs : List (Key × V)) : DEnds :=
  { nx := fun ρ' μ' => μ' a = some (.dicL od vs kvs) ∧ E.nx ρ' (mup μ' a (.dic kvs)), rt := fun d μ' => μ' a = some (.dicL od vs kvs) ∧ E.rt d (mup μ' a (.dic kvs)), bk := fun ρ' μ' => μ' a = some (.dicL od vs kvs) ∧ E.bk ρ' (mup μ' a (.dic kvs)), ct := fun ρ' μ' => μ' a = some (.dicL od vs kvs) ∧ E.ct ρ' (mup μ' a (.dic kvs)) }
@[simp] def dLock (i : Nat) (T : TDS) : TDS := fun E ρ μ => match ρ[i]? with
  | some (some (.ptr a)) => match μ a with
    | some (.dic kvs) => ∀ od vs, T (lockE E a kvs od vs) ρ (mup μ a (.dicL od vs kvs))
    | _ => False
  | _ => False
theorem unlock_go {K : PySem.W.Frag} {G : Gh} {μ : Mu} {H : Hp} {a : Addr} {kvs : List (Key × D)} {od : Obj} {vs : List (Key × V)} (S : Hold K G μ H) (e : μ a = some (.dicL od vs kvs)) : H a = some (.frz od (.dK vs)) ∧ Hold K G (mup μ a (.dic kvs)) (upd H a (.dK vs)) := by
  obtain ⟨_, o, y, z⟩ := S.cell a _ e
  obtain ⟨rfl, z2⟩ := cellR_dicL z
  exact ⟨y, S.cellSet e (show CellR K G (.dK vs) (.dic kvs) from z2)⟩
theorem ds_lock (i : Nat) {st : Stmt} {t : TS} {T : TDS} (h : DS X B st t T) : DS X B st (tLock t) (dLock i T) := ⟨ps_lock h.ps, fun ρ μ σ H G E Dn S q hd => by
  unfold dLock at q
  split at q
  · next a e =>
    split at q
    · next kvs e2 =>
      obtain ⟨v, ev, rv⟩ := S.env.2 i _ e
      cases rv
      obtain ⟨_, o, y, z⟩ := S.hold.cell a _ e2
      obtain ⟨vs, rfl, z2⟩ := cellR_dic z
      refine ⟨a, _, y, trivial, fun od => ?_⟩
      refine h.ref ρ _ σ _ G _ _ (S.cellSet e2 (show CellR X.K G (.frz od (.dK vs)) (.dicL od vs kvs) from ⟨rfl, rfl, z2⟩)) (q od vs) ⟨?_, ?_, ?_, ?_⟩
      · rintro ρ' μ' σ' H' G' g S' ⟨e3, q'⟩
        obtain ⟨h1, h2⟩ := unlock_go S'.hold e3
        exact ⟨h1, hd.nx ρ' _ σ' _ G' g ⟨h2, S'.env⟩ q'⟩
      · rintro d μ' v H' G' g S' rv ⟨e3, q'⟩
        obtain ⟨h1, h2⟩ := unlock_go S' e3
        exact ⟨h1, hd.rt d _ v _ G' g h2 rv q'⟩
      · rintro ρ' μ' σ' H' G' g S' ⟨e3, q'⟩
        obtain ⟨h1, h2⟩ := unlock_go S'.hold e3
        exact ⟨h1, hd.bk ρ' _ σ' _ G' g ⟨h2, S'.env⟩ q'⟩
      · rintro ρ' μ' σ' H' G' g S' ⟨e3, q'⟩
        obtain ⟨h1, h2⟩ := unlock_go S'.hold e3
        exact ⟨h1, hd.ct ρ' _ σ' _ G' g ⟨h2, S'.env⟩ q'⟩
    · exact q.elim
  · exact q.elim⟩
/-! a walk that leans on the store: Kp holds at each turn -/
abbrev TDIK := DR → Mu → (List D → (Mu → Prop) → Mu → Prop) → Prop
def loopK (g : TDG) (T : TDS) (E : DEnds) (Kp : Mu → Prop) : List D → DR → Mu → Prop
  | [], ρ, μ => Kp μ ∧ E.nx ρ μ
  | x :: r, ρ, μ => Kp μ ∧ g x ρ μ fun ρ2 μ2 => T { E with nx := loopK g T E Kp r, ct := loopK g T E Kp r, bk := E.nx } ρ2 μ2
theorem loopK_kp {g : TDG} {T : TDS} {E : DEnds} {Kp : Mu → Prop} {xs : List D} {ρ : DR} {μ : Mu} (h : loopK g T E Kp xs ρ μ) : Kp μ := by
  cases xs with
  | nil => exact h.1
  | cons x r => exact h.1
@[simp] def dForK (I : TDIK) (g : TDG) (T : TDS) : TDS := fun E ρ μ => I ρ μ fun xs Kp μ1 => loopK g T E Kp xs ρ μ1
def RefIK (K : PySem.W.Frag) (B : Gh) (I : TDIK) (i : TI) : Prop := ∀ ρ μ σ H G (Q : List D → (Mu → Prop) → Mu → Prop) (R : It → Hp → Prop), Sat K B G ρ μ σ H → I ρ μ Q →
  (∀ xs Kp μ1 J H1 G1, Gle G G1 → Sat K B G1 ρ μ1 σ H1 → Q xs Kp μ1 →
    (∀ n H' G' μ', Gle G1 G' → Hold K G' μ' H' → Kp μ' → (n < xs.length → J.go n H') ∧ (xs.length ≤ n → J.stop n H')) →
    (∀ n x v H' H2 G' μ', Gle G1 G' → Hold K G' μ' H' → Kp μ' → xs[n]? = some x → J.yld n H' v H2 → ∃ G2, Gle G' G2 ∧ Hold K G2 μ' H2 ∧ Rep K G2 v x) → R J H1) → i σ H R
theorem ref_forK {K : PySem.W.Frag} {I : TDIK} {i : TI} {g : TDG} {gn : TG} {T : TDS} {t : TS} (hi : RefIK K B I i) (hg : RefG K B g gn) (ht : RefS K B T t) : RefS K B (dForK I g T) (tFor i gn t) := fun ρ μ σ H G E Dn S h hd => by
  refine hi ρ μ σ H G _ _ S h fun xs Kp μ1 J H1 G1 g1 S1 q1 hgo hy => ?_
  refine ⟨fun n m σ' H' => m = xs.length - n ∧ n ≤ xs.length ∧ ∃ G' ρ' μ', Gle G1 G' ∧ Sat K B G' ρ' μ' σ' H' ∧ loopK g T E Kp (xs.drop n) ρ' μ', ⟨xs.length, by simp, Nat.zero_le _, G1, ρ, μ1, Gle.refl _, S1, by simpa using q1⟩, ?_⟩
  rintro n m σ' H' ⟨rfl, hn, G', ρ', μ', g2, S2, q2⟩
  have kp := loopK_kp q2
  by_cases hlt : n < xs.length
  · refine .inr ⟨(hgo n H' G' μ' g2 S2.hold kp).1 hlt, fun σ3 H3 => ∃ G3 ρ3 μ3, Gle G1 G3 ∧ Sat K B G3 ρ3 μ3 σ3 H3 ∧ loopK g T E Kp (xs.drop (n + 1)) ρ3 μ3, ?_, ?_⟩
    · rintro σ3 H3 ⟨G3, ρ3, μ3, g3, S3, q3⟩
      exact ⟨xs.length - (n + 1), by omega, rfl, hlt, G3, ρ3, μ3, g3, S3, q3⟩
    · intro v H2 yv
      obtain ⟨G2, g3, h2, rv⟩ := hy n xs[n] v H' H2 G' μ' g2 S2.hold kp (List.getElem?_eq_getElem hlt) yv
      rw [List.drop_eq_getElem_cons hlt] at q2
      have S3 : Sat K B G2 ρ' μ' σ' H2 := ⟨h2, S2.env.mono g3⟩
      refine hg xs[n] v ρ' μ' σ' H2 G2 _ _ S3 rv q2.2 fun ρ4 μ4 σ4 H4 G4 g4 S4 q4 => ?_
      refine ht ρ4 μ4 σ4 H4 G4 _ _ S4 q4 ⟨?_, ?_, ?_, ?_⟩
      · exact fun ρ5 μ5 σ5 H5 G5 g5 S5 q5 => ⟨G5, ρ5, μ5, ((g2.trans g3).trans g4).trans g5, S5, q5⟩
      · exact fun d μ5 v5 H5 G5 g5 S5 r5 q5 => hd.rt d μ5 v5 H5 G5 ((((g1.trans g2).trans g3).trans g4).trans g5) S5 r5 q5
      · exact fun ρ5 μ5 σ5 H5 G5 g5 S5 q5 => hd.nx ρ5 μ5 σ5 H5 G5 ((((g1.trans g2).trans g3).trans g4).trans g5) S5 q5
      · exact fun ρ5 μ5 σ5 H5 G5 g5 S5 q5 => ⟨G5, ρ5, μ5, ((g2.trans g3).trans g4).trans g5, S5, q5⟩
  · have e : n = xs.length := by omega
    subst e
    rw [List.drop_length] at q2
    exact .inl ⟨(hgo _ H' G' μ' g2 S2.hold kp).2 (Nat.le_refl _), hd.nx ρ' μ' σ' H' G' (g1.trans g2) S2 q2.2⟩
structure DIK (X : Cx) (B : Gh) (tg e : Expr) (i : TI) (I : TDIK) : Prop where
  pi : PI X tg e i
  ref : RefIK X.K B I i
theorem ds_forK {tg iter : Expr} {body : List Stmt} {i : TI} {I : TDIK} {g : TG} {U : TDG} {t : TS} {T : TDS} (hp : PassesOwn (model X.prog X.w) X.A X.env X.xe) (hc : X.calm = true) (hi : DIK X B tg iter i I) (hg : DG X B tg g U) (hb : DSs X B body t T)
    (hs : ∀ x, foldedSetIterable iter X.env x = pure x := by intro _; rfl) : DS X B (.For tg iter body [] pos) (tFor i g t) (dForK I U T) := ⟨ps_for hp hc hi.pi hg.pg hb.pss hs, ref_forK hi.ref hg.ref hb.ref⟩
/-- the keys of a locked cell -/
@[simp] def iKey (T : TDE) : TDIK := fun ρ μ Q => T ρ μ fun d μ1 => match d with
  | .ptr a => match μ1 a with
    | some (.dicL od vs kvs) => Q (kvs.map fun kv => unkey kv.1) (fun μ' => μ' a = some (.dicL od vs kvs)) μ1
    | _ => False
  | _ => False
theorem di_key {tg e : Expr} {te : TE} {T : TDE} (h : DE X B e te T) : DIK X B tg e (iKeys te) (iKey T) := ⟨pi_keys h.pe, fun ρ μ σ H G Q R S q hd => h.ref ρ μ σ H G _ _ S q fun d μ1 v H1 G1 g1 S1 r1 q1 => by
  cases d with
  | ptr a =>
    cases r1
    have q2 : (match μ1 a with
      | some (.dicL od vs kvs) => Q (kvs.map fun kv => unkey kv.1) (fun μ' => μ' a = some (.dicL od vs kvs)) μ1
      | _ => False) := q1
    split at q2
    · next od vs kvs e =>
      have at' : ∀ {H' : Hp} {G' : Gh} {μ' : Mu}, Hold X.K G' μ' H' → μ' a = some (.dicL od vs kvs) → H' a = some (.frz od (.dK vs)) ∧ FReps X.K G' vs kvs := fun hh e => by
        obtain ⟨_, o, y, z⟩ := hh.cell a _ e
        obtain ⟨rfl, z2⟩ := cellR_dicL z
        exact ⟨y, z2⟩
      obtain ⟨h1, rr⟩ := at' S1.hold e
      refine ⟨a, od, rfl, .inl ⟨vs, h1, hd _ _ μ1 _ H1 G1 g1 S1 q2 (fun n H' G' μ' g h' kp => ⟨fun hn => ?_, fun hn => ?_⟩) fun n x w H' H2 G' μ' g h' kp ex y => ?_⟩⟩
      · exact ⟨(at' h' kp).1, by rw [rr.len]; simpa using hn⟩
      · exact ⟨(at' h' kp).1, by rw [rr.len]; simpa using hn⟩
      · obtain ⟨rfl, k, v, ek, rfl⟩ := y
        refine ⟨G', Gle.refl _, h', ?_⟩
        rw [List.getElem?_map] at ex
        have e3 : (vs.map (·.1))[n]? = some k := by rw [List.getElem?_map, ek]; rfl
        rw [rr.1, List.getElem?_map] at e3
        cases q : kvs[n]? with
        | none => rw [q] at e3; cases e3
        | some p =>
          rw [q] at e3 ex
          cases e3; cases ex
          exact rep_unkey _
    · exact q2.elim
  | _ => exact False.elim q1⟩
end
/-! join, insert -/
section
variable {X : Cx} {pos : Pos}
@[simp] def mJoin : RMD := fun x ds μ Q => match x, ds with
  | .str a, [d] => ∃ xs ss, vw μ d = .lst xs ∧ strsOf xs = some ss ∧ (ss.map (·.length)).sum + ss.length * a.length ≤ 16777216 ∧ Q (.str (Txt.join a ss)) μ
  | _, _ => False
theorem dm_join : MtR X "str.join" (fun x xs H Q => ∃ a p, ∃ ys : List Str, x = .str a ∧ xs = [.ref p] ∧ (SqL X.K H p (ys.map V.str) ∨ SqT X.K H p (ys.map V.str)) ∧
    (ys.map (·.length)).sum + ys.length * a.length ≤ 16777216 ∧ Q (.str (Txt.join a ys)) H) ∧ RefM X.K B "str" mJoin (fun x xs H Q => ∃ a p, ∃ ys : List Str, x = .str a ∧ xs = [.ref p] ∧ (SqL X.K H p (ys.map V.str) ∨ SqT X.K H p (ys.map V.str)) ∧
    (ys.map (·.length)).sum + ys.length * a.length ≤ 16777216 ∧ Q (.str (Txt.join a ys)) H) := by
  refine ⟨mt_join, ?_⟩
  intro ρ μ σ H G x dx vs ds Q Qn S r1 r2 h hd
  unfold mJoin at h
  split at h
  · next a d =>
    cases r1
    obtain ⟨v, rfl, rv⟩ := reps1 r2
    obtain ⟨xs, ss, e, es, l, q⟩ := h
    obtain ⟨p, ws, rfl, h1, rr⟩ := S.hold.lst rv e
    have e' := strsOf_eq es
    subst e'
    have ev := rr.strs
    subst ev
    exact ⟨a, p, ss, rfl, rfl, .inl (SqL.of h1), l, hd.now S (.str _) q⟩
  · exact h.elim
theorem dm_insert : MtR X "list.insert" (fun x vs H Q => ∃ (l : Addr) (xs : List V) (i : Int) (y : V), x = .ref l ∧ vs = [.int i, y] ∧ H l = some (.lst xs) ∧ xs.length < sizeLine ∧ 0 ≤ i ∧ i < 2 ^ 63 ∧
    Q .non (upd H l (.lst (xs.take i.toNat ++ [y] ++ xs.drop i.toNat)))) ∧ RefM X.K B "list" mInsert (fun x vs H Q => ∃ (l : Addr) (xs : List V) (i : Int) (y : V), x = .ref l ∧ vs = [.int i, y] ∧ H l = some (.lst xs) ∧ xs.length < sizeLine ∧ 0 ≤ i ∧ i < 2 ^ 63 ∧
    Q .non (upd H l (.lst (xs.take i.toNat ++ [y] ++ xs.drop i.toNat)))) := by
  refine ⟨mt_insert, ?_⟩
  intro ρ μ σ H G x dx vs ds Q Qn S r1 r2 h hd
  unfold mInsert at h
  split at h
  · next a i d =>
    cases r1
    obtain ⟨v, w, rfl, rv, rw'⟩ := reps2 r2
    cases rv
    obtain ⟨xs, e, l, b1, b2, q⟩ := h
    obtain ⟨ws, h1, rr⟩ := S.hold.lstAt e
    refine ⟨a, ws, i, w, rfl, rfl, h1, by rw [rr.1]; exact l, b1, b2, ?_⟩
    rw [List.append_assoc]
    exact hd.now (S.cellSet e (show CellR X.K G (.lst (ws.take i.toNat ++ ([w] ++ ws.drop i.toNat))) (.lst (xs.take i.toNat ++ d :: xs.drop i.toNat)) from (rr.take _).append (Reps.cons rw' (rr.drop _)))) .non q
  · exact h.elim

/-! truth of any value -/
theorem truV_go {K : PySem.W.Frag} {G : Gh} {μ : Mu} {H : Hp} {v : V} {d : D} {b : Bool} (S : Hold K G μ H) (r : Rep K G v d) (h : truD (vw μ d) = some b) : TruV K v H b := by
  cases e : vw μ d with
  | non => cases vw_non' e; cases r; rw [e] at h; cases h; rfl
  | bl c => cases vw_bl' e; cases r; rw [e] at h; cases h; rfl
  | int c => cases vw_int' e; cases r; rw [e] at h; cases h; rfl
  | str s =>
    cases vw_str' e; cases r; rw [e] at h
    simp only [truD] at h
    split at h
    · next l => cases h; exact ⟨l, rfl⟩
    · cases h
  | lst xs =>
    rw [e] at h; cases h
    obtain ⟨a, vs, rfl, h1, rr⟩ := S.lst r e
    refine .inl ⟨vs, SqL.of h1, ?_⟩
    cases vs with
    | nil => rw [rr.nil_inv']; rfl
    | cons v vs => obtain ⟨d, r, rfl, _⟩ := rr.cons_inv'; rfl
  | tup xs =>
    rw [e] at h; cases h
    obtain ⟨a, vs, rfl, h1, rr⟩ := S.tup r e
    refine .inr (.inl ⟨vs, h1, ?_⟩)
    cases vs with
    | nil => rw [rr.nil_inv']; rfl
    | cons v vs => obtain ⟨d, r, rfl, _⟩ := rr.cons_inv'; rfl
  | _ => rw [e] at h; cases h
theorem dt_tru {e : Expr} {te : TE} {T : TDE} (h : DE X B e te T) (he : ∀ whole, isTrue e X.env whole = (do let v ← whole; standAt e.pos; holding [v] (truthy v)) := by intro _; rfl) : DT X B e (fun σ H Q => te σ H fun x H' => ∃ k, TruV X.K x H' k ∧ Q k H') (dTru T) :=
  ⟨pt_truth h.pe he, fun ρ μ σ H G Q Qn S q hd => h.ref ρ μ σ H G _ _ S q fun d μ1 v H1 G1 g1 S1 r1 ⟨b, e1, q1⟩ => ⟨b, truV_go S1.hold r1 e1, hd b μ1 H1 G1 g1 S1 q1⟩⟩

/-! isinstance(x, T), T a built-in type -/
def tyNames : List String := ["NoneType", "bool", "int", "str", "list", "tuple", "dict"]
theorem kit_tbl : ∀ n ∈ tyNames, ∀ T ∈ tyNames, kitB n T = some (n == T || (n == "bool" && T == "int")) := by decide +kernel
/-- the answer -/
@[simp] def isiD (T : String) (d : D) : Option Bool := match d with
  | .non => some (decide ("NoneType" = T)) | .bl _ => some (decide ("bool" = T) || decide ("int" = T)) | .int _ => some (decide ("int" = T)) | .str _ => some (decide ("str" = T)) | .lst _ => some (decide ("list" = T)) | .tup _ => some (decide ("tuple" = T)) | .dic _ => some (decide ("dict" = T)) | _ => none
theorem isi_kit {T : String} {d : D} {b : Bool} (hT : T ∈ tyNames) (h : isiD T d = some b) : ∃ n, tyN d = some n ∧ kitB n T = some b := by
  cases d with
  | non => cases h; exact ⟨_, rfl, by rw [kit_tbl _ (by decide) T hT]; simp [BEq.beq]⟩
  | bl c => cases h; exact ⟨_, rfl, by rw [kit_tbl _ (by decide) T hT]; simp [Bool.beq_eq_decide_eq, eq_comm]⟩
  | int c => cases h; exact ⟨_, rfl, by rw [kit_tbl _ (by decide) T hT]; simp [BEq.beq]⟩
  | str c => cases h; exact ⟨_, rfl, by rw [kit_tbl _ (by decide) T hT]; simp [BEq.beq]⟩
  | lst c => cases h; exact ⟨_, rfl, by rw [kit_tbl _ (by decide) T hT]; simp [BEq.beq]⟩
  | tup c => cases h; exact ⟨_, rfl, by rw [kit_tbl _ (by decide) T hT]; simp [BEq.beq]⟩
  | dic c => cases h; exact ⟨_, rfl, by rw [kit_tbl _ (by decide) T hT]; simp [BEq.beq]⟩
  | _ => cases h
@[simp] def dIsi (T : String) (Tx : TDE) : TDE := fun ρ μ Q => Tx ρ μ fun d μ1 => ∃ b, isiD T (vw μ1 d) = some b ∧ Q (.bl b) μ1
theorem sqT_ty {K : PySem.W.Frag} {H : Hp} {a : Addr} {vs : List V} (h : SqT K H a vs) : TyX K H (.ref a) (.type "tuple") := by
  rcases h with (h | ⟨o, h⟩) | ⟨o, its, n, h1, h2, _⟩
  · exact .base (.tup h)
  · exact .fTuple h
  · exact .kTuple h1 h2
theorem ty_go {K : PySem.W.Frag} {G : Gh} {μ : Mu} {H : Hp} {v : V} {d : D} {n : String} (S : Hold K G μ H) (r : Rep K G v d) (h : tyN (vw μ d) = some n) : TyX K H v (.type n) := by
  cases e : vw μ d with
  | non => cases vw_non' e; cases r; rw [e] at h; cases h; exact .base .non
  | bl c => cases vw_bl' e; cases r; rw [e] at h; cases h; exact .base (.bl _)
  | int c => cases vw_int' e; cases r; rw [e] at h; cases h; exact .base (.int _)
  | str s => cases vw_str' e; cases r; rw [e] at h; cases h; exact .base (.str _)
  | lst xs =>
    rw [e] at h; cases h
    obtain ⟨a, vs, rfl, h1, rr⟩ := S.lst r e
    exact .base (.lst h1)
  | tup xs =>
    rw [e] at h; cases h
    obtain ⟨a, vs, rfl, h1, rr⟩ := S.tup r e
    exact sqT_ty h1
  | dic xs =>
    rw [e] at h; cases h
    obtain ⟨a, vs, rfl, h1, rr⟩ := S.dic r e
    rcases h1 with h1 | ⟨o, h1⟩
    · exact .base (.dK h1)
    · exact .fDict h1
  | _ => rw [e] at h; cases h
theorem de_isi (T : String) (hT : T ∈ tyNames) {x : Str} {e : Expr} {te : TE} {Tx : TDE} {p p2 : Pos} (he : DE X B e te Tx) (hm : X.mg "isinstance" = none) (hm2 : X.mg x = none) (hv2 : bootBuiltins x = some (.type T)) (hg : Gl X "isinstance" := by rfl) (hg2 : Gl X x := by rfl) (hn : x ≠ "__name__" := by decide) (hdb : (x == ("__debug__" : Str)) = false := by decide)
    (h1 : starEach [e, .Name x p2] X.env = (false, eval e X.env) :: starEach [.Name x p2] X.env := by rfl) (h1' : starEach [.Name x p2] X.env = (false, eval (.Name x p2) X.env) :: starEach [] X.env := by rfl) (h2 : (backTo pos (starEach [.Name x p2] X.env)).any (·.1) = false := by rfl) :
    DE X B (.Call (.Name "isinstance" p) [e, .Name x p2] [] pos) (tCB (rIsi X.K) (tCons te (tCons (tC (.ty T)) tNil))) (dIsi T Tx) :=
  ⟨pe_callB call_isi hg hm (by decide +kernel) (pa_cons he.pe (pa_cons (pe_bltn hg2 hm2 hv2 rfl hn hdb) pa_nil h1') h1) (by decide) (by decide) h1 h2, fun ρ μ σ H G Q Qn S h hd => he.ref ρ μ σ H G _ _ S h fun d μ1 v H1 G1 g1 S1 r1 ⟨b, e, q⟩ => by
    obtain ⟨n, e1, e2⟩ := isi_kit hT e
    exact ⟨v, .ty T, .type n, .type T, b, rfl, .ty T, ty_go S1.hold r1 e1, kit_ty e2, (hd.mono g1).now S1 (.bl b) q⟩⟩
/-- a dict of the module's own, keys and values texts -/
@[simp] def dKd (tbl : Str → Option Str) (Ti : TDE) : TDE := fun ρ μ Q => Ti ρ μ fun d μ1 => ∃ s v, d = .str s ∧ tbl s = some v ∧ Q (.str v) μ1
theorem de_kd (tbl : Str → Option Str) {x : Str} {p : Pos} {a : Addr} {i : Expr} {ti : TE} {Ti : TDE} (hm : X.mg x = some (.ref a)) (ht : ∀ s v, tbl s = some v → KDct X.K X.w a s (.str v)) (hi : DE X B i ti Ti) (hg : Gl X x := by rfl) (hs : PlainIx i := by exact fun _ _ => rfl) (hdb : (x == ("__debug__" : Str)) = false := by decide) :
    DE X B (.Subscript (.Name x p) i pos) (tOp (rIxD X.K X.w) (tC (.ref a)) ti) (dKd tbl Ti) :=
  ⟨pe_ix ix_kdict (pe_glob hg hm rfl hdb) hi.pe hs, fun ρ μ σ H G Q Qn S h hd => hi.ref ρ μ σ H G _ _ S h fun d μ1 v H1 G1 g1 S1 r1 ⟨s, v', e1, e2, q⟩ => by
    subst e1
    cases r1
    exact ⟨a, s, .str v', rfl, rfl, ht s v' e2, (hd.mono g1).now S1 (.str _) q⟩⟩
end
end DL

/-! DL7: defs by name. -/
namespace DL
open PySem PySem.Spec PyProof.Rows L2
structure DefAt (K : PySem.W.Frag) (mg : Str → Option Value) (x : Str) (st : Stmt) (ps : List Str) (f : Addr) (fd : FuncData) : Prop where
  F : Fun K x x st f fd
  m : mg x = some (.ref f)
  b : Binds K fd ps []
def Called (P : Program) (w : World) (K : PySem.W.Frag) (mg : Str → Option Value) (base : Heap) (k : Nat) (x : Str) (ps : List Str) (S : DSp) : Prop :=
  ∃ f fd, mg x = some (.ref f) ∧ PySem.W.keepIn K (.ref f) = true ∧ Binds K fd ps [] ∧ FnOk P w K mg base CX0 k f fd ps (toSp K S)
theorem DefAt.called {P : Program} {w : World} {K : PySem.W.Frag} {mg : Str → Option Value} {base : Heap} {k : Nat} {x : Str} {st : Stmt} {ps : List Str} {f : Addr} {fd : FuncData} {S : DSp} (D : DefAt K mg x st ps f fd) (F : FnOk P w K mg base CX0 k f fd ps (toSp K S)) : Called P w K mg base k x ps S := ⟨f, fd, D.m, D.F.kp, D.b, F⟩
theorem defAt_of {K : PySem.W.Frag} {h : Heap} {mg : Str → Option Value} {x : Str} {st : Stmt} {ps : List Str} {f : Addr} {oc : Value} {od an : Option Addr} {osl : Array (Option Value)} {kV doc pm cdv ct : Value} (X : K.In h) (G : h.Ns mainGlobals mg)
    (a : PySem.W.nsIn K mainGlobals x = some (some (.ref f))) (l : K.lookup f = some ⟨oc, od, .func (PySem.W.fnOf x x (defArgs st) (defBody st) (defScope st) .none kV doc pm an cdv ct), osl⟩) (c : PySem.W.codeIn K cdv x = true) (k : PySem.W.keepIn K (.ref f) = true)
    (hb : ∀ (kV doc pm : Value) (an : Option Addr) (cdv ct : Value) (us : List Value), us.length = ps.length → bindArgs (PySem.W.fnOf x x (defArgs st) (defBody st) (defScope st) .none kV doc pm an cdv ct) ⟨us, []⟩ = pure (ps.zip us)) :
    DefAt K mg x st ps f (PySem.W.fnOf x x (defArgs st) (defBody st) (defScope st) .none kV doc pm an cdv ct) :=
  ⟨fun_mk l c k, PySem.W.mg_of X G a, (fun_mk l c k).binds hb⟩
/-- a text constant of the module -/
def GlobS (s : Str) (x : Str) (mg : Str → Option Value) : Prop := ∃ t, mg x = some (.str s t)
/-- a tuple of texts of the module -/
def GlobT (K : PySem.W.Frag) (ss : List Str) (x : Str) (mg : Str → Option Value) : Prop := ∃ a, mg x = some (.ref a) ∧ ∀ G, Rep K G (.ref a) (.tup (ss.map .str))
/-- a dict of texts of the module -/
def GlobD (K : PySem.W.Frag) (w : World) (tbl : Str → Option Str) (x : Str) (mg : Str → Option Value) : Prop := ∃ a, mg x = some (.ref a) ∧ ∀ s v, tbl s = some v → KDct K w a s (.str v)
theorem called_recL {P : Program} {w : World} {K : PySem.W.Frag} {mg : Str → Option Value} {base : Heap} {j k : Nat} {x : Str} {ps : List Str} {S : DSp} (h : Called P w K mg base j x ps S) (l : j ≤ k) : Called P w K mg base k x ps S := by
  obtain ⟨f, fd, a, b, c, d⟩ := h
  exact ⟨f, fd, a, b, c, d.mono l⟩
end DL

/-! DL8: plain lemmas: texts, items, slices, sizes; loops by induction. -/
namespace DL
open PySem PySem.Spec PyProof.Rows L2
theorem szl : sizeLine = 16777216 := sizeLine_eq
theorem sz_le {n : Nat} (h : n ≤ 16000000) : n ≤ sizeLine := by rw [szl]; omega
theorem sz_lt {n : Nat} (h : n ≤ 16000000) : n < sizeLine := by rw [szl]; omega
@[simp] theorem loopL_nil {g : TDG} {T : TDS} {E : DEnds} {ρ : DR} {μ : Mu} : loopL g T E [] ρ μ = E.nx ρ μ := rfl
@[simp] theorem loopL_cons {g : TDG} {T : TDS} {E : DEnds} {x : D} {r : List D} {ρ : DR} {μ : Mu} : loopL g T E (x :: r) ρ μ = g x ρ μ fun ρ2 μ2 => T { E with nx := loopL g T E r, ct := loopL g T E r, bk := E.nx } ρ2 μ2 := rfl
@[simp] theorem loopK_nil {g : TDG} {T : TDS} {E : DEnds} {Kp : Mu → Prop} {ρ : DR} {μ : Mu} : loopK g T E Kp [] ρ μ = (Kp μ ∧ E.nx ρ μ) := rfl
@[simp] theorem loopK_cons {g : TDG} {T : TDS} {E : DEnds} {Kp : Mu → Prop} {x : D} {r : List D} {ρ : DR} {μ : Mu} : loopK g T E Kp (x :: r) ρ μ = (Kp μ ∧ g x ρ μ fun ρ2 μ2 => T { E with nx := loopK g T E Kp r, ct := loopK g T E Kp r, bk := E.nx } ρ2 μ2) := rfl
@[simp] theorem compL_nil {g : TDG} {tt : TDT} {te : TDE} {p : Addr} {ρ0 : DR} {Q : Mu → Prop} {μ : Mu} : compL g tt te p ρ0 Q [] μ = Q μ := rfl
@[simp] theorem compL_cons {g : TDG} {tt : TDT} {te : TDE} {p : Addr} {ρ0 : DR} {Q : Mu → Prop} {x : D} {r : List D} {μ : Mu} : compL g tt te p ρ0 Q (x :: r) μ = g x ρ0 μ fun ρ2 μ2 => tt ρ2 μ2 fun b μ3 => if b = true then te ρ2 μ3 fun d μ4 => ∃ acc, μ4 p = some (.lst acc) ∧ acc.length < sizeLine ∧ compL g tt te p ρ0 Q r (mup μ4 p (.lst (acc ++ [d]))) else compL g tt te p ρ0 Q r μ3 := rfl
/-- a loop by what holds ahead of the items that are left -/
theorem loop_ind {g : TDG} {T : TDS} {E : DEnds} (I : List D → DR → Mu → Prop) {xs : List D} {ρ : DR} {μ : Mu} (h : I xs ρ μ) (hn : ∀ ρ μ, I [] ρ μ → E.nx ρ μ)
    (hc : ∀ x r ρ μ (N : DR → Mu → Prop), I (x :: r) ρ μ → (∀ ρ' μ', I r ρ' μ' → N ρ' μ') → g x ρ μ fun ρ2 μ2 => T { E with nx := N, ct := N, bk := E.nx } ρ2 μ2) : loopL g T E xs ρ μ := by
  induction xs generalizing ρ μ with
  | nil => exact hn ρ μ h
  | cons x r ih => exact hc x r ρ μ _ h fun ρ' μ' h' => ih h'
theorem loopK_ind {g : TDG} {T : TDS} {E : DEnds} {Kp : Mu → Prop} (I : List D → DR → Mu → Prop) {xs : List D} {ρ : DR} {μ : Mu} (h : I xs ρ μ) (hk : ∀ r ρ μ, I r ρ μ → Kp μ) (hn : ∀ ρ μ, I [] ρ μ → E.nx ρ μ)
    (hc : ∀ x r ρ μ (N : DR → Mu → Prop), I (x :: r) ρ μ → (∀ ρ' μ', I r ρ' μ' → N ρ' μ') → g x ρ μ fun ρ2 μ2 => T { E with nx := N, ct := N, bk := E.nx } ρ2 μ2) : loopK g T E Kp xs ρ μ := by
  induction xs generalizing ρ μ with
  | nil => exact ⟨hk _ _ _ h, hn ρ μ h⟩
  | cons x r ih => exact ⟨hk _ _ _ h, hc x r ρ μ _ h fun ρ' μ' h' => ih h'⟩
/-- a comprehension by what holds of the items left, the list made, the store without it -/
theorem comp_ind {g : TDG} {tt : TDT} {te : TDE} {p : Addr} {ρ0 : DR} {Q : Mu → Prop} (I : List D → List D → Mu → Prop) {xs acc : List D} {μ : Mu} (hp : μ p = none) (h : I xs acc μ) (hl : acc.length + xs.length < sizeLine)
    (hn : ∀ acc μ, μ p = none → I [] acc μ → Q (mup μ p (.lst acc)))
    (hc : ∀ x r acc μ (N : Mu → Prop), μ p = none → I (x :: r) acc μ → (∀ μ', N μ' ↔ (∃ acc' μ'', μ' = mup μ'' p (.lst acc') ∧ μ'' p = none ∧ I r acc' μ'' ∧ acc'.length + r.length < sizeLine)) → acc.length < sizeLine → acc.length + 1 + r.length < sizeLine → g x ρ0 (mup μ p (.lst acc)) fun ρ2 μ2 => tt ρ2 μ2 fun b μ3 => if b = true then te ρ2 μ3 fun d μ4 => ∃ acc, μ4 p = some (.lst acc) ∧ acc.length < sizeLine ∧ N (mup μ4 p (.lst (acc ++ [d]))) else N μ3)
    (mono : ∀ x μ (N N' : Mu → Prop), (∀ μ, N μ → N' μ) → (g x ρ0 μ fun ρ2 μ2 => tt ρ2 μ2 fun b μ3 => if b = true then te ρ2 μ3 fun d μ4 => ∃ acc, μ4 p = some (.lst acc) ∧ acc.length < sizeLine ∧ N (mup μ4 p (.lst (acc ++ [d]))) else N μ3) → (g x ρ0 μ fun ρ2 μ2 => tt ρ2 μ2 fun b μ3 => if b = true then te ρ2 μ3 fun d μ4 => ∃ acc, μ4 p = some (.lst acc) ∧ acc.length < sizeLine ∧ N' (mup μ4 p (.lst (acc ++ [d]))) else N' μ3)) : compL g tt te p ρ0 Q xs (mup μ p (.lst acc)) := by
  induction xs generalizing acc μ with
  | nil => exact hn acc μ hp h
  | cons x r ih =>
    rw [List.length_cons] at hl
    rw [compL_cons]
    refine mono x _ _ _ ?_ (hc x r acc μ (fun μ' => ∃ acc' μ'', μ' = mup μ'' p (.lst acc') ∧ μ'' p = none ∧ I r acc' μ'' ∧ acc'.length + r.length < sizeLine) hp h (fun _ => Iff.rfl) (by omega) (by omega))
    rintro μ' ⟨acc', μ'', rfl, h1, h2, h3⟩
    exact ih h1 h2 h3
/-- .. the simple way: N is what is wanted behind the turn -/
theorem comp_ind' {g : TDG} {tt : TDT} {te : TDE} {p : Addr} {ρ0 : DR} {Q : Mu → Prop} (I : List D → List D → Mu → Prop) {xs acc : List D} {μ : Mu} (hp : μ p = none) (h : I xs acc μ) (hl : acc.length + xs.length < sizeLine)
    (hn : ∀ acc μ, μ p = none → I [] acc μ → Q (mup μ p (.lst acc)))
    (hc : ∀ x r acc μ (N : Mu → Prop), μ p = none → I (x :: r) acc μ → (∀ acc' μ'', μ'' p = none → I r acc' μ'' → acc'.length ≤ acc.length + 1 → N (mup μ'' p (.lst acc'))) → acc.length < sizeLine → g x ρ0 (mup μ p (.lst acc)) fun ρ2 μ2 => tt ρ2 μ2 fun b μ3 => if b = true then te ρ2 μ3 fun d μ4 => ∃ acc, μ4 p = some (.lst acc) ∧ acc.length < sizeLine ∧ N (mup μ4 p (.lst (acc ++ [d]))) else N μ3) : compL g tt te p ρ0 Q xs (mup μ p (.lst acc)) := by
  induction xs generalizing acc μ with
  | nil => exact hn acc μ hp h
  | cons x r ih =>
    rw [List.length_cons] at hl
    rw [compL_cons]
    exact hc x r acc μ (compL g tt te p ρ0 Q r) hp h (fun acc' μ'' h1 h2 h3 => ih h1 h2 (by omega)) (by omega)

/-! texts -/
theorem startswith_mk (a b : List Nat) : Txt.startswith (mk a) (mk b) = b.isPrefixOf a := by
  unfold Txt.startswith
  rw [PySem.StrLaws.subAt_eq]
  simp only [mk_length, mk_cps, List.drop_zero]
  rw [Bool.eq_iff_iff]
  simp only [Bool.and_eq_true, decide_eq_true_eq, beq_iff_eq, List.isPrefixOf_iff_prefix]
  constructor
  · rintro ⟨_, h⟩
    exact ⟨a.drop b.length, by rw [← h, List.length_take, Nat.min_eq_left (by omega)]; exact List.take_append_drop _ _⟩
  · rintro ⟨t, rfl⟩
    simp
theorem atI_nat' {α : Type} {xs : List α} {j : Nat} : atI xs (j : Int) = xs[j]? := by
  unfold atI ixN
  by_cases h : j < xs.length
  · have h1 : (0 : Int) ≤ (j : Int) := by omega
    have h2 : (j : Int) < (xs.length : Int) := by omega
    simp [h1, h2]
  · have h1 : (0 : Int) ≤ (j : Int) := by omega
    have h2 : ¬ (j : Int) < (xs.length : Int) := by omega
    simp [h1, h2]
    omega
theorem atI_0 {α : Type} {x : α} {xs : List α} : atI (x :: xs) 0 = some x := atI_nat (j := 0) rfl
theorem atI_lit {α : Type} {xs : List α} (j : Nat) {v : α} (h : xs[j]? = some v) : atI xs (OfNat.ofNat j : Int) = some v := atI_nat (j := j) h
theorem atI_m1 {α : Type} {xs : List α} (x : α) : atI (xs ++ [x]) (-1) = some x := atI_last xs x
theorem atI_int {α : Type} {xs : List α} {i : Int} (h0 : 0 ≤ i) : atI xs i = xs[i.toNat]? := by
  obtain ⟨j, rfl⟩ := Int.eq_ofNat_of_zero_le h0
  rw [atI_nat']; simp
theorem cutD_from {α : Type} (xs : List α) (k : Nat) : cutD xs (some (k : Int)) none = xs.drop k := by
  unfold cutD
  rw [HT.sIx_nat, HT.sIx_none]
  by_cases h : k ≤ xs.length
  · rw [Nat.min_eq_left h]
    exact List.take_of_length_le (by rw [List.length_drop]; omega)
  · have h' : xs.length ≤ k := by omega
    rw [Nat.min_eq_right h', List.drop_eq_nil_of_le (Nat.le_refl _), List.drop_eq_nil_of_le h']
    simp
theorem cutD_to {α : Type} (xs : List α) (k : Nat) : cutD xs none (some (k : Int)) = xs.take k := by
  unfold cutD
  rw [HT.sIx_nat, HT.sIx_none]
  simp only [List.drop_zero, Nat.sub_zero]
  by_cases h : k ≤ xs.length
  · rw [Nat.min_eq_left h]
  · rw [Nat.min_eq_right (by omega), List.take_of_length_le (Nat.le_refl _), List.take_of_length_le (by omega)]
theorem cutD_m1 {α : Type} (xs : List α) : cutD xs none (some (-1)) = xs.dropLast := by
  unfold cutD
  rw [HT.sIx_none]
  have e : HT.sIx xs.length xs.length (some (-1)) = xs.length - 1 := by
    unfold HT.sIx
    simp
    omega
  rw [e, List.drop_zero, List.dropLast_eq_take, Nat.sub_zero]
theorem cutD_len {α : Type} (xs : List α) (lo hi : Option Int) : (cutD xs lo hi).length ≤ xs.length := by
  unfold cutD; rw [List.length_take, List.length_drop]; omega
theorem ixN_m1 {n : Nat} (h : 0 < n) : ixN n (-1) = some (n - 1) := by
  unfold ixN
  rw [if_neg (by omega), if_pos (by omega)]
  congr 1; omega
theorem ixN_nat {n j : Nat} (h : j < n) : ixN n (j : Int) = some j := by
  unfold ixN
  rw [if_pos (by omega), if_pos (by omega)]; simp
theorem ixN_int {n : Nat} {i : Int} (h0 : 0 ≤ i) (h : i < n) : ixN n i = some i.toNat := by
  unfold ixN
  rw [if_pos h0, if_pos h]
@[simp] theorem atI_c0 {α : Type} {x : α} {r : List α} : atI (x :: r) 0 = some x := atI_nat (j := 0) rfl
@[simp] theorem atI_c1 {α : Type} {x y : α} {r : List α} : atI (x :: y :: r) 1 = some y := atI_nat (j := 1) rfl
@[simp] theorem atI_c2 {α : Type} {x y z : α} {r : List α} : atI (x :: y :: z :: r) 2 = some z := atI_nat (j := 2) rfl
@[simp] theorem atI_c3 {α : Type} {x y z u : α} {r : List α} : atI (x :: y :: z :: u :: r) 3 = some u := atI_nat (j := 3) rfl
@[simp] theorem atI_c4 {α : Type} {x y z u v : α} {r : List α} : atI (x :: y :: z :: u :: v :: r) 4 = some v := atI_nat (j := 4) rfl
@[simp] theorem atI_m1s {α : Type} {x : α} : atI [x] (-1) = some x := atI_last [] x
@[simp] theorem atI_m1a {α : Type} {x : α} {xs : List α} : atI (xs ++ [x]) (-1) = some x := atI_last xs x
end DL

/-! DL9: the source of draws, counters: cells made ghosts. -/
namespace DL
open PySem PySem.Spec PyProof.Rows L2
/-- what a source's cell holds: the list of its numbers at l -/
abbrev srcC (l : Addr) (p r c : Int) : Cell := .lst [.ptr l, .int p, .int r, .int c]
def sp_draw_p : DSp := fun ds μ Q _ => ∃ (a l : Addr) (ns : List Int) (p r c sz : Int), ds = [.ptr a, .int sz] ∧ a ≠ l ∧ μ a = some (srcC l p r c) ∧ μ l = some (.lst (ns.map .int)) ∧ 0 ≤ p ∧ 0 < sz ∧ sz < 1073741824 ∧
  ∀ n p' r' c', 0 ≤ n → n < sz → 0 ≤ p' → Q (.int n) (mup μ a (srcC l p' r' c'))
def sp_draw : DSp := fun ds μ Q _ => ∃ sz, ds = [.src, .int sz] ∧ 0 < sz ∧ sz < 1073741824 ∧ ∀ n, 0 ≤ n → n < sz → Q (.int n) μ
section
variable {K : PySem.W.Frag} {G : Gh} {μ : Mu} {H H' : Hp} {a l : Addr}
theorem cellR_src {G' : Gh} {o : HO} {p r c : Int} (h : CellR K G' o (srcC l p r c)) : o = .lst [.ref l, .int p, .int r, .int c] := by
  obtain ⟨vs, rfl, h⟩ := cellR_lst h
  obtain ⟨v1, w1, rfl, a1, h⟩ := h.cons_inv
  obtain ⟨v2, w2, rfl, a2, h⟩ := h.cons_inv
  obtain ⟨v3, w3, rfl, a3, h⟩ := h.cons_inv
  obtain ⟨v4, w4, rfl, a4, h⟩ := h.cons_inv
  rw [h.nil_inv, a2.ofInt, a3.ofInt, a4.ofInt]
  cases a1; rfl
/-- the source at a is written, nothing else -/
theorem Hold.srcSet (h : Hold K G μ H) (m : a ∈ G.src) {p r c : Int} {ns : List Int} (hl : G.fr l = some (.lst (ns.map V.int))) (h0 : 0 ≤ p) (k : ∀ b o, b ≠ a → H b = some o → H' b = some o) (e : H' a = some (.lst [.ref l, .int p, .int r, .int c])) : Hold K G μ H' := by
  obtain ⟨f1, f2, _⟩ := h.src a m
  refine ⟨fun b o q => k b o (ne_of_none q f1) (h.fr b o q), fun b c' q => ?_, fun b q => ?_, fun b q => ?_⟩
  · obtain ⟨x, o, y, z⟩ := h.cell b c' q
    have ne : b ≠ a := fun w => by rw [w, f2] at q; cases q
    exact ⟨x, o, k b o ne y, z⟩
  · obtain ⟨x, y, l', ns', p', r', c', z1, z2, z3⟩ := h.src b q
    by_cases w : b = a
    · subst w; exact ⟨x, y, l, ns, p, r, c, e, hl, h0⟩
    · exact ⟨x, y, l', ns', p', r', c', k b _ w z1, z2, z3⟩
  · obtain ⟨x, y, n, z, w⟩ := h.rooms b q
    exact ⟨x, y, n, z, k b _ (fun u => n (u ▸ m)) w⟩
/-- all but two objects frozen -/
def gBut (H : Hp) (a l : Addr) : Gh := ⟨fun b => if b = a ∨ b = l then none else H b, [], []⟩
def mTwo (a l : Addr) (c d : Cell) : Mu := fun b => if b = a then some c else if b = l then some d else none
theorem src_imp {vs : List V} {Q : VK} {E : XK} (h : toSp K sp_draw vs H Q E) : toSp K sp_draw_p vs H Q E := by
  obtain ⟨G, ds, μ, QQ, EE, hh, r, ⟨sz, rfl, s1, s2, q⟩, hq, _⟩ := h
  obtain ⟨v, w, rfl, rv, rw'⟩ := reps2 r
  rw [rw'.ofInt]
  cases rv with
  | src m =>
    rename_i a
    obtain ⟨f1, f2, l, ns, p, rr, c, h1, h2, h3⟩ := hh.src a m
    have hl := hh.fr _ _ h2
    have ne : a ≠ l := fun e => by rw [e, h2] at f1; cases f1
    refine ⟨gBut H a l, [.ptr a, .int sz], mTwo a l (srcC l p rr c) (.lst (ns.map .int)), fun d μ' => ∃ n p' r' c', d = .int n ∧ 0 ≤ n ∧ n < sz ∧ 0 ≤ p' ∧ μ' = mup (mTwo a l (srcC l p rr c) (.lst (ns.map .int))) a (srcC l p' r' c'), noX, ?_, Reps.cons (.ptr a) (Reps.cons (.int sz) Reps.nil), ?_, ?_, fun _ _ _ _ _ _ _ _ _ z => z.elim⟩
    · refine ⟨fun b o e => ?_, fun b c' e => ?_, (fun _ z => by cases z), (fun _ z => by cases z)⟩
      · unfold gBut at e
        simp only at e
        split at e
        · cases e
        · exact e
      · unfold mTwo at e
        split at e
        · next w =>
          subst w
          cases e
          have rs : Reps K (gBut H b l) [.ref l, .int p, .int rr, .int c] [.ptr l, .int p, .int rr, .int c] := Reps.cons (.ptr l) (Reps.cons (.int _) (Reps.cons (.int _) (Reps.cons (.int _) Reps.nil)))
          exact ⟨by simp [gBut], _, h1, rs⟩
        · split at e
          · next w =>
            subst w
            cases e
            have rs : Reps K (gBut H a b) (ns.map V.int) (ns.map .int) := Reps.ofInts ns
            exact ⟨by simp [gBut], _, hl, rs⟩
          · cases e
    · refine ⟨a, l, ns, p, rr, c, sz, rfl, ne, by simp [mTwo], by simp [mTwo, ne.symm], h3, s1, s2, fun n p' r' c' n0 n1 n2 => ⟨n, p', r', c', rfl, n0, n1, n2, rfl⟩⟩
    · rintro d μ' v H' G' g h' r' ⟨n, p', r2, c', rfl, n0, n1, n2, rfl⟩
      have ka : H' a = some (.lst [.ref l, .int p', .int r2, .int c']) := by
        obtain ⟨_, o, y, z⟩ := h'.cell a _ mup_same
        rw [cellR_src z] at y; exact y
      have kl : H' l = some (.lst (ns.map V.int)) := by
        obtain ⟨_, o, y, z⟩ := h'.cell l (.lst (ns.map .int)) (by rw [mup_ne ne.symm]; simp [mTwo, ne.symm])
        obtain ⟨vs, rfl, z2⟩ := cellR_lst z
        rw [z2.ints] at y; exact y
      refine hq (.int n) μ v H' G (Gle.refl G) (hh.srcSet m h2 n2 (fun b o nb e => ?_) ka) (by rw [r'.ofInt]; exact .int n) (q n n0 n1)
      by_cases w : b = l
      · subst w; rw [hl] at e; cases e; exact kl
      · exact h'.fr b o (g.fr b o (by simp [gBut, nb, w]; exact e))
/-- [list(script), 0, -1, 0], made a ghost -/
def sp_begin_p : DSp := fun ds μ Q _ => ∃ ns : List Int, (ds = [.scr ns] ∨ ds = [.lst (ns.map .int)]) ∧ ∀ a l, μ l = none → a ≠ l → μ a = none → Q (.ptr a) (mup (mup μ l (.lst (ns.map .int))) a (srcC l 0 (-1) 0))
def sp_begin : DSp := fun ds μ Q _ => ∃ ns : List Int, (ds = [.scr ns] ∨ ds = [.lst (ns.map .int)]) ∧ Q .src μ
theorem begin_imp {vs : List V} {Q : VK} {E : XK} (h : toSp K sp_begin vs H Q E) : toSp K sp_begin_p vs H Q E := by
  obtain ⟨G, ds, μ, QQ, EE, hh, r, ⟨ns, hd, q⟩, hq, _⟩ := h
  refine ⟨G, ds, μ, fun d μ' => ∃ a l, μ l = none ∧ a ≠ l ∧ μ a = none ∧ d = .ptr a ∧ μ' = mup (mup μ l (.lst (ns.map .int))) a (srcC l 0 (-1) 0), noX, hh, r, ⟨ns, hd, fun a l h1 h2 h3 => ⟨a, l, h1, h2, h3, rfl, rfl⟩⟩, ?_, fun _ _ _ _ _ _ _ _ _ z => z.elim⟩
  rintro d μ' v H' G' g h' r' ⟨a, l, h1, h2, h3, rfl, rfl⟩
  cases r'
  obtain ⟨_, o, ya, za⟩ := h'.cell a _ mup_same
  rw [cellR_src za] at ya
  have el : mup (mup μ l (.lst (ns.map .int))) a (srcC l 0 (-1) 0) l = some (.lst (ns.map .int)) := by rw [mup_ne h2.symm]; exact mup_same
  obtain ⟨fl, o2, yl, zl⟩ := h'.cell l _ el
  obtain ⟨vs2, rfl, z2⟩ := cellR_lst zl
  rw [z2.ints] at yl
  have h2' := h'.freeze el yl
  have em : mdel (mup (mup μ l (.lst (ns.map .int))) a (srcC l 0 (-1) 0)) l = mup μ a (srcC l 0 (-1) 0) := by
    funext b
    unfold mdel mup
    by_cases e : b = l
    · subst e; simp [h2.symm, h1]
    · simp [e]
  rw [em] at h2'
  have g2 : Gle G' (G'.frz l (.lst (ns.map V.int))) := Gle.frz fl
  have g3 : Gle (G'.frz l (.lst (ns.map V.int))) { G'.frz l (.lst (ns.map V.int)) with src := a :: (G'.frz l (.lst (ns.map V.int))).src } := ⟨Ext.refl _, fun b m => List.mem_cons_of_mem _ m, fun _ m => m⟩
  obtain ⟨fa, _⟩ := h2'.cell a _ mup_same
  refine hq .src μ (.ref a) H' _ (g.trans (g2.trans g3)) ⟨h2'.fr, fun b c' qb => ?_, fun b m => ?_, fun b m => ?_⟩ (.src List.mem_cons_self) q
  · have e : b ≠ a := fun e => by rw [e, h3] at qb; cases qb
    obtain ⟨x, o, y, z⟩ := h2'.cell b c' ((mup_ne e).trans qb)
    exact ⟨x, o, y, z.mono g3⟩
  · by_cases e : b = a
    · subst e
      exact ⟨fa, h3, l, ns, 0, -1, 0, ya, upd_same, by omega⟩
    · obtain ⟨x, y, z⟩ := h2'.src b ((List.mem_cons.mp m).resolve_left e)
      rw [mup_ne e] at y
      exact ⟨x, y, z⟩
  · obtain ⟨x, y, n, z, w⟩ := h2'.rooms b m
    have e : b ≠ a := fun e => by rw [e, mup_same] at y; cases y
    rw [mup_ne e] at y
    exact ⟨x, y, fun m2 => (List.mem_cons.mp m2).elim e n, z, w⟩
end
end DL

/-! DLA: readings over data, step by step (introduction rules). -/
namespace DL
open PySem PySem.Spec PyProof.Rows L2
section
variable {ρ : DR} {μ : Mu} {Q : QD} {E : DEnds} {T U : TDS} {Ta Tb Te : TDE} {TA : TDA} {c t u : TDT} {R : R2D} {d x y : D} {xs ys : List D} {i j : Int} {g : TDG} {Qb : Bool → Mu → Prop} {Ql : List D → Mu → Prop} {a : Addr}
theorem i_seq (h : T { E with nx := fun ρ' μ' => U E ρ' μ' } ρ μ) : dSeq T U E ρ μ := h
theorem i_next (h : E.nx ρ μ) : dNext E ρ μ := h
theorem i_asg (h : Te ρ μ fun d μ1 => g d ρ μ1 E.nx) : dAsg Te g E ρ μ := h
theorem i_ret (h : Te ρ μ E.rt) : dRet Te E ρ μ := h
theorem i_retN (h : E.rt .non μ) : dRetN E ρ μ := h
theorem i_drop (h : Te ρ μ fun _ μ1 => E.nx ρ μ1) : dDrop Te E ρ μ := h
theorem i_brk (h : E.bk ρ μ) : dBreak E ρ μ := h
theorem i_cont (h : E.ct ρ μ) : dCont E ρ μ := h
theorem i_ifS (h : c ρ μ fun b μ1 => if b = true then T E ρ μ1 else U E ρ μ1) : dIfS c T U E ρ μ := h
theorem i_aug {n : Nat} {z : D} (e : ρ[n]? = some (some z)) (h : Te ρ μ fun y μ1 => R z y μ1 fun w μ2 => E.nx (ρ.set n (some w)) μ2) : dAug n R Te E ρ μ := by
  unfold dAug; rw [e]; exact h
theorem i_frzS {n : Nat} (e : ρ[n]? = some (some (.ptr a))) (e2 : μ a = some (.lst xs)) (h : T E (ρ.set n (some (.lst xs))) (mdel μ a)) : dFrzS n T E ρ μ := by
  unfold dFrzS; rw [e]; simp only; rw [e2]; exact h
theorem i_for {I : TDI} (h : I ρ μ fun xs μ1 => loopL g T E xs ρ μ1) : dFor I g T E ρ μ := h
theorem i_forK {I : TDIK} (h : I ρ μ fun xs Kp μ1 => loopK g T E Kp xs ρ μ1) : dForK I g T E ρ μ := h
theorem i_iLst (h : Te ρ μ fun d μ1 => match d with | .lst xs => Ql xs μ1 | _ => False) : iLst Te ρ μ Ql := h
theorem i_mLst (h : Ql xs μ) : (match (D.lst xs) with | .lst xs => Ql xs μ | _ => False) := h
theorem i_iTup (h : Te ρ μ fun d μ1 => match d with | .tup xs => Ql xs μ1 | _ => False) : iTupD Te ρ μ Ql := h
theorem i_iScr (h : Te ρ μ fun d μ1 => match d with | .scr ns => Ql (ns.map .int) μ1 | _ => False) : iScr Te ρ μ Ql := h
theorem i_iTxt (h : Te ρ μ fun d μ1 => match d with | .str s => Ql (s.cps.toList.map fun c => .str (mk [c])) μ1 | _ => False) : iTxt Te ρ μ Ql := h
theorem i_dgName {n : Nat} {Qr : DR → Mu → Prop} (h : Qr (ρ.set n (some d)) μ) : dgName n d ρ μ Qr := h
theorem i_dgTup {n : Nat} {V : TDGs} {Qr : DR → Mu → Prop} (e : vw μ d = .tup xs) (l : xs.length = n) (h : V xs ρ μ Qr) : dgTup n V d ρ μ Qr := ⟨xs, e, l, h⟩
theorem i_dgCons {V : TDGs} {Qr : DR → Mu → Prop} (h : g d ρ μ fun ρ' μ' => V xs ρ' μ' Qr) : dgCons g V (d :: xs) ρ μ Qr := h
theorem i_dgNil {Qr : DR → Mu → Prop} (h : Qr ρ μ) : dgNil [] ρ μ Qr := ⟨rfl, h⟩
theorem i_dgSub {To Ti : TDE} {Qr : DR → Mu → Prop} (h : To ρ μ fun o μ1 => Ti ρ μ1 fun i μ2 => setD o i d μ2 fun μ3 => Qr ρ μ3) : dgSub To Ti d ρ μ Qr := h
theorem i_setD {n : Nat} {Qm : Mu → Prop} (e : μ a = some (.lst xs)) (l : ixN xs.length i = some n) (h : Qm (mup μ a (.lst (xs.set n d)))) : setD (.ptr a) (.int i) d μ Qm := ⟨xs, n, e, l, h⟩
theorem i_setDm {n : Nat} {Qm : Mu → Prop} (l : ixN xs.length i = some n) (h : Qm (mup μ a (.lst (xs.set n d)))) : setD (.ptr a) (.int i) d (mup μ a (.lst xs)) Qm := ⟨xs, n, mup_same, l, by rw [mup_mup]; exact h⟩
theorem i_appendm (l : xs.length ≤ 16000000) (h : Q .non (mup μ a (.lst (xs ++ [d])))) : mAppend (.ptr a) [d] (mup μ a (.lst xs)) Q := ⟨xs, mup_same, sz_lt l, by rw [mup_mup]; exact h⟩
theorem ixN_c0 {α : Type} {x : α} {r : List α} : ixN (x :: r).length 0 = some 0 := ixN_nat (j := 0) (by simp)
theorem ixN_c1 {α : Type} {x y : α} {r : List α} : ixN (x :: y :: r).length 1 = some 1 := ixN_nat (j := 1) (by simp)
theorem ixN_c2 {α : Type} {x y z : α} {r : List α} : ixN (x :: y :: z :: r).length 2 = some 2 := ixN_nat (j := 2) (by simp)
theorem ixN_c3 {α : Type} {x y z u : α} {r : List α} : ixN (x :: y :: z :: u :: r).length 3 = some 3 := ixN_nat (j := 3) (by simp)
-- expressions
theorem i_var {n : Nat} (e : ρ[n]? = some (some d)) (h : Q d μ) : dVar n ρ μ Q := by unfold dVar; rw [e]; exact h
theorem i_c (h : Q d μ) : dC d ρ μ Q := h
theorem i_op (h : Ta ρ μ fun x μ1 => Tb ρ μ1 fun y μ2 => R x y μ2 Q) : dOp R Ta Tb ρ μ Q := h
theorem i_B (h : Te ρ μ fun d μ1 => match d with | .bl b => Qb b μ1 | _ => False) : dB Te ρ μ Qb := h
theorem i_mB {b : Bool} (h : Qb b μ) : (match (D.bl b) with | .bl b => Qb b μ | _ => False) := h
theorem i_CB {S : RCD} (h : TA ρ μ fun ds μ1 => S ds μ1 Q) : dCB S TA ρ μ Q := h
theorem i_cons (h : Te ρ μ fun d μ1 => TA ρ μ1 fun ds μ2 => Ql (d :: ds) μ2) : dCons Te TA ρ μ Ql := h
theorem i_nil (h : Ql [] μ) : dNil ρ μ Ql := h
theorem i_lst {k : Bool} (h : TA ρ μ fun ds μ1 => ds.length ≤ sizeLine ∧ mkL k ds μ1 Q) : dLst k TA ρ μ Q := h
theorem i_tup (h : TA ρ μ fun ds μ1 => ds.length ≤ sizeLine ∧ Q (.tup ds) μ1) : dTup TA ρ μ Q := h
theorem i_few {k : Bool} (l : xs.length ≤ 1000) (h : mkL k xs μ Q) : xs.length ≤ sizeLine ∧ mkL k xs μ Q := ⟨sz_le (by omega), h⟩
theorem i_fewT (l : xs.length ≤ 1000) (h : Q (.tup xs) μ) : xs.length ≤ sizeLine ∧ Q (.tup xs) μ := ⟨sz_le (by omega), h⟩
theorem i_mkF (h : Q (.lst xs) μ) : mkL false xs μ Q := h
theorem i_mkT (h : ∀ a, μ a = none → Q (.ptr a) (mup μ a (.lst xs))) : mkL true xs μ Q := h
theorem i_sl {k : Bool} {Tl Th : TDO} (h : Te ρ μ fun x μ1 => Tl ρ μ1 fun l μ2 => Th ρ μ2 fun u μ3 => slW k x l u μ3 Q) : dSl k Te Tl Th ρ μ Q := h
theorem i_noPart {Qo : Option Int → Mu → Prop} (h : Qo none μ) : dNoPart ρ μ Qo := h
theorem i_part {Qo : Option Int → Mu → Prop} (h : Te ρ μ fun d μ1 => match d with | .int i => Qo (some i) μ1 | _ => False) : dPart Te ρ μ Qo := h
theorem i_mInt {Qi : Int → Mu → Prop} (h : Qi i μ) : (match (D.int i) with | .int i => Qi i μ | _ => False) := h
theorem i_slL {k : Bool} {lo hi : Option Int} (e : vw μ x = .lst xs) (h : mkL k (cutD xs lo hi) μ Q) : slW k x lo hi μ Q := by unfold slW; rw [e]; exact h
theorem i_slS {k : Bool} {lo hi : Option Int} {s : List Nat} (l : s.length ≤ 16000000) (h : Q (.str (mk (cutD s lo hi))) μ) : slW k (.str (mk s)) lo hi μ Q := by
  unfold slW; simp only [vw_str]; exact ⟨by rw [mk_length]; exact sz_le l, by rw [cutS_mk]; exact h⟩
theorem i_BM {Ty : String} {S : RMD} {To : TDE} (h : To ρ μ fun x μ1 => isTyD Ty (vw μ1 x) ∧ TA ρ μ1 fun ds μ2 => S x ds μ2 Q) : dBM Ty S To TA ρ μ Q := h
theorem i_and (h : t ρ μ fun c μ1 => if c = true then u ρ μ1 Qb else Qb false μ1) : dAnd t u ρ μ Qb := h
theorem i_or (h : t ρ μ fun c μ1 => if c = true then Qb true μ1 else u ρ μ1 Qb) : dOr t u ρ μ Qb := h
theorem i_not (h : t ρ μ fun c μ1 => Qb (!c) μ1) : dNot t ρ μ Qb := h
theorem i_andV (h : Ta ρ μ fun x μ1 => match x with | .bl c => if c = true then Tb ρ μ1 Q else Q (.bl false) μ1 | _ => False) : dAndV Ta Tb ρ μ Q := h
theorem i_orV (h : Ta ρ μ fun x μ1 => match x with | .bl c => if c = true then Q (.bl true) μ1 else Tb ρ μ1 Q | _ => False) : dOrV Ta Tb ρ μ Q := h
theorem i_notV (h : Ta ρ μ fun x μ1 => match x with | .bl c => Q (.bl (!c)) μ1 | _ => False) : dNotV Ta ρ μ Q := h
theorem i_if (h : t ρ μ fun c μ1 => if c = true then Ta ρ μ1 Q else Tb ρ μ1 Q) : dIf t Ta Tb ρ μ Q := h
theorem i_neg (h : Te ρ μ fun d μ1 => match d with | .int i => Q (.int (-i)) μ1 | _ => False) : dNeg Te ρ μ Q := h
theorem i_tru (h : Te ρ μ fun d μ1 => ∃ b, truD (vw μ1 d) = some b ∧ Qb b μ1) : dTru Te ρ μ Qb := h
theorem i_truB {b : Bool} (h : Qb b μ) : ∃ c, truD (vw μ (.bl b)) = some c ∧ Qb c μ := ⟨b, rfl, h⟩
theorem i_truL (e : vw μ x = .lst xs) (h : Qb (!xs.isEmpty) μ) : ∃ c, truD (vw μ x) = some c ∧ Qb c μ := ⟨_, by rw [e]; rfl, h⟩
theorem i_truI (h : Qb (i != 0) μ) : ∃ c, truD (vw μ (.int i)) = some c ∧ Qb c μ := ⟨_, rfl, h⟩
theorem i_truN (h : Qb false μ) : ∃ c, truD (vw μ .non) = some c ∧ Qb c μ := ⟨_, rfl, h⟩
theorem i_frz (h : Te ρ μ fun d μ1 => frz d μ1 Q) : dFrz Te ρ μ Q := h
theorem i_frzL (e : μ a = some (.lst xs)) (h : Q (.lst xs) (mdel μ a)) : frz (.ptr a) μ Q := by unfold frz; simp only; rw [e]; exact h
theorem i_lc {k : Bool} {I : TDI} {vs : List Nat} (h : I ρ μ fun xs μ1 => ∀ p, μ1 p = none → compL g t Te p (wipeD ρ vs) (fun μ2 => endL k p μ2 Q) xs (mup μ1 p (.lst []))) : dLc k I g t Te vs ρ μ Q := h
theorem i_call {S : DSp} (h : TA ρ μ fun ds μ1 => S ds μ1 Q noX) : dCall S TA ρ μ Q := h
theorem i_isi {Ty : String} {b : Bool} (h : Te ρ μ fun d μ1 => ∃ b, isiD Ty (vw μ1 d) = some b ∧ Q (.bl b) μ1) : dIsi Ty Te ρ μ Q := h
theorem i_kd {tbl : Str → Option Str} (h : Te ρ μ fun d μ1 => ∃ s v, d = .str s ∧ tbl s = some v ∧ Q (.str v) μ1) : dKd tbl Te ρ μ Q := h
theorem i_yes (h : Qb true μ) : dYes ρ μ Qb := h
-- operators on values
theorem i_addI (h : Q (.int (i + j)) μ) : opAdd (.int i) (.int j) μ Q := h
theorem i_addS {s r : List Nat} (l : s.length + r.length ≤ 16000000) (h : Q (.str (mk (s ++ r))) μ) : opAdd (.str (mk s)) (.str (mk r)) μ Q := by
  unfold opAdd; simp only [vw_str]; exact ⟨by rw [mk_length, mk_length]; exact sz_le l, by rw [mk_append]; exact h⟩
theorem i_addL (e1 : vw μ x = .lst xs) (e2 : vw μ y = .lst ys) (l : xs.length + ys.length ≤ 16000000) (h : Q (.lst (xs ++ ys)) μ) : opAdd x y μ Q := by
  unfold opAdd; rw [e1, e2]; exact ⟨sz_le l, h⟩
theorem i_z0 {f : Int → Int → D} (h : Q (f i j) μ) : opZ0 f (.int i) (.int j) μ Q := h
theorem i_z {C : Int → Int → Prop} {f : Int → Int → D} (hc : C i j) (h : Q (f i j) μ) : opZ C f (.int i) (.int j) μ Q := ⟨hc, h⟩
theorem i_eqI {n : Bool} (h : Q (.bl (n ^^ decide (i = j))) μ) : eqW n (.int i) (.int j) μ Q := h
theorem i_eqS {n : Bool} {s r : Str} (h : Q (.bl (n ^^ decide (s = r))) μ) : eqW n (.str s) (.str r) μ Q := h
theorem i_eqB {n : Bool} {s r : Bool} (h : Q (.bl (n ^^ decide (s = r))) μ) : eqW n (.bl s) (.bl r) μ Q := h
theorem i_isN {n : Bool} (h : Q (.bl (n ^^ isNonD d)) μ) : opIs n d .non μ Q := h
theorem i_ixL (e : vw μ x = .lst xs) (l : atI xs i = some d) (h : Q d μ) : opIx x (.int i) μ Q := by unfold opIx; rw [e]; exact ⟨d, l, h⟩
theorem i_ixT (e : vw μ x = .tup xs) (l : atI xs i = some d) (h : Q d μ) : opIx x (.int i) μ Q := by unfold opIx; rw [e]; exact ⟨d, l, h⟩
theorem i_ixS {s : List Nat} {n : Nat} (b : s.length ≤ 16000000) (l : atI s i = some n) (h : Q (.str (mk [n])) μ) : opIx (.str (mk s)) (.int i) μ Q := by
  unfold opIx; simp only [vw_str]; exact ⟨by rw [mk_length]; exact sz_le b, n, by rw [mk_cps]; exact l, h⟩
theorem i_lenL (e : vw μ x = .lst xs) (h : Q (.int xs.length) μ) : cLen [x] μ Q := by unfold cLen; simp only; rw [e]; exact h
theorem i_lenT (e : vw μ x = .tup xs) (h : Q (.int xs.length) μ) : cLen [x] μ Q := by unfold cLen; simp only; rw [e]; exact h
theorem i_lenS {s : List Nat} (b : s.length ≤ 16000000) (h : Q (.int s.length) μ) : cLen [.str (mk s)] μ Q := by
  unfold cLen; simp only [vw_str]; exact ⟨by rw [mk_length]; exact sz_le b, by rw [mk_length]; exact h⟩
theorem i_int (h : Q (.int i) μ) : cInt [.int i] μ Q := h
theorem i_listL {k : Bool} (e : vw μ x = .lst xs) (h : mkL k xs μ Q) : cList k [x] μ Q := by unfold cList; simp only; rw [e]; exact h
theorem i_listT {k : Bool} (e : vw μ x = .tup xs) (h : mkL k xs μ Q) : cList k [x] μ Q := by unfold cList; simp only; rw [e]; exact h
theorem i_append (e : μ a = some (.lst xs)) (l : xs.length ≤ 16000000) (h : Q .non (mup μ a (.lst (xs ++ [d])))) : mAppend (.ptr a) [d] μ Q := ⟨xs, e, sz_lt l, h⟩
theorem i_rng1 (h : TA ρ μ fun ds μ1 => match ds with | [.int j] => (-(2 ^ 62) ≤ j ∧ j < 2 ^ 62) ∧ Ql (rngD 0 j) μ1 | _ => False) : iRg1 TA ρ μ Ql := h
theorem i_rng2 (h : TA ρ μ fun ds μ1 => match ds with | [.int i, .int j] => (-(2 ^ 62) ≤ i ∧ i < 2 ^ 62 ∧ -(2 ^ 62) ≤ j ∧ j < 2 ^ 62) ∧ Ql (rngD i j) μ1 | _ => False) : iRg2 TA ρ μ Ql := h
theorem i_endF (e : μ a = some (.lst xs)) (h : Q (.lst xs) (mdel μ a)) : endL false a μ Q := ⟨xs, e, h⟩
theorem i_endT (h : Q (.ptr a) μ) : endL true a μ Q := h
theorem ite_b {b : Bool} {A B : Prop} (h1 : b = true → A) (h2 : b = false → B) : if b = true then A else B := by
  cases b with
  | true => exact h1 rfl
  | false => exact h2 rfl
theorem ite_d {p A B : Prop} [Decidable p] (h1 : p → A) (h2 : ¬ p → B) : if decide p = true then A else B := by
  by_cases h : p
  · rw [decide_eq_true h]; exact h1 h
  · rw [decide_eq_false h]; exact h2 h
theorem ite_nd {p A B : Prop} [Decidable p] (h1 : ¬ p → A) (h2 : p → B) : if (!decide p) = true then A else B := by
  by_cases h : p
  · rw [decide_eq_true h]; exact h2 h
  · rw [decide_eq_false h]; exact h1 h
theorem ite_xd {p A B : Prop} [Decidable p] (h1 : p → A) (h2 : ¬ p → B) : if (false ^^ decide p) = true then A else B := by
  rw [Bool.false_xor]; exact ite_d h1 h2
theorem ite_xn {p A B : Prop} [Decidable p] (h1 : ¬ p → A) (h2 : p → B) : if (true ^^ decide p) = true then A else B := by
  rw [Bool.true_xor]; exact ite_nd h1 h2
-- a whole expression at once
theorem v_asg {μ' : Mu} (h : ∀ Q : QD, Q d μ' → Te ρ μ Q) (k : g d ρ μ' E.nx) : dAsg Te g E ρ μ := h _ k
theorem v_ret {μ' : Mu} (h : ∀ Q : QD, Q d μ' → Te ρ μ Q) (k : E.rt d μ') : dRet Te E ρ μ := h _ k
theorem v_drop {μ' : Mu} (h : ∀ Q : QD, Q d μ' → Te ρ μ Q) (k : E.nx ρ μ') : dDrop Te E ρ μ := h _ k
theorem v_if {μ' : Mu} {b : Bool} (h : ∀ Q : Bool → Mu → Prop, Q b μ' → c ρ μ Q) (k : if b = true then T E ρ μ' else U E ρ μ') : dIfS c T U E ρ μ := h _ k
theorem v_for {μ' : Mu} {I : TDI} (h : ∀ Q : List D → Mu → Prop, Q xs μ' → I ρ μ Q) (k : loopL g T E xs ρ μ') : dFor I g T E ρ μ := h _ k
theorem v_sub {μ' μ2 : Mu} {To Ti : TDE} {o i' : D} {Qr : DR → Mu → Prop} (h1 : ∀ Q : QD, Q o μ' → To ρ μ Q) (h2 : ∀ Q : QD, Q i' μ2 → Ti ρ μ' Q) (k : setD o i' d μ2 fun μ3 => Qr ρ μ3) : dgSub To Ti d ρ μ Qr := h1 _ (h2 _ k)
theorem ite_Qb {p b : Bool} : (if p = true then Qb b μ else Qb false μ) = Qb (p && b) μ := by cases p <;> rfl
theorem ite_Qo {p b : Bool} : (if p = true then Qb true μ else Qb b μ) = Qb (p || b) μ := by cases p <;> rfl
theorem ite_Vb {p b : Bool} : (if p = true then Q (.bl b) μ else Q (.bl false) μ) = Q (.bl (p && b)) μ := by cases p <;> rfl
theorem ite_Vo {p b : Bool} : (if p = true then Q (.bl true) μ else Q (.bl b) μ) = Q (.bl (p || b)) μ := by cases p <;> rfl
end
end DL

/-! DLB: plain lemmas more. -/
namespace DL
open PySem PySem.Spec PyProof.Rows L2
@[simp] theorem rngD_len (lo hi : Int) : (rngD lo hi).length = (hi - lo).toNat := by simp [rngD]
theorem rngD_mem {lo hi : Int} {x : D} (h : x ∈ rngD lo hi) : ∃ i, x = .int i ∧ lo ≤ i ∧ i < hi := by
  unfold rngD at h
  obtain ⟨k, hk, rfl⟩ := List.mem_map.mp h
  rw [List.mem_range] at hk
  exact ⟨_, rfl, by omega, by omega⟩
@[simp] theorem rngD_02 : rngD 0 2 = [.int 0, .int 1] := rfl
@[simp] theorem rngD_03 : rngD 0 3 = [.int 0, .int 1, .int 2] := rfl
theorem ofString_nil : (Str.ofString "") = mk [] := rfl
theorem glue_nil : ∀ (ps : List (List Nat)) (acc : Array Nat), (ps.map mk).foldl (fun acc p => acc ++ (mk []).cps ++ p.cps) acc = acc ++ ps.flatten.toArray
  | [], acc => by simp
  | a :: r, acc => by
    simp only [List.map_cons, List.foldl_cons]
    rw [glue_nil r]
    simp
theorem joinE (ps : List (List Nat)) : Txt.join (mk []) (ps.map mk) = mk ps.flatten := by
  cases ps with
  | nil => rfl
  | cons a r =>
    show Builtin.Str.glued (mk []) (mk a :: r.map mk) = _
    unfold Builtin.Str.glued
    simp only [List.drop_succ_cons, List.drop_zero, List.headD_cons]
    rw [glue_nil r]
    simp [mk]
theorem sum_mk (ps : List (List Nat)) : ((ps.map mk).map (·.length)).sum = ps.flatten.length := by
  induction ps with
  | nil => rfl
  | cons a r ih => simp only [List.map_cons, List.sum_cons, ih, List.flatten_cons, List.length_append, mk_length]
theorem strsOf_mk (ps : List (List Nat)) : strsOf (ps.map fun p => D.str (mk p)) = some (ps.map mk) := by
  rw [show (ps.map fun p => D.str (mk p)) = (ps.map mk).map D.str by rw [List.map_map]; rfl]; exact strsOf_map _
theorem set_last {α : Type} (xs : List α) (x y : α) : (xs ++ [x]).set xs.length y = xs ++ [y] := by
  rw [List.set_append_right _ _ (Nat.le_refl _), Nat.sub_self]; rfl
theorem ixN_last {α : Type} (xs : List α) (x : α) : ixN (xs ++ [x]).length (-1) = some xs.length := by
  rw [ixN_m1 (by simp)]; simp
theorem cutD_map {α β : Type} (f : α → β) (xs : List α) (lo hi : Option Int) : cutD (xs.map f) lo hi = (cutD xs lo hi).map f := by
  unfold cutD; simp
theorem cutD_upto {α : Type} (xs : List α) {i : Int} (h : 0 ≤ i) : cutD xs none (some i) = xs.take i.toNat := by
  obtain ⟨j, rfl⟩ := Int.eq_ofNat_of_zero_le h; rw [cutD_to]; simp
theorem cutD_behind {α : Type} (xs : List α) {i : Int} (h : 0 ≤ i) : cutD xs (some i) none = xs.drop i.toNat := by
  obtain ⟨j, rfl⟩ := Int.eq_ofNat_of_zero_le h; rw [cutD_from]; simp

/-! comprehensions: what the turn reads told after the frame is known -/
section
variable {X : Cx} {pos : Pos}
abbrev Fam (α : Type) := Shared → Hp → Addr → List (Str × Addr) → List Addr → α
theorem de_lcA (c : Bool) {elt tg iter : Expr} {ifs : List Expr} {scope : Scope} {own : List (Str × Nat)} {wi : TI} {I : TDI} {g : TG} {U : TDG} {tt : TT} {tt' : Fam TT} {Tt : TDT} {te : TE} {te' : Fam TE} {Te : TDE} (hc : X.calm = true) (hN : X.N.Nodup) (hi : DI X B tg iter wi I) (ok : BlkOk X.N X.env.scope scope own)
    (hg : ∀ (s : Shared) (H : Hp) (C : Addr) (cl : List (Str × Addr)) (fp : List Addr), DG (X.blk s H scope (compEnvC scope cl C X.env) fp) B tg g U) (hk : KeepG g (own.map (·.2))) (ht : ∀ (s : Shared) (H : Hp) (C : Addr) (cl : List (Str × Addr)) (fp : List Addr), DTs (X.blk s H scope (compEnvC scope cl C X.env) fp) B ifs (tt' s H C cl fp) Tt)
    (he : ∀ (s : Shared) (H : Hp) (C : Addr) (cl : List (Str × Addr)) (fp : List Addr), DE (X.blk s H scope (compEnvC scope cl C X.env) fp) B elt (te' s H C cl fp) Te)
    (et : tt' = fun _ _ _ _ _ => tt := by (first | rfl | (simp only [Cx.blk]; rfl))) (ee : te' = fun _ _ _ _ _ => te := by (first | rfl | (simp only [Cx.blk]; rfl))) (hs : ∀ x, foldedSetIterable iter X.env x = pure x := by intro _; rfl) :
    DE X B (.ListComp elt [⟨tg, iter, ifs, 0⟩] scope pos) (tLc wi g tt te (own.map (·.2))) (dLc c I U Tt Te (own.map (·.2))) := by
  subst et; subst ee
  exact de_lc c hc hN hi ok hg hk ht he hs
theorem ds_setLcA (c : Bool) (i : Nat) {y : Str} {py : Pos} {elt tg iter : Expr} {ifs : List Expr} {scope : Scope} {own : List (Str × Nat)} {spos : Pos} {wi : TI} {I : TDI} {g : TG} {U : TDG} {tt : TT} {tt' : Fam TT} {Tt : TDT} {te : TE} {te' : Fam TE} {Te : TDE} (hc : X.calm = true) (hN : X.N.Nodup) (hy : X.N[i]? = some y) (hyl : X.env.scope.names.lookup y = some .local)
    (hsw : swapsWith (.ListComp elt [⟨tg, iter, ifs, 0⟩] scope pos) (some (.Name y py)) spos.line X.env = pure true) (hi : DI X B tg iter wi I) (ok : BlkOk X.N X.env.scope scope own)
    (hg : ∀ (s : Shared) (H : Hp) (C : Addr) (cl : List (Str × Addr)) (fp : List Addr), DG (X.blk s H scope (compEnvC scope cl C X.env) fp) B tg g U) (hk : KeepG g (own.map (·.2))) (ht : ∀ (s : Shared) (H : Hp) (C : Addr) (cl : List (Str × Addr)) (fp : List Addr), DTs (X.blk s H scope (compEnvC scope cl C X.env) fp) B ifs (tt' s H C cl fp) Tt)
    (he : ∀ (s : Shared) (H : Hp) (C : Addr) (cl : List (Str × Addr)) (fp : List Addr), DE (X.blk s H scope (compEnvC scope cl C X.env) fp) B elt (te' s H C cl fp) Te)
    (et : tt' = fun _ _ _ _ _ => tt := by (first | rfl | (simp only [Cx.blk]; rfl))) (ee : te' = fun _ _ _ _ _ => te := by (first | rfl | (simp only [Cx.blk]; rfl))) (hs : ∀ x, foldedSetIterable iter X.env x = pure x := by intro _; rfl) :
    DS X B (.Assign [.Name y py] (.ListComp elt [⟨tg, iter, ifs, 0⟩] scope pos) spos) (tAsg (tLc wi g tt te (own.map (·.2))) (gName i)) (dAsg (dLc c I U Tt Te (own.map (·.2))) (dgName i)) := by
  subst et; subst ee
  exact ds_setLc c i hc hN hy hyl hsw hi ok hg hk ht he hs
end
end DL

/-! DLC: readings unfold before their parts are looked at. -/
namespace DL
open PySem PySem.Spec PyProof.Rows L2
def oS {α : Type} (o : Option α) (P : α → Prop) : Prop := match o with | some d => P d | none => False
@[simp ↓] theorem oS_p {α : Type} {o : Option α} {P : α → Prop} : oS o P = (match o with | some d => P d | none => False) := id rfl
theorem oS_eq {α : Type} {o : Option α} {P : α → Prop} : oS o P = (∃ d, o = some d ∧ P d) := by cases o <;> simp [oS]
def lS (v : D) (P : List D → Prop) : Prop := match v with | .lst xs => P xs | _ => False
@[simp ↓] theorem lS_p {v : D} {P : List D → Prop} : lS v P = (match v with | .lst xs => P xs | _ => False) := id rfl
theorem lS_eq {v : D} {P : List D → Prop} : lS v P = (∃ xs, v = .lst xs ∧ P xs) := by cases v <;> simp [lS]
def tS (v : D) (P : List D → Prop) : Prop := match v with | .tup xs => P xs | _ => False
@[simp ↓] theorem tS_p {v : D} {P : List D → Prop} : tS v P = (match v with | .tup xs => P xs | _ => False) := id rfl
theorem tS_eq {v : D} {P : List D → Prop} : tS v P = (∃ xs, v = .tup xs ∧ P xs) := by cases v <;> simp [tS]
def dS (v : D) (P : List (Key × D) → Prop) : Prop := match v with | .dic xs => P xs | _ => False
@[simp ↓] theorem dS_p {v : D} {P : List (Key × D) → Prop} : dS v P = (match v with | .dic xs => P xs | _ => False) := id rfl
theorem dS_eq {v : D} {P : List (Key × D) → Prop} : dS v P = (∃ xs, v = .dic xs ∧ P xs) := by cases v <;> simp [dS]
def sS (v : D) (P : Str → Prop) : Prop := match v with | .str xs => P xs | _ => False
@[simp ↓] theorem sS_p {v : D} {P : Str → Prop} : sS v P = (match v with | .str xs => P xs | _ => False) := id rfl
theorem sS_eq {v : D} {P : Str → Prop} : sS v P = (∃ xs, v = .str xs ∧ P xs) := by cases v <;> simp [sS]
def pS (v : D) (P : Addr → Prop) : Prop := match v with | .ptr xs => P xs | _ => False
@[simp ↓] theorem pS_p {v : D} {P : Addr → Prop} : pS v P = (match v with | .ptr xs => P xs | _ => False) := id rfl
theorem pS_eq {v : D} {P : Addr → Prop} : pS v P = (∃ xs, v = .ptr xs ∧ P xs) := by cases v <;> simp [pS]
def cS (v : Option Cell) (P : List D → Prop) : Prop := match v with | some (.lst xs) => P xs | _ => False
@[simp ↓] theorem cS_p {v : Option Cell} {P : List D → Prop} : cS v P = (match v with | some (.lst xs) => P xs | _ => False) := id rfl
theorem cS_eq {v : Option Cell} {P : List D → Prop} : cS v P = (∃ xs, v = some (.lst xs) ∧ P xs) := by
  cases v with
  | none => simp [cS]
  | some c => cases c <;> simp [cS]
def cdS (v : Option Cell) (P : List (Key × D) → Prop) : Prop := match v with | some (.dic xs) => P xs | _ => False
@[simp ↓] theorem cdS_p {v : Option Cell} {P : List (Key × D) → Prop} : cdS v P = (match v with | some (.dic xs) => P xs | _ => False) := id rfl
theorem cdS_eq {v : Option Cell} {P : List (Key × D) → Prop} : cdS v P = (∃ xs, v = some (.dic xs) ∧ P xs) := by
  cases v with
  | none => simp [cdS]
  | some c => cases c <;> simp [cdS]
def oneC (s : Str) : Option Nat := match s.cps.toList with | [c] => some c | _ => none
@[simp] theorem oneC_mk (c : Nat) : oneC (mk [c]) = some c := id rfl
theorem oneC_eq {s : Str} {P : Nat → Prop} : oS (oneC s) P = (∃ c, s = mk [c] ∧ P c) := by
  rw [oS_eq]
  refine propext ⟨fun ⟨c, h, q⟩ => ⟨c, ?_, q⟩, fun ⟨c, h, q⟩ => ⟨c, by rw [h]; rfl, q⟩⟩
  unfold oneC at h
  split at h
  · next d e => cases h; rw [← DL.mk_of s, e]
  · cases h
@[simp ↓] theorem compL_cons_p {g : TDG} {tt : TDT} {te : TDE} {p : Addr} {ρ0 : DR} {Q : Mu → Prop} {x : D} {r : List D} {μ : Mu} : compL g tt te p ρ0 Q (x :: r) μ = (g x ρ0 μ fun ρ2 μ2 => tt ρ2 μ2 fun b μ3 => if b = true then te ρ2 μ3 fun d μ4 => cS (μ4 p) fun acc => acc.length < sizeLine ∧ compL g tt te p ρ0 Q r (mup μ4 p (.lst (acc ++ [d]))) else compL g tt te p ρ0 Q r μ3) := by
  simp only [cS_eq]; rfl
@[simp ↓] theorem compL_nil_p {g : TDG} {tt : TDT} {te : TDE} {p : Addr} {ρ0 : DR} {Q : Mu → Prop} {μ : Mu} : compL g tt te p ρ0 Q [] μ = Q μ := id rfl
@[simp ↓] theorem loopL_nil_p {g : TDG} {T : TDS} {E : DEnds} {ρ : DR} {μ : Mu} : loopL g T E [] ρ μ = E.nx ρ μ := id rfl
/-- the ends of a first statement, of a turn -/
def sqE (E : DEnds) (N : DR → Mu → Prop) : DEnds := { E with nx := N }
def lpE (E : DEnds) (N : DR → Mu → Prop) : DEnds := { E with nx := N, ct := N, bk := E.nx }
section
variable {E : DEnds} {N : DR → Mu → Prop} {ρ : DR} {μ : Mu} {d : D}
@[simp ↓] theorem sqE_nx : (sqE E N).nx ρ μ = N ρ μ := id rfl
@[simp ↓] theorem sqE_rt : (sqE E N).rt d μ = E.rt d μ := id rfl
@[simp ↓] theorem sqE_bk : (sqE E N).bk ρ μ = E.bk ρ μ := id rfl
@[simp ↓] theorem sqE_ct : (sqE E N).ct ρ μ = E.ct ρ μ := id rfl
@[simp ↓] theorem lpE_nx : (lpE E N).nx ρ μ = N ρ μ := id rfl
@[simp ↓] theorem lpE_rt : (lpE E N).rt d μ = E.rt d μ := id rfl
@[simp ↓] theorem lpE_bk : (lpE E N).bk ρ μ = E.nx ρ μ := id rfl
@[simp ↓] theorem lpE_ct : (lpE E N).ct ρ μ = N ρ μ := id rfl
@[simp ↓] theorem dSeq_p {T U : TDS} : dSeq T U E ρ μ = T (sqE E (U E)) ρ μ := id rfl
@[simp ↓] theorem dRet_p {T : TDE} : dRet T E ρ μ = T ρ μ fun d μ1 => E.rt d μ1 := id rfl
end
@[simp ↓] theorem loopL_cons_p {g : TDG} {T : TDS} {E : DEnds} {x : D} {r : List D} {ρ : DR} {μ : Mu} : loopL g T E (x :: r) ρ μ = g x ρ μ fun ρ2 μ2 => T (lpE E (loopL g T E r)) ρ2 μ2 := id rfl
@[simp ↓] theorem dVar_p {i : Nat} {ρ} {μ} {Q} : dVar i ρ μ Q = (match ρ[i]? with | some (some d) => Q d μ | _ => False) := id rfl
@[simp ↓] theorem dC_p {d : D} {z0} {μ} {Q} : dC d z0 μ Q = (Q d μ) := id rfl
@[simp ↓] theorem dNil_p {z0} {μ} {Q} : dNil  z0 μ Q = (Q [] μ) := id rfl
@[simp ↓] theorem dCons_p {Ta : TDE} {Tr : TDA} {ρ} {μ} {Q} : dCons Ta Tr ρ μ Q = (Ta ρ μ fun d μ1 => Tr ρ μ1 fun ds μ2 => Q (d :: ds) μ2) := id rfl
@[simp ↓] theorem dLst_p {c : Bool} {T : TDA} {ρ} {μ} {Q} : dLst c T ρ μ Q = (T ρ μ fun ds μ1 => ds.length ≤ sizeLine ∧ mkL c ds μ1 Q) := id rfl
@[simp ↓] theorem dTup_p {T : TDA} {ρ} {μ} {Q} : dTup T ρ μ Q = (T ρ μ fun ds μ1 => ds.length ≤ sizeLine ∧ Q (.tup ds) μ1) := id rfl
@[simp ↓] theorem dOp_p {R : R2D} {Ta Tb : TDE} {ρ} {μ} {Q} : dOp R Ta Tb ρ μ Q = (Ta ρ μ fun x μ1 => Tb ρ μ1 fun y μ2 => R x y μ2 Q) := id rfl
@[simp ↓] theorem dB_p {T : TDE} {ρ} {μ} {Q} : dB T ρ μ Q = (T ρ μ fun d μ1 => match d with | .bl b => Q b μ1 | _ => False) := id rfl
@[simp ↓] theorem opAdd_p {x} {y} {μ} {Q} : opAdd  x y μ Q = (match vw μ x, vw μ y with
  | .int i, .int j => Q (.int (i + j)) μ
  | .str s, .str t => s.length + t.length ≤ sizeLine ∧ Q (.str (s ++ t)) μ
  | .lst xs, .lst ys => xs.length + ys.length ≤ sizeLine ∧ Q (.lst (xs ++ ys)) μ
  | _, _ => False) := id rfl
@[simp ↓] theorem opAddC_p {x} {y} {μ} {Q} : opAddC  x y μ Q = (match vw μ x, vw μ y with
  | .lst xs, .lst ys => xs.length + ys.length ≤ sizeLine ∧ mkL true (xs ++ ys) μ Q
  | _, _ => False) := id rfl
@[simp ↓] theorem opZ_p {C : Int → Int → Prop} {g : Int → Int → D} {x} {y} {μ} {Q} : opZ C g x y μ Q = (match x, y with
  | .int i, .int j => C i j ∧ Q (g i j) μ
  | _, _ => False) := id rfl
@[simp ↓] theorem opZ0_p {g : Int → Int → D} {x} {y} {μ} {Q} : opZ0 g x y μ Q = (match x, y with
  | .int i, .int j => Q (g i j) μ
  | _, _ => False) := id rfl
@[simp ↓] theorem eqW_p {neg : Bool} {x} {y} {μ} {Q} : eqW neg x y μ Q = (match vw μ x, vw μ y with
  | .int i, .int j => Q (.bl (neg ^^ decide (i = j))) μ
  | .str i, .str j => Q (.bl (neg ^^ decide (i = j))) μ
  | .bl i, .bl j => Q (.bl (neg ^^ decide (i = j))) μ
  | .non, .non => Q (.bl (neg ^^ true)) μ
  | .non, .str _ => Q (.bl (neg ^^ false)) μ
  | .str _, .non => Q (.bl (neg ^^ false)) μ
  | .non, .int _ => Q (.bl (neg ^^ false)) μ
  | .int _, .non => Q (.bl (neg ^^ false)) μ
  | .lst xs, .lst ys => oS (pyL xs) fun ds => oS (pyL ys) fun es => SeqAt.shaped (.list ds) = true ∧ SeqAt.shaped (.list es) = true ∧ Q (.bl (neg ^^ PyData.eqvAll ds es)) μ
  | .tup xs, .tup ys => oS (pyL xs) fun ds => oS (pyL ys) fun es => SeqAt.shaped (.tuple ds) = true ∧ SeqAt.shaped (.tuple es) = true ∧ Q (.bl (neg ^^ PyData.eqvAll ds es)) μ
  | _, _ => False) := by
  first | (simp only [oS_eq, lS_eq, tS_eq, dS_eq, sS_eq, pS_eq, cS_eq, cdS_eq]; rfl) | (simp only [oS_eq, lS_eq, tS_eq, dS_eq, sS_eq, pS_eq, cS_eq, cdS_eq, oneC_eq, ← exists_and_left]; rfl)
@[simp ↓] theorem opIs_p {neg : Bool} {x} {y} {μ} {Q} : opIs neg x y μ Q = (match y with
  | .non => Q (.bl (neg ^^ isNonD x)) μ
  | _ => False) := id rfl
@[simp ↓] theorem inSeq_p {neg : Bool} {x : D} {xs : List D} {μ : Mu} {Q : QD} : inSeq neg x xs μ Q  = (match x with
  | .str s => oS (strsOf xs) fun ss => Q (.bl (neg ^^ decide (s ∈ ss))) μ
  | .int s => oS (intsOf xs) fun ss => Q (.bl (neg ^^ decide (s ∈ ss))) μ
  | _ => False) := by
  first | (simp only [oS_eq, lS_eq, tS_eq, dS_eq, sS_eq, pS_eq, cS_eq, cdS_eq]; rfl) | (simp only [oS_eq, lS_eq, tS_eq, dS_eq, sS_eq, pS_eq, cS_eq, cdS_eq, oneC_eq, ← exists_and_left]; rfl)
@[simp ↓] theorem inW_p {neg : Bool} {x} {y} {μ} {Q} : inW neg x y μ Q = (match vw μ y with
  | .lst xs => inSeq neg x xs μ Q
  | .tup xs => inSeq neg x xs μ Q
  | .str t => match x with
    | .str s => oS (oneC s) fun c => Q (.bl (neg ^^ decide (c ∈ t.cps.toList))) μ
    | _ => False
  | _ => False) := by
  simp only [oneC_eq]; rfl
@[simp ↓] theorem opIx_p {x} {y} {μ} {Q} : opIx  x y μ Q = (match vw μ x, y with
  | .lst xs, .int i => oS (atI xs i) fun d => Q d μ
  | .tup xs, .int i => oS (atI xs i) fun d => Q d μ
  | .str s, .int i => s.length ≤ sizeLine ∧ oS (atI s.cps.toList i) fun c => Q (.str (mk [c])) μ
  | _, _ => False) := by
  first | (simp only [oS_eq, lS_eq, tS_eq, dS_eq, sS_eq, pS_eq, cS_eq, cdS_eq]; rfl) | (simp only [oS_eq, lS_eq, tS_eq, dS_eq, sS_eq, pS_eq, cS_eq, cdS_eq, oneC_eq, ← exists_and_left]; rfl)
@[simp ↓] theorem dNoPart_p {z0} {μ} {Q} : dNoPart  z0 μ Q = (Q none μ) := id rfl
@[simp ↓] theorem dPart_p {T : TDE} {ρ} {μ} {Q} : dPart T ρ μ Q = (T ρ μ fun d μ1 => match d with | .int i => Q (some i) μ1 | _ => False) := id rfl
@[simp ↓] theorem slW_p {c : Bool} {x : D} {lo hi : Option Int} {μ : Mu} {Q : QD} : slW c x lo hi μ Q  = (match vw μ x with
  | .lst xs => mkL c (cutD xs lo hi) μ Q
  | .str s => s.length ≤ sizeLine ∧ Q (.str (cutS s lo hi)) μ
  | _ => False) := id rfl
@[simp ↓] theorem dSl_p {c : Bool} {T : TDE} {Tl Th : TDO} {ρ} {μ} {Q} : dSl c T Tl Th ρ μ Q = (T ρ μ fun x μ1 => Tl ρ μ1 fun l μ2 => Th ρ μ2 fun u μ3 => slW c x l u μ3 Q) := id rfl
@[simp ↓] theorem dCB_p {R : RCD} {T : TDA} {ρ} {μ} {Q} : dCB R T ρ μ Q = (T ρ μ fun ds μ1 => R ds μ1 Q) := id rfl
@[simp ↓] theorem cLen_p {ds} {μ} {Q} : cLen  ds μ Q = (match ds with
  | [x] => match vw μ x with
    | .lst xs => Q (.int xs.length) μ
    | .tup xs => Q (.int xs.length) μ
    | .str s => s.length ≤ sizeLine ∧ Q (.int s.length) μ
    | .scr ns => Q (.int ns.length) μ
    | _ => False
  | _ => False) := id rfl
@[simp ↓] theorem cList_p {c : Bool} {ds} {μ} {Q} : cList c ds μ Q = (match ds with
  | [x] => match vw μ x with
    | .lst xs => mkL c xs μ Q
    | .tup xs => mkL c xs μ Q
    | .scr ns => mkL c (ns.map .int) μ Q
    | _ => False
  | _ => False) := id rfl
@[simp ↓] theorem cInt_p {ds} {μ} {Q} : cInt  ds μ Q = (match ds with
  | [.int i] => Q (.int i) μ
  | [.bl b] => Q (.int (if b then 1 else 0)) μ
  | _ => False) := id rfl
@[simp ↓] theorem cMin2_p {ds} {μ} {Q} : cMin2  ds μ Q = (match ds with
  | [.int i, .int j] => Q (.int (if j < i then j else i)) μ
  | _ => False) := id rfl
@[simp ↓] theorem cMax2_p {ds} {μ} {Q} : cMax2  ds μ Q = (match ds with
  | [.int i, .int j] => Q (.int (if j > i then j else i)) μ
  | _ => False) := id rfl
@[simp ↓] theorem cAll_p {ds} {μ} {Q} : cAll  ds μ Q = (match ds with
  | [x] => lS (vw μ x) fun xs => oS (blsOf xs) fun bs => Q (.bl (bs.all id)) μ
  | _ => False) := by
  first | (simp only [oS_eq, lS_eq, tS_eq, dS_eq, sS_eq, pS_eq, cS_eq, cdS_eq]; rfl) | (simp only [oS_eq, lS_eq, tS_eq, dS_eq, sS_eq, pS_eq, cS_eq, cdS_eq, oneC_eq, ← exists_and_left]; rfl)
@[simp ↓] theorem cAny_p {ds} {μ} {Q} : cAny  ds μ Q = (match ds with
  | [x] => lS (vw μ x) fun xs => oS (blsOf xs) fun bs => Q (.bl (bs.any id)) μ
  | _ => False) := by
  first | (simp only [oS_eq, lS_eq, tS_eq, dS_eq, sS_eq, pS_eq, cS_eq, cdS_eq]; rfl) | (simp only [oS_eq, lS_eq, tS_eq, dS_eq, sS_eq, pS_eq, cS_eq, cdS_eq, oneC_eq, ← exists_and_left]; rfl)
@[simp ↓] theorem dBM_p {T : String} {R : RMD} {To : TDE} {Ta : TDA} {ρ} {μ} {Q} : dBM T R To Ta ρ μ Q = (To ρ μ fun x μ1 => isTyD T (vw μ1 x) ∧ Ta ρ μ1 fun ds μ2 => R x ds μ2 Q) := id rfl
@[simp ↓] theorem mAppend_p {x} {ds} {μ} {Q} : mAppend  x ds μ Q = (match x, ds with
  | .ptr a, [d] => cS (μ a) fun xs => xs.length < sizeLine ∧ Q .non (mup μ a (.lst (xs ++ [d])))
  | _, _ => False) := by
  first | (simp only [oS_eq, lS_eq, tS_eq, dS_eq, sS_eq, pS_eq, cS_eq, cdS_eq]; rfl) | (simp only [oS_eq, lS_eq, tS_eq, dS_eq, sS_eq, pS_eq, cS_eq, cdS_eq, oneC_eq, ← exists_and_left]; rfl)
@[simp ↓] theorem mPop_p {x} {ds} {μ} {Q} : mPop  x ds μ Q = (match x, ds with
  | .ptr a, [] => ∃ xs d, μ a = some (.lst (xs ++ [d])) ∧ Q d (mup μ a (.lst xs))
  | _, _ => False) := id rfl
@[simp ↓] theorem mInsert_p {x} {ds} {μ} {Q} : mInsert  x ds μ Q = (match x, ds with
  | .ptr a, [.int i, d] => cS (μ a) fun xs => xs.length < sizeLine ∧ 0 ≤ i ∧ i < 2 ^ 63 ∧ Q .non (mup μ a (.lst (xs.take i.toNat ++ d :: xs.drop i.toNat)))
  | _, _ => False) := by
  first | (simp only [oS_eq, lS_eq, tS_eq, dS_eq, sS_eq, pS_eq, cS_eq, cdS_eq]; rfl) | (simp only [oS_eq, lS_eq, tS_eq, dS_eq, sS_eq, pS_eq, cS_eq, cdS_eq, oneC_eq, ← exists_and_left]; rfl)
@[simp ↓] theorem mStarts_p {x} {ds} {μ} {Q} : mStarts  x ds μ Q = (match x, ds with
  | .str a, [.str b] => Q (.bl (Txt.startswith a b)) μ
  | _, _ => False) := id rfl
@[simp ↓] theorem mEnds_p {x} {ds} {μ} {Q} : mEnds  x ds μ Q = (match x, ds with
  | .str a, [.str b] => Q (.bl (Txt.endswith a b)) μ
  | _, _ => False) := id rfl
@[simp ↓] theorem mSplit_p {c : Bool} {x} {ds} {μ} {Q} : mSplit c x ds μ Q = (match x, ds with
  | .str a, [.str b] => (b.length == 0) = false ∧ a.length + 2 ≤ sizeLine ∧ mkL c ((Txt.split a b).map .str) μ Q
  | _, _ => False) := id rfl
@[simp ↓] theorem dAnd_p {t u : TDT} {ρ} {μ} {Q} : dAnd t u ρ μ Q = (t ρ μ fun c μ1 => if c = true then u ρ μ1 Q else Q false μ1) := id rfl
@[simp ↓] theorem dOr_p {t u : TDT} {ρ} {μ} {Q} : dOr t u ρ μ Q = (t ρ μ fun c μ1 => if c = true then Q true μ1 else u ρ μ1 Q) := id rfl
@[simp ↓] theorem dNot_p {t : TDT} {ρ} {μ} {Q} : dNot t ρ μ Q = (t ρ μ fun c μ1 => Q (!c) μ1) := id rfl
@[simp ↓] theorem dAndV_p {ta tb : TDE} {ρ} {μ} {Q} : dAndV ta tb ρ μ Q = (ta ρ μ fun x μ1 => match x with | .bl c => if c = true then tb ρ μ1 Q else Q (.bl false) μ1 | _ => False) := id rfl
@[simp ↓] theorem dOrV_p {ta tb : TDE} {ρ} {μ} {Q} : dOrV ta tb ρ μ Q = (ta ρ μ fun x μ1 => match x with | .bl c => if c = true then Q (.bl true) μ1 else tb ρ μ1 Q | _ => False) := id rfl
@[simp ↓] theorem dNotV_p {ta : TDE} {ρ} {μ} {Q} : dNotV ta ρ μ Q = (ta ρ μ fun x μ1 => match x with | .bl c => Q (.bl (!c)) μ1 | _ => False) := id rfl
@[simp ↓] theorem dIf_p {t : TDT} {ta tb : TDE} {ρ} {μ} {Q} : dIf t ta tb ρ μ Q = (t ρ μ fun c μ1 => if c = true then ta ρ μ1 Q else tb ρ μ1 Q) := id rfl
@[simp ↓] theorem dNeg_p {T : TDE} {ρ} {μ} {Q} : dNeg T ρ μ Q = (T ρ μ fun d μ1 => match d with | .int i => Q (.int (-i)) μ1 | _ => False) := id rfl
@[simp ↓] theorem dTru_p {T : TDE} {ρ} {μ} {Q} : dTru T ρ μ Q = (T ρ μ fun d μ1 => oS (truD (vw μ1 d)) fun b => Q b μ1) := by
  first | (simp only [oS_eq, lS_eq, tS_eq, dS_eq, sS_eq, pS_eq, cS_eq, cdS_eq]; rfl) | (simp only [oS_eq, lS_eq, tS_eq, dS_eq, sS_eq, pS_eq, cS_eq, cdS_eq, oneC_eq, ← exists_and_left]; rfl)
@[simp ↓] theorem dgName_p {i : Nat} {d} {ρ} {μ} {Q} : dgName i d ρ μ Q = (Q (ρ.set i (some d)) μ) := id rfl
@[simp ↓] theorem dgNil_p {ds} {ρ} {μ} {Q} : dgNil  ds ρ μ Q = (ds = [] ∧ Q ρ μ) := id rfl
@[simp ↓] theorem dgCons_p {T : TDG} {U : TDGs} {ds} {ρ} {μ} {Q} : dgCons T U ds ρ μ Q = (match ds with
  | d :: r => T d ρ μ fun ρ' μ' => U r ρ' μ' Q
  | [] => False) := id rfl
@[simp ↓] theorem dgTup_p {n : Nat} {U : TDGs} {d} {ρ} {μ} {Q} : dgTup n U d ρ μ Q = (tS (vw μ d) fun xs => xs.length = n ∧ U xs ρ μ Q) := by
  first | (simp only [oS_eq, lS_eq, tS_eq, dS_eq, sS_eq, pS_eq, cS_eq, cdS_eq]; rfl) | (simp only [oS_eq, lS_eq, tS_eq, dS_eq, sS_eq, pS_eq, cS_eq, cdS_eq, oneC_eq, ← exists_and_left]; rfl)
@[simp ↓] theorem setD_p {o i d : D} {μ : Mu} {Q : Mu → Prop} : setD o i d μ Q  = (match o, i with
  | .ptr a, .int k => cS (μ a) fun xs => oS (ixN xs.length k) fun j => Q (mup μ a (.lst (xs.set j d)))
  | _, _ => False) := by
  first | (simp only [oS_eq, lS_eq, tS_eq, dS_eq, sS_eq, pS_eq, cS_eq, cdS_eq]; rfl) | (simp only [oS_eq, lS_eq, tS_eq, dS_eq, sS_eq, pS_eq, cS_eq, cdS_eq, oneC_eq, ← exists_and_left]; rfl)
@[simp ↓] theorem dgSub_p {To Ti : TDE} {d} {ρ} {μ} {Q} : dgSub To Ti d ρ μ Q = (To ρ μ fun o μ1 => Ti ρ μ1 fun i μ2 => setD o i d μ2 fun μ3 => Q ρ μ3) := id rfl
@[simp ↓] theorem dNext_p {E} {ρ} {μ} : dNext  E ρ μ = (E.nx ρ μ) := id rfl
@[simp ↓] theorem dBreak_p {E} {ρ} {μ} : dBreak  E ρ μ = (E.bk ρ μ) := id rfl
@[simp ↓] theorem dCont_p {E} {ρ} {μ} : dCont  E ρ μ = (E.ct ρ μ) := id rfl
@[simp ↓] theorem dDrop_p {T : TDE} {E} {ρ} {μ} : dDrop T E ρ μ = (T ρ μ fun _ μ1 => E.nx ρ μ1) := id rfl
@[simp ↓] theorem dRetN_p {E} {z1} {μ} : dRetN  E z1 μ = (E.rt .non μ) := id rfl
@[simp ↓] theorem dIfS_p {c : TDT} {T U : TDS} {E} {ρ} {μ} : dIfS c T U E ρ μ = (c ρ μ fun b μ1 => if b = true then T E ρ μ1 else U E ρ μ1) := id rfl
@[simp ↓] theorem dAsg_p {T : TDE} {g : TDG} {E} {ρ} {μ} : dAsg T g E ρ μ = (T ρ μ fun d μ1 => g d ρ μ1 E.nx) := id rfl
@[simp ↓] theorem dAug_p {i : Nat} {R : R2D} {T : TDE} {E} {ρ} {μ} : dAug i R T E ρ μ = (match ρ[i]? with
  | some (some x) => T ρ μ fun y μ1 => R x y μ1 fun z μ2 => E.nx (ρ.set i (some z)) μ2
  | _ => False) := id rfl
@[simp ↓] theorem dFrzS_p {i : Nat} {T : TDS} {E} {ρ} {μ} : dFrzS i T E ρ μ = (match ρ[i]? with
  | some (some (.ptr a)) => match μ a with
    | some (.lst xs) => T E (ρ.set i (some (.lst xs))) (mdel μ a)
    | _ => False
  | _ => False) := id rfl
@[simp ↓] theorem frz_p {d : D} {μ : Mu} {Q : QD} : frz d μ Q  = (match d with
  | .ptr a => match μ a with
    | some (.lst xs) => Q (.lst xs) (mdel μ a)
    | some (.dic xs) => Q (.dic xs) (mdel μ a)
    | some (.ins C fs) => Q (.obj C fs) (mdel μ a)
    | _ => False
  | d => Q d μ) := id rfl
@[simp ↓] theorem dFrz_p {T : TDE} {ρ} {μ} {Q} : dFrz T ρ μ Q = (T ρ μ fun d μ1 => frz d μ1 Q) := id rfl
@[simp ↓] theorem dFor_p {I : TDI} {g : TDG} {T : TDS} {E} {ρ} {μ} : dFor I g T E ρ μ = (I ρ μ fun xs μ1 => loopL g T E xs ρ μ1) := id rfl
@[simp ↓] theorem iLst_p {T : TDE} {ρ} {μ} {Q} : iLst T ρ μ Q = (T ρ μ fun d μ1 => match d with | .lst xs => Q xs μ1 | _ => False) := id rfl
@[simp ↓] theorem iTupD_p {T : TDE} {ρ} {μ} {Q} : iTupD T ρ μ Q = (T ρ μ fun d μ1 => match d with | .tup xs => Q xs μ1 | _ => False) := id rfl
@[simp ↓] theorem iScr_p {T : TDE} {ρ} {μ} {Q} : iScr T ρ μ Q = (T ρ μ fun d μ1 => match d with | .scr ns => Q (ns.map .int) μ1 | _ => False) := id rfl
@[simp ↓] theorem iRg1_p {T : TDA} {ρ} {μ} {Q} : iRg1 T ρ μ Q = (T ρ μ fun ds μ1 => match ds with | [.int j] => (-(2 ^ 62) ≤ j ∧ j < 2 ^ 62) ∧ Q (rngD 0 j) μ1 | _ => False) := id rfl
@[simp ↓] theorem iRg2_p {T : TDA} {ρ} {μ} {Q} : iRg2 T ρ μ Q = (T ρ μ fun ds μ1 => match ds with | [.int i, .int j] => (-(2 ^ 62) ≤ i ∧ i < 2 ^ 62 ∧ -(2 ^ 62) ≤ j ∧ j < 2 ^ 62) ∧ Q (rngD i j) μ1 | _ => False) := id rfl
@[simp ↓] theorem iTxt_p {T : TDE} {ρ} {μ} {Q} : iTxt T ρ μ Q = (T ρ μ fun d μ1 => match d with | .str s => Q (s.cps.toList.map fun c => .str (mk [c])) μ1 | _ => False) := id rfl
@[simp ↓] theorem endL_p {c : Bool} {p : Addr} {μ : Mu} {Q : QD} : endL c p μ Q  = (match c with
  | true => Q (.ptr p) μ
  | false => cS (μ p) fun acc => Q (.lst acc) (mdel μ p)) := by
  first | (simp only [oS_eq, lS_eq, tS_eq, dS_eq, sS_eq, pS_eq, cS_eq, cdS_eq]; rfl) | (simp only [oS_eq, lS_eq, tS_eq, dS_eq, sS_eq, pS_eq, cS_eq, cdS_eq, oneC_eq, ← exists_and_left]; rfl)
@[simp ↓] theorem dLc_p {c : Bool} {I : TDI} {g : TDG} {tt : TDT} {te : TDE} {vs : List Nat} {ρ} {μ} {Q} : dLc c I g tt te vs ρ μ Q = (I ρ μ fun xs μ1 => ∀ p, μ1 p = none → compL g tt te p (wipeD ρ vs) (fun μ2 => endL c p μ2 Q) xs (mup μ1 p (.lst []))) := id rfl
@[simp ↓] theorem dYes_p {z0} {μ} {Q} : dYes  z0 μ Q = (Q true μ) := id rfl
@[simp ↓] theorem dCall_p {S : DSp} {T : TDA} {ρ} {μ} {Q} : dCall S T ρ μ Q = (T ρ μ fun ds μ1 => S ds μ1 Q noX) := id rfl
@[simp ↓] theorem dDGet_p {Td Tk : TDE} {ρ} {μ} {Q} : dDGet Td Tk ρ μ Q = (Td ρ μ fun x μ1 => Tk ρ μ1 fun y μ2 => dS (vw μ2 x) fun kvs => oS (keyD y) fun k => oS (valD kvs k) fun d => Q d μ2) := by
  first | (simp only [oS_eq, lS_eq, tS_eq, dS_eq, sS_eq, pS_eq, cS_eq, cdS_eq]; rfl) | (simp only [oS_eq, lS_eq, tS_eq, dS_eq, sS_eq, pS_eq, cS_eq, cdS_eq, oneC_eq, ← exists_and_left]; rfl)
@[simp ↓] theorem dDIn_p {neg : Bool} {Tk Td : TDE} {ρ} {μ} {Q} : dDIn neg Tk Td ρ μ Q = (Tk ρ μ fun y μ1 => Td ρ μ1 fun x μ2 => dS (vw μ2 x) fun kvs => oS (keyD y) fun k => Q (.bl (neg ^^ (valD kvs k).isSome)) μ2) := by
  first | (simp only [oS_eq, lS_eq, tS_eq, dS_eq, sS_eq, pS_eq, cS_eq, cdS_eq]; rfl) | (simp only [oS_eq, lS_eq, tS_eq, dS_eq, sS_eq, pS_eq, cS_eq, cdS_eq, oneC_eq, ← exists_and_left]; rfl)
@[simp ↓] theorem dsDPut_p {Td Tk Tv : TDE} {E} {ρ} {μ} : dsDPut Td Tk Tv E ρ μ = (Tv ρ μ fun v μ1 => Td ρ μ1 fun x μ2 => Tk ρ μ2 fun y μ3 => pS x fun a => cdS (μ3 a) fun kvs => oS (keyD y) fun k => kvs.length < sizeLine ∧ E.nx ρ (mup μ3 a (.dic (putD kvs k v)))) := by
  first | (simp only [oS_eq, lS_eq, tS_eq, dS_eq, sS_eq, pS_eq, cS_eq, cdS_eq]; rfl) | (simp only [oS_eq, lS_eq, tS_eq, dS_eq, sS_eq, pS_eq, cS_eq, cdS_eq, oneC_eq, ← exists_and_left]; rfl)
@[simp ↓] theorem dDNew_p {c : Bool} {z0} {μ} {Q} : dDNew c z0 μ Q = (mkDc c [] μ Q) := id rfl
@[simp ↓] theorem dDisp_p {c : Bool} {Trs : List (TDE × TDE)} {ρ} {μ} {Q} : dDisp c Trs ρ μ Q = (∀ p, μ p = none → dPairs Trs ρ (mup μ p (.dic [])) fun ps μ2 => μ2 p = some (.dic []) ∧ oS (keysD ps) fun kvs => kvs.length ≤ 15 ∧ (match c with
  | true => Q (.ptr p) (mup μ2 p (.dic (mergeD kvs)))
  | false => Q (.dic (mergeD kvs)) (mdel μ2 p))) := by
  first | (simp only [oS_eq, lS_eq, tS_eq, dS_eq, sS_eq, pS_eq, cS_eq, cdS_eq]; rfl) | (simp only [oS_eq, lS_eq, tS_eq, dS_eq, sS_eq, pS_eq, cS_eq, cdS_eq, oneC_eq, ← exists_and_left]; rfl)
@[simp ↓] theorem dLock_p {i : Nat} {T : TDS} {E} {ρ} {μ} : dLock i T E ρ μ = (match ρ[i]? with
  | some (some (.ptr a)) => match μ a with
    | some (.dic kvs) => ∀ od vs, T (lockE E a kvs od vs) ρ (mup μ a (.dicL od vs kvs))
    | _ => False
  | _ => False) := id rfl
@[simp ↓] theorem dForK_p {I : TDIK} {g : TDG} {T : TDS} {E} {ρ} {μ} : dForK I g T E ρ μ = (I ρ μ fun xs Kp μ1 => loopK g T E Kp xs ρ μ1) := id rfl
@[simp ↓] theorem iKey_p {T : TDE} {ρ} {μ} {Q} : iKey T ρ μ Q = (T ρ μ fun d μ1 => match d with
  | .ptr a => match μ1 a with
    | some (.dicL od vs kvs) => Q (kvs.map fun kv => unkey kv.1) (fun μ' => μ' a = some (.dicL od vs kvs)) μ1
    | _ => False
  | _ => False) := id rfl
@[simp ↓] theorem mJoin_p {x} {ds} {μ} {Q} : mJoin  x ds μ Q = (match x, ds with
  | .str a, [d] => lS (vw μ d) fun xs => oS (strsOf xs) fun ss => (ss.map (·.length)).sum + ss.length * a.length ≤ 16777216 ∧ Q (.str (Txt.join a ss)) μ
  | _, _ => False) := by
  first | (simp only [oS_eq, lS_eq, tS_eq, dS_eq, sS_eq, pS_eq, cS_eq, cdS_eq]; rfl) | (simp only [oS_eq, lS_eq, tS_eq, dS_eq, sS_eq, pS_eq, cS_eq, cdS_eq, oneC_eq, ← exists_and_left]; rfl)
@[simp ↓] theorem dIsi_p {T : String} {Tx : TDE} {ρ} {μ} {Q} : dIsi T Tx ρ μ Q = (Tx ρ μ fun d μ1 => oS (isiD T (vw μ1 d)) fun b => Q (.bl b) μ1) := by
  first | (simp only [oS_eq, lS_eq, tS_eq, dS_eq, sS_eq, pS_eq, cS_eq, cdS_eq]; rfl) | (simp only [oS_eq, lS_eq, tS_eq, dS_eq, sS_eq, pS_eq, cS_eq, cdS_eq, oneC_eq, ← exists_and_left]; rfl)
@[simp ↓] theorem dKd_p {tbl : Str → Option Str} {Ti : TDE} {ρ} {μ} {Q} : dKd tbl Ti ρ μ Q = (Ti ρ μ fun d μ1 => sS d fun s => oS (tbl s) fun v => Q (.str v) μ1) := by
  first | (simp only [oS_eq, lS_eq, tS_eq, dS_eq, sS_eq, pS_eq, cS_eq, cdS_eq]; rfl) | (simp only [oS_eq, lS_eq, tS_eq, dS_eq, sS_eq, pS_eq, cS_eq, cdS_eq, oneC_eq, ← exists_and_left]; rfl)
@[simp ↓ high] theorem dVar_0 {d : D} {r : DR} {μ : Mu} {Q : QD} : dVar 0 (some d :: r) μ Q = Q d μ := id rfl
@[simp ↓ high] theorem dgName_0 {z : Option D} {d : D} {r : DR} {μ : Mu} {Q : DR → Mu → Prop} : dgName 0 d (z :: r) μ Q = Q (some d :: r) μ := id rfl
@[simp ↓ high] theorem dVar_1 {x0 : Option D} {d : D} {r : DR} {μ : Mu} {Q : QD} : dVar 1 (x0 :: some d :: r) μ Q = Q d μ := id rfl
@[simp ↓ high] theorem dgName_1 {x0 : Option D} {z : Option D} {d : D} {r : DR} {μ : Mu} {Q : DR → Mu → Prop} : dgName 1 d (x0 :: z :: r) μ Q = Q (x0 :: some d :: r) μ := id rfl
@[simp ↓ high] theorem dVar_2 {x0 x1 : Option D} {d : D} {r : DR} {μ : Mu} {Q : QD} : dVar 2 (x0 :: x1 :: some d :: r) μ Q = Q d μ := id rfl
@[simp ↓ high] theorem dgName_2 {x0 x1 : Option D} {z : Option D} {d : D} {r : DR} {μ : Mu} {Q : DR → Mu → Prop} : dgName 2 d (x0 :: x1 :: z :: r) μ Q = Q (x0 :: x1 :: some d :: r) μ := id rfl
@[simp ↓ high] theorem dVar_3 {x0 x1 x2 : Option D} {d : D} {r : DR} {μ : Mu} {Q : QD} : dVar 3 (x0 :: x1 :: x2 :: some d :: r) μ Q = Q d μ := id rfl
@[simp ↓ high] theorem dgName_3 {x0 x1 x2 : Option D} {z : Option D} {d : D} {r : DR} {μ : Mu} {Q : DR → Mu → Prop} : dgName 3 d (x0 :: x1 :: x2 :: z :: r) μ Q = Q (x0 :: x1 :: x2 :: some d :: r) μ := id rfl
@[simp ↓ high] theorem dVar_4 {x0 x1 x2 x3 : Option D} {d : D} {r : DR} {μ : Mu} {Q : QD} : dVar 4 (x0 :: x1 :: x2 :: x3 :: some d :: r) μ Q = Q d μ := id rfl
@[simp ↓ high] theorem dgName_4 {x0 x1 x2 x3 : Option D} {z : Option D} {d : D} {r : DR} {μ : Mu} {Q : DR → Mu → Prop} : dgName 4 d (x0 :: x1 :: x2 :: x3 :: z :: r) μ Q = Q (x0 :: x1 :: x2 :: x3 :: some d :: r) μ := id rfl
@[simp ↓ high] theorem dVar_5 {x0 x1 x2 x3 x4 : Option D} {d : D} {r : DR} {μ : Mu} {Q : QD} : dVar 5 (x0 :: x1 :: x2 :: x3 :: x4 :: some d :: r) μ Q = Q d μ := id rfl
@[simp ↓ high] theorem dgName_5 {x0 x1 x2 x3 x4 : Option D} {z : Option D} {d : D} {r : DR} {μ : Mu} {Q : DR → Mu → Prop} : dgName 5 d (x0 :: x1 :: x2 :: x3 :: x4 :: z :: r) μ Q = Q (x0 :: x1 :: x2 :: x3 :: x4 :: some d :: r) μ := id rfl
@[simp ↓ high] theorem dVar_6 {x0 x1 x2 x3 x4 x5 : Option D} {d : D} {r : DR} {μ : Mu} {Q : QD} : dVar 6 (x0 :: x1 :: x2 :: x3 :: x4 :: x5 :: some d :: r) μ Q = Q d μ := id rfl
@[simp ↓ high] theorem dgName_6 {x0 x1 x2 x3 x4 x5 : Option D} {z : Option D} {d : D} {r : DR} {μ : Mu} {Q : DR → Mu → Prop} : dgName 6 d (x0 :: x1 :: x2 :: x3 :: x4 :: x5 :: z :: r) μ Q = Q (x0 :: x1 :: x2 :: x3 :: x4 :: x5 :: some d :: r) μ := id rfl
@[simp ↓ high] theorem dVar_7 {x0 x1 x2 x3 x4 x5 x6 : Option D} {d : D} {r : DR} {μ : Mu} {Q : QD} : dVar 7 (x0 :: x1 :: x2 :: x3 :: x4 :: x5 :: x6 :: some d :: r) μ Q = Q d μ := id rfl
@[simp ↓ high] theorem dgName_7 {x0 x1 x2 x3 x4 x5 x6 : Option D} {z : Option D} {d : D} {r : DR} {μ : Mu} {Q : DR → Mu → Prop} : dgName 7 d (x0 :: x1 :: x2 :: x3 :: x4 :: x5 :: x6 :: z :: r) μ Q = Q (x0 :: x1 :: x2 :: x3 :: x4 :: x5 :: x6 :: some d :: r) μ := id rfl
@[simp ↓ high] theorem dVar_8 {x0 x1 x2 x3 x4 x5 x6 x7 : Option D} {d : D} {r : DR} {μ : Mu} {Q : QD} : dVar 8 (x0 :: x1 :: x2 :: x3 :: x4 :: x5 :: x6 :: x7 :: some d :: r) μ Q = Q d μ := id rfl
@[simp ↓ high] theorem dgName_8 {x0 x1 x2 x3 x4 x5 x6 x7 : Option D} {z : Option D} {d : D} {r : DR} {μ : Mu} {Q : DR → Mu → Prop} : dgName 8 d (x0 :: x1 :: x2 :: x3 :: x4 :: x5 :: x6 :: x7 :: z :: r) μ Q = Q (x0 :: x1 :: x2 :: x3 :: x4 :: x5 :: x6 :: x7 :: some d :: r) μ := id rfl
@[simp ↓ high] theorem dVar_9 {x0 x1 x2 x3 x4 x5 x6 x7 x8 : Option D} {d : D} {r : DR} {μ : Mu} {Q : QD} : dVar 9 (x0 :: x1 :: x2 :: x3 :: x4 :: x5 :: x6 :: x7 :: x8 :: some d :: r) μ Q = Q d μ := id rfl
@[simp ↓ high] theorem dgName_9 {x0 x1 x2 x3 x4 x5 x6 x7 x8 : Option D} {z : Option D} {d : D} {r : DR} {μ : Mu} {Q : DR → Mu → Prop} : dgName 9 d (x0 :: x1 :: x2 :: x3 :: x4 :: x5 :: x6 :: x7 :: x8 :: z :: r) μ Q = Q (x0 :: x1 :: x2 :: x3 :: x4 :: x5 :: x6 :: x7 :: x8 :: some d :: r) μ := id rfl
@[simp ↓ high] theorem dVar_10 {x0 x1 x2 x3 x4 x5 x6 x7 x8 x9 : Option D} {d : D} {r : DR} {μ : Mu} {Q : QD} : dVar 10 (x0 :: x1 :: x2 :: x3 :: x4 :: x5 :: x6 :: x7 :: x8 :: x9 :: some d :: r) μ Q = Q d μ := id rfl
@[simp ↓ high] theorem dgName_10 {x0 x1 x2 x3 x4 x5 x6 x7 x8 x9 : Option D} {z : Option D} {d : D} {r : DR} {μ : Mu} {Q : DR → Mu → Prop} : dgName 10 d (x0 :: x1 :: x2 :: x3 :: x4 :: x5 :: x6 :: x7 :: x8 :: x9 :: z :: r) μ Q = Q (x0 :: x1 :: x2 :: x3 :: x4 :: x5 :: x6 :: x7 :: x8 :: x9 :: some d :: r) μ := id rfl
@[simp ↓ high] theorem dVar_11 {x0 x1 x2 x3 x4 x5 x6 x7 x8 x9 x10 : Option D} {d : D} {r : DR} {μ : Mu} {Q : QD} : dVar 11 (x0 :: x1 :: x2 :: x3 :: x4 :: x5 :: x6 :: x7 :: x8 :: x9 :: x10 :: some d :: r) μ Q = Q d μ := id rfl
@[simp ↓ high] theorem dgName_11 {x0 x1 x2 x3 x4 x5 x6 x7 x8 x9 x10 : Option D} {z : Option D} {d : D} {r : DR} {μ : Mu} {Q : DR → Mu → Prop} : dgName 11 d (x0 :: x1 :: x2 :: x3 :: x4 :: x5 :: x6 :: x7 :: x8 :: x9 :: x10 :: z :: r) μ Q = Q (x0 :: x1 :: x2 :: x3 :: x4 :: x5 :: x6 :: x7 :: x8 :: x9 :: x10 :: some d :: r) μ := id rfl
@[simp ↓ high] theorem dVar_12 {x0 x1 x2 x3 x4 x5 x6 x7 x8 x9 x10 x11 : Option D} {d : D} {r : DR} {μ : Mu} {Q : QD} : dVar 12 (x0 :: x1 :: x2 :: x3 :: x4 :: x5 :: x6 :: x7 :: x8 :: x9 :: x10 :: x11 :: some d :: r) μ Q = Q d μ := id rfl
@[simp ↓ high] theorem dgName_12 {x0 x1 x2 x3 x4 x5 x6 x7 x8 x9 x10 x11 : Option D} {z : Option D} {d : D} {r : DR} {μ : Mu} {Q : DR → Mu → Prop} : dgName 12 d (x0 :: x1 :: x2 :: x3 :: x4 :: x5 :: x6 :: x7 :: x8 :: x9 :: x10 :: x11 :: z :: r) μ Q = Q (x0 :: x1 :: x2 :: x3 :: x4 :: x5 :: x6 :: x7 :: x8 :: x9 :: x10 :: x11 :: some d :: r) μ := id rfl
@[simp ↓ high] theorem dVar_13 {x0 x1 x2 x3 x4 x5 x6 x7 x8 x9 x10 x11 x12 : Option D} {d : D} {r : DR} {μ : Mu} {Q : QD} : dVar 13 (x0 :: x1 :: x2 :: x3 :: x4 :: x5 :: x6 :: x7 :: x8 :: x9 :: x10 :: x11 :: x12 :: some d :: r) μ Q = Q d μ := id rfl
@[simp ↓ high] theorem dgName_13 {x0 x1 x2 x3 x4 x5 x6 x7 x8 x9 x10 x11 x12 : Option D} {z : Option D} {d : D} {r : DR} {μ : Mu} {Q : DR → Mu → Prop} : dgName 13 d (x0 :: x1 :: x2 :: x3 :: x4 :: x5 :: x6 :: x7 :: x8 :: x9 :: x10 :: x11 :: x12 :: z :: r) μ Q = Q (x0 :: x1 :: x2 :: x3 :: x4 :: x5 :: x6 :: x7 :: x8 :: x9 :: x10 :: x11 :: x12 :: some d :: r) μ := id rfl
@[simp ↓ high] theorem dVar_14 {x0 x1 x2 x3 x4 x5 x6 x7 x8 x9 x10 x11 x12 x13 : Option D} {d : D} {r : DR} {μ : Mu} {Q : QD} : dVar 14 (x0 :: x1 :: x2 :: x3 :: x4 :: x5 :: x6 :: x7 :: x8 :: x9 :: x10 :: x11 :: x12 :: x13 :: some d :: r) μ Q = Q d μ := id rfl
@[simp ↓ high] theorem dgName_14 {x0 x1 x2 x3 x4 x5 x6 x7 x8 x9 x10 x11 x12 x13 : Option D} {z : Option D} {d : D} {r : DR} {μ : Mu} {Q : DR → Mu → Prop} : dgName 14 d (x0 :: x1 :: x2 :: x3 :: x4 :: x5 :: x6 :: x7 :: x8 :: x9 :: x10 :: x11 :: x12 :: x13 :: z :: r) μ Q = Q (x0 :: x1 :: x2 :: x3 :: x4 :: x5 :: x6 :: x7 :: x8 :: x9 :: x10 :: x11 :: x12 :: x13 :: some d :: r) μ := id rfl
@[simp ↓ high] theorem dVar_15 {x0 x1 x2 x3 x4 x5 x6 x7 x8 x9 x10 x11 x12 x13 x14 : Option D} {d : D} {r : DR} {μ : Mu} {Q : QD} : dVar 15 (x0 :: x1 :: x2 :: x3 :: x4 :: x5 :: x6 :: x7 :: x8 :: x9 :: x10 :: x11 :: x12 :: x13 :: x14 :: some d :: r) μ Q = Q d μ := id rfl
@[simp ↓ high] theorem dgName_15 {x0 x1 x2 x3 x4 x5 x6 x7 x8 x9 x10 x11 x12 x13 x14 : Option D} {z : Option D} {d : D} {r : DR} {μ : Mu} {Q : DR → Mu → Prop} : dgName 15 d (x0 :: x1 :: x2 :: x3 :: x4 :: x5 :: x6 :: x7 :: x8 :: x9 :: x10 :: x11 :: x12 :: x13 :: x14 :: z :: r) μ Q = Q (x0 :: x1 :: x2 :: x3 :: x4 :: x5 :: x6 :: x7 :: x8 :: x9 :: x10 :: x11 :: x12 :: x13 :: x14 :: some d :: r) μ := id rfl
@[simp ↓ high] theorem dVar_16 {x0 x1 x2 x3 x4 x5 x6 x7 x8 x9 x10 x11 x12 x13 x14 x15 : Option D} {d : D} {r : DR} {μ : Mu} {Q : QD} : dVar 16 (x0 :: x1 :: x2 :: x3 :: x4 :: x5 :: x6 :: x7 :: x8 :: x9 :: x10 :: x11 :: x12 :: x13 :: x14 :: x15 :: some d :: r) μ Q = Q d μ := id rfl
@[simp ↓ high] theorem dgName_16 {x0 x1 x2 x3 x4 x5 x6 x7 x8 x9 x10 x11 x12 x13 x14 x15 : Option D} {z : Option D} {d : D} {r : DR} {μ : Mu} {Q : DR → Mu → Prop} : dgName 16 d (x0 :: x1 :: x2 :: x3 :: x4 :: x5 :: x6 :: x7 :: x8 :: x9 :: x10 :: x11 :: x12 :: x13 :: x14 :: x15 :: z :: r) μ Q = Q (x0 :: x1 :: x2 :: x3 :: x4 :: x5 :: x6 :: x7 :: x8 :: x9 :: x10 :: x11 :: x12 :: x13 :: x14 :: x15 :: some d :: r) μ := id rfl
@[simp ↓ high] theorem dVar_17 {x0 x1 x2 x3 x4 x5 x6 x7 x8 x9 x10 x11 x12 x13 x14 x15 x16 : Option D} {d : D} {r : DR} {μ : Mu} {Q : QD} : dVar 17 (x0 :: x1 :: x2 :: x3 :: x4 :: x5 :: x6 :: x7 :: x8 :: x9 :: x10 :: x11 :: x12 :: x13 :: x14 :: x15 :: x16 :: some d :: r) μ Q = Q d μ := id rfl
@[simp ↓ high] theorem dgName_17 {x0 x1 x2 x3 x4 x5 x6 x7 x8 x9 x10 x11 x12 x13 x14 x15 x16 : Option D} {z : Option D} {d : D} {r : DR} {μ : Mu} {Q : DR → Mu → Prop} : dgName 17 d (x0 :: x1 :: x2 :: x3 :: x4 :: x5 :: x6 :: x7 :: x8 :: x9 :: x10 :: x11 :: x12 :: x13 :: x14 :: x15 :: x16 :: z :: r) μ Q = Q (x0 :: x1 :: x2 :: x3 :: x4 :: x5 :: x6 :: x7 :: x8 :: x9 :: x10 :: x11 :: x12 :: x13 :: x14 :: x15 :: x16 :: some d :: r) μ := id rfl
@[simp ↓ high] theorem dVar_18 {x0 x1 x2 x3 x4 x5 x6 x7 x8 x9 x10 x11 x12 x13 x14 x15 x16 x17 : Option D} {d : D} {r : DR} {μ : Mu} {Q : QD} : dVar 18 (x0 :: x1 :: x2 :: x3 :: x4 :: x5 :: x6 :: x7 :: x8 :: x9 :: x10 :: x11 :: x12 :: x13 :: x14 :: x15 :: x16 :: x17 :: some d :: r) μ Q = Q d μ := id rfl
@[simp ↓ high] theorem dgName_18 {x0 x1 x2 x3 x4 x5 x6 x7 x8 x9 x10 x11 x12 x13 x14 x15 x16 x17 : Option D} {z : Option D} {d : D} {r : DR} {μ : Mu} {Q : DR → Mu → Prop} : dgName 18 d (x0 :: x1 :: x2 :: x3 :: x4 :: x5 :: x6 :: x7 :: x8 :: x9 :: x10 :: x11 :: x12 :: x13 :: x14 :: x15 :: x16 :: x17 :: z :: r) μ Q = Q (x0 :: x1 :: x2 :: x3 :: x4 :: x5 :: x6 :: x7 :: x8 :: x9 :: x10 :: x11 :: x12 :: x13 :: x14 :: x15 :: x16 :: x17 :: some d :: r) μ := id rfl
@[simp ↓ high] theorem dVar_19 {x0 x1 x2 x3 x4 x5 x6 x7 x8 x9 x10 x11 x12 x13 x14 x15 x16 x17 x18 : Option D} {d : D} {r : DR} {μ : Mu} {Q : QD} : dVar 19 (x0 :: x1 :: x2 :: x3 :: x4 :: x5 :: x6 :: x7 :: x8 :: x9 :: x10 :: x11 :: x12 :: x13 :: x14 :: x15 :: x16 :: x17 :: x18 :: some d :: r) μ Q = Q d μ := id rfl
@[simp ↓ high] theorem dgName_19 {x0 x1 x2 x3 x4 x5 x6 x7 x8 x9 x10 x11 x12 x13 x14 x15 x16 x17 x18 : Option D} {z : Option D} {d : D} {r : DR} {μ : Mu} {Q : DR → Mu → Prop} : dgName 19 d (x0 :: x1 :: x2 :: x3 :: x4 :: x5 :: x6 :: x7 :: x8 :: x9 :: x10 :: x11 :: x12 :: x13 :: x14 :: x15 :: x16 :: x17 :: x18 :: z :: r) μ Q = Q (x0 :: x1 :: x2 :: x3 :: x4 :: x5 :: x6 :: x7 :: x8 :: x9 :: x10 :: x11 :: x12 :: x13 :: x14 :: x15 :: x16 :: x17 :: x18 :: some d :: r) μ := id rfl
@[simp ↓ high] theorem dVar_20 {x0 x1 x2 x3 x4 x5 x6 x7 x8 x9 x10 x11 x12 x13 x14 x15 x16 x17 x18 x19 : Option D} {d : D} {r : DR} {μ : Mu} {Q : QD} : dVar 20 (x0 :: x1 :: x2 :: x3 :: x4 :: x5 :: x6 :: x7 :: x8 :: x9 :: x10 :: x11 :: x12 :: x13 :: x14 :: x15 :: x16 :: x17 :: x18 :: x19 :: some d :: r) μ Q = Q d μ := id rfl
@[simp ↓ high] theorem dgName_20 {x0 x1 x2 x3 x4 x5 x6 x7 x8 x9 x10 x11 x12 x13 x14 x15 x16 x17 x18 x19 : Option D} {z : Option D} {d : D} {r : DR} {μ : Mu} {Q : DR → Mu → Prop} : dgName 20 d (x0 :: x1 :: x2 :: x3 :: x4 :: x5 :: x6 :: x7 :: x8 :: x9 :: x10 :: x11 :: x12 :: x13 :: x14 :: x15 :: x16 :: x17 :: x18 :: x19 :: z :: r) μ Q = Q (x0 :: x1 :: x2 :: x3 :: x4 :: x5 :: x6 :: x7 :: x8 :: x9 :: x10 :: x11 :: x12 :: x13 :: x14 :: x15 :: x16 :: x17 :: x18 :: x19 :: some d :: r) μ := id rfl
@[simp ↓ high] theorem dVar_21 {x0 x1 x2 x3 x4 x5 x6 x7 x8 x9 x10 x11 x12 x13 x14 x15 x16 x17 x18 x19 x20 : Option D} {d : D} {r : DR} {μ : Mu} {Q : QD} : dVar 21 (x0 :: x1 :: x2 :: x3 :: x4 :: x5 :: x6 :: x7 :: x8 :: x9 :: x10 :: x11 :: x12 :: x13 :: x14 :: x15 :: x16 :: x17 :: x18 :: x19 :: x20 :: some d :: r) μ Q = Q d μ := id rfl
@[simp ↓ high] theorem dgName_21 {x0 x1 x2 x3 x4 x5 x6 x7 x8 x9 x10 x11 x12 x13 x14 x15 x16 x17 x18 x19 x20 : Option D} {z : Option D} {d : D} {r : DR} {μ : Mu} {Q : DR → Mu → Prop} : dgName 21 d (x0 :: x1 :: x2 :: x3 :: x4 :: x5 :: x6 :: x7 :: x8 :: x9 :: x10 :: x11 :: x12 :: x13 :: x14 :: x15 :: x16 :: x17 :: x18 :: x19 :: x20 :: z :: r) μ Q = Q (x0 :: x1 :: x2 :: x3 :: x4 :: x5 :: x6 :: x7 :: x8 :: x9 :: x10 :: x11 :: x12 :: x13 :: x14 :: x15 :: x16 :: x17 :: x18 :: x19 :: x20 :: some d :: r) μ := id rfl
@[simp ↓ high] theorem dVar_22 {x0 x1 x2 x3 x4 x5 x6 x7 x8 x9 x10 x11 x12 x13 x14 x15 x16 x17 x18 x19 x20 x21 : Option D} {d : D} {r : DR} {μ : Mu} {Q : QD} : dVar 22 (x0 :: x1 :: x2 :: x3 :: x4 :: x5 :: x6 :: x7 :: x8 :: x9 :: x10 :: x11 :: x12 :: x13 :: x14 :: x15 :: x16 :: x17 :: x18 :: x19 :: x20 :: x21 :: some d :: r) μ Q = Q d μ := id rfl
@[simp ↓ high] theorem dgName_22 {x0 x1 x2 x3 x4 x5 x6 x7 x8 x9 x10 x11 x12 x13 x14 x15 x16 x17 x18 x19 x20 x21 : Option D} {z : Option D} {d : D} {r : DR} {μ : Mu} {Q : DR → Mu → Prop} : dgName 22 d (x0 :: x1 :: x2 :: x3 :: x4 :: x5 :: x6 :: x7 :: x8 :: x9 :: x10 :: x11 :: x12 :: x13 :: x14 :: x15 :: x16 :: x17 :: x18 :: x19 :: x20 :: x21 :: z :: r) μ Q = Q (x0 :: x1 :: x2 :: x3 :: x4 :: x5 :: x6 :: x7 :: x8 :: x9 :: x10 :: x11 :: x12 :: x13 :: x14 :: x15 :: x16 :: x17 :: x18 :: x19 :: x20 :: x21 :: some d :: r) μ := id rfl
@[simp ↓ high] theorem dVar_23 {x0 x1 x2 x3 x4 x5 x6 x7 x8 x9 x10 x11 x12 x13 x14 x15 x16 x17 x18 x19 x20 x21 x22 : Option D} {d : D} {r : DR} {μ : Mu} {Q : QD} : dVar 23 (x0 :: x1 :: x2 :: x3 :: x4 :: x5 :: x6 :: x7 :: x8 :: x9 :: x10 :: x11 :: x12 :: x13 :: x14 :: x15 :: x16 :: x17 :: x18 :: x19 :: x20 :: x21 :: x22 :: some d :: r) μ Q = Q d μ := id rfl
@[simp ↓ high] theorem dgName_23 {x0 x1 x2 x3 x4 x5 x6 x7 x8 x9 x10 x11 x12 x13 x14 x15 x16 x17 x18 x19 x20 x21 x22 : Option D} {z : Option D} {d : D} {r : DR} {μ : Mu} {Q : DR → Mu → Prop} : dgName 23 d (x0 :: x1 :: x2 :: x3 :: x4 :: x5 :: x6 :: x7 :: x8 :: x9 :: x10 :: x11 :: x12 :: x13 :: x14 :: x15 :: x16 :: x17 :: x18 :: x19 :: x20 :: x21 :: x22 :: z :: r) μ Q = Q (x0 :: x1 :: x2 :: x3 :: x4 :: x5 :: x6 :: x7 :: x8 :: x9 :: x10 :: x11 :: x12 :: x13 :: x14 :: x15 :: x16 :: x17 :: x18 :: x19 :: x20 :: x21 :: x22 :: some d :: r) μ := id rfl
@[simp ↓ high] theorem dVar_24 {x0 x1 x2 x3 x4 x5 x6 x7 x8 x9 x10 x11 x12 x13 x14 x15 x16 x17 x18 x19 x20 x21 x22 x23 : Option D} {d : D} {r : DR} {μ : Mu} {Q : QD} : dVar 24 (x0 :: x1 :: x2 :: x3 :: x4 :: x5 :: x6 :: x7 :: x8 :: x9 :: x10 :: x11 :: x12 :: x13 :: x14 :: x15 :: x16 :: x17 :: x18 :: x19 :: x20 :: x21 :: x22 :: x23 :: some d :: r) μ Q = Q d μ := id rfl
@[simp ↓ high] theorem dgName_24 {x0 x1 x2 x3 x4 x5 x6 x7 x8 x9 x10 x11 x12 x13 x14 x15 x16 x17 x18 x19 x20 x21 x22 x23 : Option D} {z : Option D} {d : D} {r : DR} {μ : Mu} {Q : DR → Mu → Prop} : dgName 24 d (x0 :: x1 :: x2 :: x3 :: x4 :: x5 :: x6 :: x7 :: x8 :: x9 :: x10 :: x11 :: x12 :: x13 :: x14 :: x15 :: x16 :: x17 :: x18 :: x19 :: x20 :: x21 :: x22 :: x23 :: z :: r) μ Q = Q (x0 :: x1 :: x2 :: x3 :: x4 :: x5 :: x6 :: x7 :: x8 :: x9 :: x10 :: x11 :: x12 :: x13 :: x14 :: x15 :: x16 :: x17 :: x18 :: x19 :: x20 :: x21 :: x22 :: x23 :: some d :: r) μ := id rfl
@[simp ↓ high] theorem dVar_25 {x0 x1 x2 x3 x4 x5 x6 x7 x8 x9 x10 x11 x12 x13 x14 x15 x16 x17 x18 x19 x20 x21 x22 x23 x24 : Option D} {d : D} {r : DR} {μ : Mu} {Q : QD} : dVar 25 (x0 :: x1 :: x2 :: x3 :: x4 :: x5 :: x6 :: x7 :: x8 :: x9 :: x10 :: x11 :: x12 :: x13 :: x14 :: x15 :: x16 :: x17 :: x18 :: x19 :: x20 :: x21 :: x22 :: x23 :: x24 :: some d :: r) μ Q = Q d μ := id rfl
@[simp ↓ high] theorem dgName_25 {x0 x1 x2 x3 x4 x5 x6 x7 x8 x9 x10 x11 x12 x13 x14 x15 x16 x17 x18 x19 x20 x21 x22 x23 x24 : Option D} {z : Option D} {d : D} {r : DR} {μ : Mu} {Q : DR → Mu → Prop} : dgName 25 d (x0 :: x1 :: x2 :: x3 :: x4 :: x5 :: x6 :: x7 :: x8 :: x9 :: x10 :: x11 :: x12 :: x13 :: x14 :: x15 :: x16 :: x17 :: x18 :: x19 :: x20 :: x21 :: x22 :: x23 :: x24 :: z :: r) μ Q = Q (x0 :: x1 :: x2 :: x3 :: x4 :: x5 :: x6 :: x7 :: x8 :: x9 :: x10 :: x11 :: x12 :: x13 :: x14 :: x15 :: x16 :: x17 :: x18 :: x19 :: x20 :: x21 :: x22 :: x23 :: x24 :: some d :: r) μ := id rfl
section
variable {μ : Mu} {Q : QD} {n : Bool} {i j : Int} {s t : Str} {b c : Bool} {xs ys : List D} {x y : D}
@[simp ↓ high] theorem eqW_ii : eqW n (.int i) (.int j) μ Q = Q (.bl (n ^^ decide (i = j))) μ := id rfl
@[simp ↓ high] theorem eqW_ss : eqW n (.str s) (.str t) μ Q = Q (.bl (n ^^ decide (s = t))) μ := id rfl
@[simp ↓ high] theorem eqW_bb : eqW n (.bl b) (.bl c) μ Q = Q (.bl (n ^^ decide (b = c))) μ := id rfl
@[simp ↓ high] theorem opAdd_ii : opAdd (.int i) (.int j) μ Q = Q (.int (i + j)) μ := id rfl
@[simp ↓ high] theorem opAdd_ss : opAdd (.str s) (.str t) μ Q = (s.length + t.length ≤ sizeLine ∧ Q (.str (s ++ t)) μ) := id rfl
@[simp ↓ high] theorem opAdd_ll : opAdd (.lst xs) (.lst ys) μ Q = (xs.length + ys.length ≤ sizeLine ∧ Q (.lst (xs ++ ys)) μ) := id rfl
@[simp ↓ high] theorem opZ_ii {C : Int → Int → Prop} {g : Int → Int → D} : opZ C g (.int i) (.int j) μ Q = (C i j ∧ Q (g i j) μ) := id rfl
@[simp ↓ high] theorem opZ0_ii {g : Int → Int → D} : opZ0 g (.int i) (.int j) μ Q = Q (g i j) μ := id rfl
@[simp ↓ high] theorem opIs_n : opIs n x .non μ Q = Q (.bl (n ^^ isNonD x)) μ := id rfl
@[simp ↓ high] theorem opIx_l : opIx (.lst xs) (.int i) μ Q = oS (atI xs i) fun d => Q d μ := by rw [opIx_p]; rfl
@[simp ↓ high] theorem opIx_t : opIx (.tup xs) (.int i) μ Q = oS (atI xs i) fun d => Q d μ := by rw [opIx_p]; rfl
@[simp ↓ high] theorem opIx_s : opIx (.str s) (.int i) μ Q = (s.length ≤ sizeLine ∧ oS (atI s.cps.toList i) fun c => Q (.str (mk [c])) μ) := by rw [opIx_p]; rfl
@[simp ↓ high] theorem cLen_l : cLen [.lst xs] μ Q = Q (.int xs.length) μ := id rfl
@[simp ↓ high] theorem mkL_fp : mkL false xs μ Q = Q (.lst xs) μ := id rfl
@[simp ↓ high] theorem mkL_tp : mkL true xs μ Q = (∀ a, μ a = none → Q (.ptr a) (mup μ a (.lst xs))) := id rfl
@[simp ↓ high] theorem mkDc_fp {kvs : List (Key × D)} : mkDc false kvs μ Q = Q (.dic kvs) μ := id rfl
@[simp ↓ high] theorem mkDc_tp {kvs : List (Key × D)} : mkDc true kvs μ Q = (∀ a, μ a = none → Q (.ptr a) (mup μ a (.dic kvs))) := id rfl
@[simp ↓ high] theorem oS_some {α : Type} {d : α} {P : α → Prop} : oS (some d) P = P d := id rfl
theorem sh_b2 (a b : Bool) : SeqAt.shaped (.list [.bool a, .bool b]) = true := by cases a <;> cases b <;> decide
@[simp ↓ high] theorem eqW_b2 {b' c' : Bool} : eqW n (.lst [.bl b, .bl c]) (.lst [.bl b', .bl c']) μ Q = Q (.bl (n ^^ decide (b = b' ∧ c = c'))) μ := by
  cases b <;> cases c <;> cases b' <;> cases c' <;> (rw [eqW_p]; simp [oS, pyL, py, sh_b2, PyData.eqvAll, PyData.eqv])
end
end DL

/-! DLD: loops over ranges and items with the short ends; pure data and their equality. -/
namespace DL
open PySem PySem.Spec PyProof.Rows L2
theorem rngD_cons {lo hi : Int} (h : lo < hi) : rngD lo hi = .int lo :: rngD (lo + 1) hi := by
  unfold rngD
  have e : (hi - lo).toNat = (hi - (lo + 1)).toNat + 1 := by omega
  rw [e, List.range_succ_eq_map, List.map_cons, List.map_map]
  congr 1
  · simp
  · apply List.map_congr_left
    intro k _
    simp only [Function.comp]
    congr 1
    omega
theorem rngD_end {lo hi : Int} (h : hi ≤ lo) : rngD lo hi = [] := by
  unfold rngD; rw [show (hi - lo).toNat = 0 by omega]; rfl
/-- a loop over a range, by what holds at each number -/
theorem loop_rng {g : TDG} {T : TDS} {E : DEnds} {lo hi : Int} (I : Int → DR → Mu → Prop) {ρ : DR} {μ : Mu} (hl : lo ≤ hi) (h : I lo ρ μ) (hn : ∀ ρ μ, I hi ρ μ → E.nx ρ μ)
    (hc : ∀ j ρ μ (N : DR → Mu → Prop), lo ≤ j → j < hi → I j ρ μ → (∀ ρ' μ', I (j + 1) ρ' μ' → N ρ' μ') → g (.int j) ρ μ fun ρ2 μ2 => T (lpE E N) ρ2 μ2) : loopL g T E (rngD lo hi) ρ μ := by
  generalize hm : (hi - lo).toNat = m
  induction m generalizing lo ρ μ with
  | zero =>
    have : lo = hi := by omega
    subst this
    rw [rngD_end (Int.le_refl _)]
    exact hn ρ μ h
  | succ m ih =>
    rw [rngD_cons (by omega), loopL_cons_p]
    exact hc lo ρ μ _ (Int.le_refl _) (by omega) h fun ρ' μ' h' => ih (by omega) h' (fun j ρ μ N h1 h2 => hc j ρ μ N (by omega) h2) (by omega)
theorem loop_it {g : TDG} {T : TDS} {E : DEnds} (I : List D → DR → Mu → Prop) {xs : List D} {ρ : DR} {μ : Mu} (h : I xs ρ μ) (hn : ∀ ρ μ, I [] ρ μ → E.nx ρ μ)
    (hc : ∀ x r ρ μ (N : DR → Mu → Prop), I (x :: r) ρ μ → (∀ ρ' μ', I r ρ' μ' → N ρ' μ') → g x ρ μ fun ρ2 μ2 => T (lpE E N) ρ2 μ2) : loopL g T E xs ρ μ := loop_ind I h hn hc
/-- plain data -/
def atomD : D → Prop
  | .non => True | .bl _ => True | .int _ => True | .str _ => True | _ => False
def Pd : Nat → D → Prop
  | 0, d => atomD d
  | n + 1, d => atomD d ∨ ∃ xs, (d = .lst xs ∨ d = .tup xs) ∧ xs.length ≤ 16000000 ∧ ∀ x ∈ xs, Pd n x
theorem vw_atom {μ : Mu} {d : D} (h : atomD d) : vw μ d = d := by cases d <;> first | rfl | exact h.elim
theorem Pd.vw {μ : Mu} {d : D} {n : Nat} (h : Pd n d) : vw μ d = d := by
  cases n with
  | zero => exact vw_atom h
  | succ n =>
    rcases h with h | ⟨xs, rfl | rfl, _⟩
    · exact vw_atom h
    · rfl
    · rfl
theorem Pd.up {d : D} {n : Nat} (h : Pd n d) : Pd (n + 1) d := by
  induction n generalizing d with
  | zero => exact .inl h
  | succ n ih =>
    rcases h with h | ⟨xs, e, l, h⟩
    · exact .inl h
    · exact .inr ⟨xs, e, l, fun x hx => ih (h x hx)⟩
noncomputable def eqD (x y : D) : Bool := @decide (x = y) (Classical.propDecidable _)
theorem eqD_iff {x y : D} : eqD x y = true ↔ x = y := by unfold eqD; exact @decide_eq_true_iff _ (Classical.propDecidable _)
theorem eqD_no {x y : D} : eqD x y = false ↔ x ≠ y := by rw [← Bool.not_eq_true, eqD_iff]
@[simp] theorem eqD_self {x : D} : eqD x x = true := eqD_iff.mpr rfl
theorem isNonD_vw {μ : Mu} {d : D} : isNonD d = isNonD (vw μ d) := by
  cases d <;> first | rfl | skip
  rename_i a
  cases h : μ a with
  | none => simp [vw, h]
  | some c => cases c <;> simp [vw, h]
theorem Pd_cases {n : Nat} {d : D} (h : Pd n d) : d = .non ∨ (∃ b, d = .bl b) ∨ (∃ b, d = .int b) ∨ (∃ b, d = .str b) ∨ (∃ b, d = .lst b) ∨ (∃ b, d = .tup b) := by
  have a : ∀ {d}, atomD d → d = .non ∨ (∃ b, d = .bl b) ∨ (∃ b, d = .int b) ∨ (∃ b, d = .str b) ∨ (∃ b, d = .lst b) ∨ (∃ b, d = .tup b) := by
    intro d h; cases d <;> first | exact h.elim | simp
  cases n with
  | zero => exact a h
  | succ n =>
    rcases h with h | ⟨xs, rfl | rfl, _⟩
    · exact a h
    · simp
    · simp
theorem nd_n : isNonD .non = true := rfl
theorem nd_b {b : Bool} : isNonD (.bl b) = false := rfl
theorem nd_i {b : Int} : isNonD (.int b) = false := rfl
theorem nd_s {b : Str} : isNonD (.str b) = false := rfl
theorem nd_l {b : List D} : isNonD (.lst b) = false := rfl
theorem nd_t {b : List D} : isNonD (.tup b) = false := rfl
theorem eqD_of {x y : D} {p : Prop} [Decidable p] (h : x = y ↔ p) : eqD x y = decide p := by
  by_cases q : p
  · rw [decide_eq_true q, eqD_iff.mpr (h.mpr q)]
  · rw [decide_eq_false q, eqD_no.mpr (fun e => q (h.mp e))]
theorem eqD_b {b c : Bool} : eqD (.bl b) (.bl c) = decide (b = c) := eqD_of (by simp)
theorem eqD_i {b c : Int} : eqD (.int b) (.int c) = decide (b = c) := eqD_of (by simp)
theorem eqD_s {b c : Str} : eqD (.str b) (.str c) = decide (b = c) := eqD_of (by simp)
theorem eqD_t {b c : List D} : eqD (.tup b) (.tup c) = eqD (.lst b) (.lst c) := by
  by_cases h : b = c
  · subst h; simp
  · rw [eqD_no.mpr (by simpa using h), eqD_no.mpr (by simpa using h)]
/-- one statement at a time: what follows is a letter -/
theorem seq_hide {T U : TDS} {E : DEnds} {ρ : DR} {μ : Mu} (h : ∀ N, N = U E → T (sqE E N) ρ μ) : dSeq T U E ρ μ := h _ rfl
/-- .. or only what is known behind it -/
theorem seq_cut {T U : TDS} {E : DEnds} {ρ : DR} {μ : Mu} (P : DR → Mu → Prop) (h1 : ∀ N, (∀ ρ μ, P ρ μ → N ρ μ) → T (sqE E N) ρ μ) (h2 : ∀ ρ μ, P ρ μ → U E ρ μ) : dSeq T U E ρ μ := h1 _ h2
theorem mup_none {μ : Mu} {p a : Addr} {c : Cell} : mup μ p c a = none ↔ a ≠ p ∧ μ a = none := by
  unfold mup; split
  · next h => subst h; simp
  · next h => simp [h]
theorem mup_comm {μ : Mu} {p a : Addr} {c d : Cell} (h : a ≠ p) : mup (mup μ p c) a d = mup (mup μ a d) p c := by
  funext b; unfold mup; split
  · next e => subst e; simp [h]
  · rfl
@[simp] theorem atI_m1c {α : Type} {x y : α} {r : List α} : atI (x :: y :: r) (-1) = atI (y :: r) (-1) := by
  have e1 : ixN (x :: y :: r).length (-1) = some ((y :: r).length) := by
    rw [ixN_m1 (by simp)]; simp
  have e2 : ixN (y :: r).length (-1) = some ((y :: r).length - 1) := ixN_m1 (by simp)
  unfold atI
  rw [e1, e2]
  simp
/-- the loop is a letter while its items are found -/
theorem for_hide {I : TDI} {g : TDG} {T : TDS} {E : DEnds} {ρ : DR} {μ : Mu} (h : ∀ L, L = loopL g T E → I ρ μ fun xs μ1 => L xs ρ μ1) : dFor I g T E ρ μ := h _ rfl
theorem for_rng {hi : Int} {g : TDG} {T : TDS} {E : DEnds} (I : Int → DR → Mu → Prop) {ρ : DR} {μ : Mu} (hl : 0 ≤ hi) (hm : hi < 2 ^ 62) (h : I 0 ρ μ) (hn : ∀ ρ μ, I hi ρ μ → E.nx ρ μ)
    (hc : ∀ j ρ μ (N : DR → Mu → Prop), 0 ≤ j → j < hi → I j ρ μ → (∀ ρ' μ', I (j + 1) ρ' μ' → N ρ' μ') → g (.int j) ρ μ fun ρ2 μ2 => T (lpE E N) ρ2 μ2) : dFor (iRg1 (dCons (dC (.int hi)) dNil)) g T E ρ μ :=
  show ((-(2 ^ 62) ≤ hi ∧ hi < 2 ^ 62) ∧ loopL g T E (rngD 0 hi) ρ μ) from ⟨⟨by omega, hm⟩, loop_rng I hl h hn hc⟩
@[simp] theorem ixN_1_0 : ixN 1 0 = some 0 := rfl
@[simp] theorem ixN_1_m1 : ixN 1 (-1) = some 0 := rfl
@[simp] theorem ixN_2_0 : ixN 2 0 = some 0 := rfl
@[simp] theorem ixN_2_1 : ixN 2 1 = some 1 := rfl
@[simp] theorem ixN_2_m1 : ixN 2 (-1) = some 1 := rfl
@[simp] theorem ixN_3_0 : ixN 3 0 = some 0 := rfl
@[simp] theorem ixN_3_1 : ixN 3 1 = some 1 := rfl
@[simp] theorem ixN_3_2 : ixN 3 2 = some 2 := rfl
@[simp] theorem ixN_3_m1 : ixN 3 (-1) = some 2 := rfl
@[simp] theorem ixN_4_0 : ixN 4 0 = some 0 := rfl
@[simp] theorem ixN_4_1 : ixN 4 1 = some 1 := rfl
@[simp] theorem ixN_4_2 : ixN 4 2 = some 2 := rfl
@[simp] theorem ixN_4_3 : ixN 4 3 = some 3 := rfl
@[simp] theorem ixN_4_m1 : ixN 4 (-1) = some 3 := rfl
@[simp] theorem ixN_5_0 : ixN 5 0 = some 0 := rfl
@[simp] theorem ixN_5_1 : ixN 5 1 = some 1 := rfl
@[simp] theorem ixN_5_2 : ixN 5 2 = some 2 := rfl
@[simp] theorem ixN_5_3 : ixN 5 3 = some 3 := rfl
@[simp] theorem ixN_5_4 : ixN 5 4 = some 4 := rfl
@[simp] theorem ixN_5_m1 : ixN 5 (-1) = some 4 := rfl
@[simp] theorem ixN_6_0 : ixN 6 0 = some 0 := rfl
@[simp] theorem ixN_6_1 : ixN 6 1 = some 1 := rfl
@[simp] theorem ixN_6_2 : ixN 6 2 = some 2 := rfl
@[simp] theorem ixN_6_3 : ixN 6 3 = some 3 := rfl
@[simp] theorem ixN_6_4 : ixN 6 4 = some 4 := rfl
@[simp] theorem ixN_6_5 : ixN 6 5 = some 5 := rfl
@[simp] theorem ixN_6_m1 : ixN 6 (-1) = some 5 := rfl
@[simp] theorem ixN_7_0 : ixN 7 0 = some 0 := rfl
@[simp] theorem ixN_7_1 : ixN 7 1 = some 1 := rfl
@[simp] theorem ixN_7_2 : ixN 7 2 = some 2 := rfl
@[simp] theorem ixN_7_3 : ixN 7 3 = some 3 := rfl
@[simp] theorem ixN_7_4 : ixN 7 4 = some 4 := rfl
@[simp] theorem ixN_7_5 : ixN 7 5 = some 5 := rfl
@[simp] theorem ixN_7_6 : ixN 7 6 = some 6 := rfl
@[simp] theorem ixN_7_m1 : ixN 7 (-1) = some 6 := rfl
@[simp] theorem ixN_8_0 : ixN 8 0 = some 0 := rfl
@[simp] theorem ixN_8_1 : ixN 8 1 = some 1 := rfl
@[simp] theorem ixN_8_2 : ixN 8 2 = some 2 := rfl
@[simp] theorem ixN_8_3 : ixN 8 3 = some 3 := rfl
@[simp] theorem ixN_8_4 : ixN 8 4 = some 4 := rfl
@[simp] theorem ixN_8_5 : ixN 8 5 = some 5 := rfl
@[simp] theorem ixN_8_6 : ixN 8 6 = some 6 := rfl
@[simp] theorem ixN_8_7 : ixN 8 7 = some 7 := rfl
@[simp] theorem ixN_8_m1 : ixN 8 (-1) = some 7 := rfl
@[simp] theorem ixN_9_0 : ixN 9 0 = some 0 := rfl
@[simp] theorem ixN_9_1 : ixN 9 1 = some 1 := rfl
@[simp] theorem ixN_9_2 : ixN 9 2 = some 2 := rfl
@[simp] theorem ixN_9_3 : ixN 9 3 = some 3 := rfl
@[simp] theorem ixN_9_4 : ixN 9 4 = some 4 := rfl
@[simp] theorem ixN_9_5 : ixN 9 5 = some 5 := rfl
@[simp] theorem ixN_9_6 : ixN 9 6 = some 6 := rfl
@[simp] theorem ixN_9_7 : ixN 9 7 = some 7 := rfl
@[simp] theorem ixN_9_8 : ixN 9 8 = some 8 := rfl
@[simp] theorem ixN_9_m1 : ixN 9 (-1) = some 8 := rfl
@[simp] theorem ixN_10_0 : ixN 10 0 = some 0 := rfl
@[simp] theorem ixN_10_1 : ixN 10 1 = some 1 := rfl
@[simp] theorem ixN_10_2 : ixN 10 2 = some 2 := rfl
@[simp] theorem ixN_10_3 : ixN 10 3 = some 3 := rfl
@[simp] theorem ixN_10_4 : ixN 10 4 = some 4 := rfl
@[simp] theorem ixN_10_5 : ixN 10 5 = some 5 := rfl
@[simp] theorem ixN_10_6 : ixN 10 6 = some 6 := rfl
@[simp] theorem ixN_10_7 : ixN 10 7 = some 7 := rfl
@[simp] theorem ixN_10_8 : ixN 10 8 = some 8 := rfl
@[simp] theorem ixN_10_9 : ixN 10 9 = some 9 := rfl
@[simp] theorem ixN_10_m1 : ixN 10 (-1) = some 9 := rfl
@[simp] theorem ixN_11_0 : ixN 11 0 = some 0 := rfl
@[simp] theorem ixN_11_1 : ixN 11 1 = some 1 := rfl
@[simp] theorem ixN_11_2 : ixN 11 2 = some 2 := rfl
@[simp] theorem ixN_11_3 : ixN 11 3 = some 3 := rfl
@[simp] theorem ixN_11_4 : ixN 11 4 = some 4 := rfl
@[simp] theorem ixN_11_5 : ixN 11 5 = some 5 := rfl
@[simp] theorem ixN_11_6 : ixN 11 6 = some 6 := rfl
@[simp] theorem ixN_11_7 : ixN 11 7 = some 7 := rfl
@[simp] theorem ixN_11_8 : ixN 11 8 = some 8 := rfl
@[simp] theorem ixN_11_9 : ixN 11 9 = some 9 := rfl
@[simp] theorem ixN_11_10 : ixN 11 10 = some 10 := rfl
@[simp] theorem ixN_11_m1 : ixN 11 (-1) = some 10 := rfl
@[simp] theorem ixN_12_0 : ixN 12 0 = some 0 := rfl
@[simp] theorem ixN_12_1 : ixN 12 1 = some 1 := rfl
@[simp] theorem ixN_12_2 : ixN 12 2 = some 2 := rfl
@[simp] theorem ixN_12_3 : ixN 12 3 = some 3 := rfl
@[simp] theorem ixN_12_4 : ixN 12 4 = some 4 := rfl
@[simp] theorem ixN_12_5 : ixN 12 5 = some 5 := rfl
@[simp] theorem ixN_12_6 : ixN 12 6 = some 6 := rfl
@[simp] theorem ixN_12_7 : ixN 12 7 = some 7 := rfl
@[simp] theorem ixN_12_8 : ixN 12 8 = some 8 := rfl
@[simp] theorem ixN_12_9 : ixN 12 9 = some 9 := rfl
@[simp] theorem ixN_12_10 : ixN 12 10 = some 10 := rfl
@[simp] theorem ixN_12_11 : ixN 12 11 = some 11 := rfl
@[simp] theorem ixN_12_m1 : ixN 12 (-1) = some 11 := rfl
end DL

/-! DLE: own classes: made, fields, methods, properties; list * int. -/
namespace DL
open PySem PySem.Spec PyProof.Rows L2
theorem mk_inj' {a b : List Nat} (h : mk a = mk b) : a = b := by
  have := congrArg (fun s => s.cps.toList) h
  simpa using this
@[simp] theorem ofString_inj {a b : String} : Str.ofString a = Str.ofString b ↔ a = b := by
  constructor
  · intro h
    rw [ofString_mk, ofString_mk] at h
    have h2 := mk_inj' h
    apply String.ext
    exact List.map_inj_right (fun x y e => Char.ext (UInt32.toNat_inj.mp e)) |>.mp h2
  · rintro rfl; rfl
/-! fields -/
def fget : List (Str × D) → Str → Option D
  | [], _ => none
  | (g, x) :: r, f => if g = f then some x else fget r f
def fput (f : Str) (d : D) : List (Str × D) → List (Str × D)
  | [] => [(f, d)]
  | (g, x) :: r => if g = f then (g, d) :: r else (g, x) :: fput f d r
@[simp] theorem fget_nil {f : Str} : fget [] f = none := rfl
@[simp] theorem fget_cons {g f : Str} {x : D} {r : List (Str × D)} : fget ((g, x) :: r) f = if g = f then some x else fget r f := rfl
@[simp] theorem fput_nil {f : Str} {d : D} : fput f d [] = [(f, d)] := rfl
@[simp] theorem fput_cons {g f : Str} {x d : D} {r : List (Str × D)} : fput f d ((g, x) :: r) = if g = f then (g, d) :: r else (g, x) :: fput f d r := rfl
section
variable {K : PySem.W.Frag} {G : Gh}
theorem lookup_cons_if {α : Type} (f g : Str) (y : α) (fs : List (Str × α)) : ((f, y) :: fs).lookup g = if f = g then some y else fs.lookup g := by
  by_cases h : f = g
  · subst h; simp [List.lookup]
  · have e : (g == f) = false := by simpa using fun x => h x.symm
    rw [if_neg h]; simp [List.lookup, e]
theorem FReps.fget {ds : List (Str × D)} (f : Str) : ∀ {kv : List (Str × V)}, FReps K G kv ds → (∀ d, DL.fget ds f = some d → ∃ v, kv.lookup f = some v ∧ Rep K G v d) ∧ (DL.fget ds f = none → kv.lookup f = none) := by
  induction ds with
  | nil => intro kv h; rw [h.nil_inv]; exact And.intro (fun d e => by simp at e) (fun _ => rfl)
  | cons p ds ih =>
    intro kv h
    obtain ⟨k', d⟩ := p
    obtain ⟨v, r, rfl, a, b⟩ := h.cons_inv
    rw [fget_cons, lookup_cons_if]
    by_cases e : k' = f
    · rw [if_pos e, if_pos e]; exact ⟨fun d' q => by cases q; exact ⟨v, rfl, a⟩, fun q => by cases q⟩
    · rw [if_neg e, if_neg e]; exact ih b
theorem FReps.fput {ds : List (Str × D)} {v : V} {d : D} (f : Str) (r : Rep K G v d) : ∀ {kv : List (Str × V)}, FReps K G kv ds → FReps K G (putF f v kv) (DL.fput f d ds) := by
  induction ds with
  | nil => intro kv h; rw [h.nil_inv]; exact FReps.cons r FReps.nil
  | cons p ds ih =>
    intro kv h
    obtain ⟨k', d'⟩ := p
    obtain ⟨v', kr, rfl, a, b⟩ := h.cons_inv
    show FReps K G (if k' = f then (k', v) :: kr else (k', v') :: putF f v kr) (if k' = f then (k', d) :: ds else (k', d') :: DL.fput f d ds)
    by_cases e : k' = f
    · rw [if_pos e, if_pos e]; exact FReps.cons r b
    · rw [if_neg e, if_neg e]; exact FReps.cons a (ih b)
end
/-- d is an object of the class at C with these fields -/
def oF (C : Addr) (d : D) (P : List (Str × D) → Prop) : Prop := match d with | .obj C' fs => C' = C ∧ P fs | _ => False
@[simp ↓] theorem oF_obj {C C' : Addr} {fs : List (Str × D)} {P : List (Str × D) → Prop} : oF C (.obj C' fs) P = (C' = C ∧ P fs) := id rfl
theorem oF_go {K : PySem.W.Frag} {G : Gh} {μ : Mu} {H : Hp} {v : V} {d : D} {C : Addr} {P : List (Str × D) → Prop} (h : oF C (vw μ d) P) (S : Hold K G μ H) (r : Rep K G v d) : ∃ a dx vs fs, v = .ref a ∧ H a = some (.ins C dx vs) ∧ FReps K G vs fs ∧ vw μ d = .obj C fs ∧ P fs := by
  cases e : vw μ d with
  | obj C' fs =>
    rw [e] at h
    obtain ⟨rfl, p⟩ := h
    obtain ⟨a, dx, vs, rfl, h1, rr⟩ := S.obj r e
    exact ⟨a, dx, vs, fs, rfl, h1, rr, rfl, p⟩
  | _ => rw [e] at h; exact False.elim h
/-- what is known of an own class: its name, its fields -/
structure Klass (K : PySem.W.Frag) (mg : Str → Option Value) (C : Addr) (x : Str) (fs : List Str) : Prop where
  m : mg x = some (.ref C)
  cl : Cls K C
  na : ∀ (i : Nat) f, fs[i]? = some f → NoAttr K C f
structure MethAt (K : PySem.W.Frag) (C : Addr) (m q : Str) (st : Stmt) (ps : List Str) (f : Addr) (fd : FuncData) : Prop where
  F : Fun K m q st f fd
  M : Meth K C m f
  b : Binds K fd ps []
def CalledM (P : Program) (w : World) (K : PySem.W.Frag) (mg : Str → Option Value) (base : Heap) (k : Nat) (C : Addr) (m : Str) (ps : List Str) (S : DSp) : Prop :=
  ∃ f fd, Meth K C m f ∧ Binds K fd ps [] ∧ FnOk P w K mg base CX0 k f fd ps (toSp K S)
theorem MethAt.called {P : Program} {w : World} {K : PySem.W.Frag} {mg : Str → Option Value} {base : Heap} {k : Nat} {C : Addr} {m q : Str} {st : Stmt} {ps : List Str} {f : Addr} {fd : FuncData} {S : DSp} (D : MethAt K C m q st ps f fd) (F : FnOk P w K mg base CX0 k f fd ps (toSp K S)) : CalledM P w K mg base k C m ps S := ⟨f, fd, D.M, D.b, F⟩
/-- C(..) with its __init__ -/
def Made (P : Program) (w : World) (K : PySem.W.Frag) (mg : Str → Option Value) (base : Heap) (k : Nat) (C : Addr) (ps : List Str) (S : DSp) : Prop :=
  ∃ f fd, Mk K C f ∧ Binds K fd ps [] ∧ FnOk P w K mg base CX0 k f fd ps (toSp K S)
section
variable {X : Cx} {pos : Pos} {C : Addr}
/-! o.f -/
def dFld (C : Addr) (f : Str) (T : TDE) : TDE := fun ρ μ Q => T ρ μ fun d μ1 => oF C (vw μ1 d) fun fs => oS (fget fs f) fun v => Q v μ1
@[simp ↓] theorem dFld_p {f : Str} {T : TDE} {ρ} {μ} {Q} : dFld C f T ρ μ Q = (T ρ μ fun d μ1 => oF C (vw μ1 d) fun fs => oS (fget fs f) fun v => Q v μ1) := id rfl
theorem de_fld {e : Expr} {te : TE} {T : TDE} {f : Str} (cl : Cls X.K C) (na : NoAttr X.K C f) (h : DE X B e te T) (hb : attributeBase e f X.env (eval e X.env) = eval e X.env := by rfl) : DE X B (.Attribute e f pos) (tFld X.K te f) (dFld C f T) :=
  ⟨pe_fld h.pe hb, fun ρ μ σ H G Q Qn S q hd => h.ref ρ μ σ H G _ _ S q fun d μ1 v H1 G1 g1 S1 r1 q1 => by
    obtain ⟨a, dx, vs, fs, rfl, h1, rr, _, q2⟩ := oF_go q1 S1.hold r1
    rw [oS_eq] at q2
    obtain ⟨x, e, q3⟩ := q2
    obtain ⟨v, l, rv⟩ := (rr.fget f).1 x e
    exact ⟨a, C, dx, vs, v, rfl, h1, cl, na, l, (hd.mono g1).now S1 rv q3⟩⟩
/-! o.f = e -/
def insS (C : Addr) (d : D) (μ : Mu) (P : Addr → List (Str × D) → Prop) : Prop := pS d fun a => match μ a with | some (.ins C' fs) => C' = C ∧ P a fs | _ => False
@[simp ↓] theorem insS_p {a : Addr} {μ : Mu} {P : Addr → List (Str × D) → Prop} : insS C (.ptr a) μ P = (match μ a with | some (.ins C' fs) => C' = C ∧ P a fs | _ => False) := id rfl
theorem insS_go {K : PySem.W.Frag} {G : Gh} {μ : Mu} {H : Hp} {v : V} {d : D} {P : Addr → List (Str × D) → Prop} (h : insS C d μ P) (S : Hold K G μ H) (r : Rep K G v d) : ∃ a dx vs fs, v = .ref a ∧ d = .ptr a ∧ H a = some (.ins C dx vs) ∧ FReps K G vs fs ∧ μ a = some (.ins C fs) ∧ P a fs := by
  cases d with
  | ptr a =>
    cases r
    rw [insS_p] at h
    split at h
    · next C' fs e =>
      obtain ⟨rfl, p⟩ := h
      obtain ⟨_, o, y, z⟩ := S.cell a _ e
      obtain ⟨dx, vs, rfl, z2⟩ := cellR_ins z
      exact ⟨a, dx, vs, fs, rfl, rfl, y, z2, e, p⟩
    · exact h.elim
  | _ => exact False.elim h
def dsFld (C : Addr) (f : Str) (To Te : TDE) : TDS := fun E ρ μ => Te ρ μ fun y μ1 => To ρ μ1 fun o μ2 => insS C o μ2 fun a fs => fs.length < 1000 ∧ E.nx ρ (mup μ2 a (.ins C (fput f y fs)))
@[simp ↓] theorem dsFld_p {f : Str} {To Te : TDE} {E} {ρ} {μ} : dsFld C f To Te E ρ μ = (Te ρ μ fun y μ1 => To ρ μ1 fun o μ2 => insS C o μ2 fun a fs => fs.length < 1000 ∧ E.nx ρ (mup μ2 a (.ins C (fput f y fs)))) := id rfl
theorem ds_fld {o e : Expr} {f : Str} {to te : TE} {To Te : TDE} {p' : Pos} (cl : Cls X.K C) (na : NoAttr X.K C f) (ho : DE X B o to To) (he : DE X B e te Te) (hs : swapsWith e (some (.Attribute o f p')) pos.line X.env = pure false := by rfl) :
    DS X B (.Assign [.Attribute o f p'] e pos) (sFld X.K to te f) (dsFld C f To Te) :=
  ⟨ps_fld ho.pe he.pe hs, fun ρ μ σ H G E Dn S h hd => he.ref ρ μ σ H G _ _ S h fun y μ1 v H1 G1 g1 S1 r1 q1 => ho.ref ρ μ1 σ H1 G1 _ _ S1 q1 fun o' μ2 ov H2 G2 g2 S2 r2 q2 => by
    obtain ⟨a, dx, vs, fs, rfl, rfl, h1, rr, e1, l, q3⟩ := insS_go q2 S2.hold r2
    exact ⟨a, C, dx, vs, rfl, h1, cl, na, by rw [rr.len]; exact l, hd.nx ρ _ σ _ G2 (g1.trans g2) (S2.cellSet e1 (show CellR X.K G2 (.ins C dx (putF f v vs)) (.ins C (fput f y fs)) from ⟨rfl, rr.fput f (r1.mono g2)⟩)) q3⟩⟩
/-! calls of methods, properties -/
variable {CX : CXT} {k : Nat} {f : Addr} {fd : FuncData} {ps : List Str} {Sp : DSp} {m : Str} {o e : Expr} {es : List Expr} {to : TE} {To : TDE} {t : TA} {T : TDA} {apos : Pos} {p : Pos} {x : Str}
def dMeth (C : Addr) (m : Str) (Sp : DSp) (To : TDE) (T : TDA) : TDE := fun ρ μ Q => To ρ μ fun o μ1 => oF C (vw μ1 o) fun fs => fget fs m = none ∧ T ρ μ1 fun ds μ2 => Sp (o :: ds) μ2 Q noX
@[simp ↓] theorem dMeth_p {To : TDE} {T : TDA} {ρ} {μ} {Q} : dMeth C m Sp To T ρ μ Q = (To ρ μ fun o μ1 => oF C (vw μ1 o) fun fs => fget fs m = none ∧ T ρ μ1 fun ds μ2 => Sp (o :: ds) μ2 Q noX) := id rfl
theorem ref_meth {K : PySem.W.Frag} (ho : RefE K B To to) (ha : RefA K B T t) : RefE K B (dMeth C m Sp To T) (tMeth C m (toSp K Sp) [] E0 to t) := fun ρ μ σ H G Q Qn S q hd => ho ρ μ σ H G _ _ S q fun d μ1 v H1 G1 g1 S1 r1 q1 => by
  obtain ⟨a, dx, vs, fs, rfl, h1, rr, _, l, q2⟩ := oF_go q1 S1.hold r1
  refine ⟨a, dx, vs, rfl, h1, (rr.fget m).2 l, ha ρ μ1 σ H1 G1 _ _ S1 q2 fun ds μ2 ws H2 G2 g2 S2 r2 q3 => ?_⟩
  refine ⟨G2, d :: ds, μ2, Q, noX, S2.hold, by rw [List.append_nil]; exact Reps.cons (r1.mono g2) r2, q3, fun d' μ' v' H' G' g' h' r' q' => hd d' μ' v' H' G' ((g1.trans g2).trans g') ⟨h', S2.env.mono g'⟩ r' q', fun _ _ _ _ _ _ _ _ _ z => z.elim⟩
theorem de_meth {pl : Sem Bool} (cl : Cls X.K C) (hm : Meth X.K C m f) (F : FnOk X.prog X.w X.K X.mg X.base CX0 k f fd ps (toSp X.K Sp)) (hr : Room k X.A) (hb : Binds X.K fd ps []) (ho : DE X B o to To) (ha : DA X B (e :: es) t T)
    (hst : starEach (e :: es) X.env = (false, eval e X.env) :: starEach es X.env := by rfl) (hpl : (backTo pos (starEach es X.env)).any (·.1) = false := by rfl)
    (ht : eval (.Call (.Attribute o m apos) (e :: es) [] pos) X.env = (do
      let ov ← eval o X.env
      standAt apos.atName
      let (f, first) ← holding [ov] (getMethod ov m pl)
      callWith pos f first (backTo pos (starEach (e :: es) X.env)) (backToKw pos (keywordEach [] X.env))) := by rfl) :
    DE X B (.Call (.Attribute o m apos) (e :: es) [] pos) (tMeth C m (toSp X.K Sp) [] E0 to t) (dMeth C m Sp To T) := ⟨pe_meth ho.pe cl hm F hr hb .nil pass0 ha.pa hst hpl ht, ref_meth ho.ref ha.ref⟩
theorem de_meth0 {pl : Sem Bool} (cl : Cls X.K C) (hm : Meth X.K C m f) (F : FnOk X.prog X.w X.K X.mg X.base CX0 k f fd ps (toSp X.K Sp)) (hr : Room k X.A) (hb : Binds X.K fd ps []) (ho : DE X B o to To)
    (ht : eval (.Call (.Attribute o m apos) [] [] pos) X.env = (do
      let ov ← eval o X.env
      standAt apos.atName
      let (f, first) ← holding [ov] (getMethod ov m pl)
      callWith pos f first (backTo pos (starEach [] X.env)) (backToKw pos (keywordEach [] X.env))) := by rfl) :
    DE X B (.Call (.Attribute o m apos) [] [] pos) (tMeth C m (toSp X.K Sp) [] E0 to tNil) (dMeth C m Sp To dNil) := ⟨pe_meth0 ho.pe cl hm F hr hb .nil pass0 ht, ref_meth ho.ref da_nil.ref⟩
def dProp (C : Addr) (Sp : DSp) (To : TDE) : TDE := fun ρ μ Q => To ρ μ fun o μ1 => oF C (vw μ1 o) fun _ => Sp [o] μ1 Q noX
@[simp ↓] theorem dProp_p {To : TDE} {ρ} {μ} {Q} : dProp C Sp To ρ μ Q = (To ρ μ fun o μ1 => oF C (vw μ1 o) fun _ => Sp [o] μ1 Q noX) := id rfl
theorem de_prop {pr : Addr} (cl : Cls X.K C) (hp : PropOf X.K C m pr f) (F : FnOk X.prog X.w X.K X.mg X.base CX0 k f fd ps (toSp X.K Sp)) (hr : Room (k + 1) X.A) (hb : Binds X.K fd ps []) (ho : DE X B o to To) (hab : attributeBase o m X.env (eval o X.env) = eval o X.env := by rfl) :
    DE X B (.Attribute o m pos) (tProp C (toSp X.K Sp) [] E0 to) (dProp C Sp To) := ⟨pe_prop ho.pe cl hp F hr hb .nil pass0 hab, fun ρ μ σ H G Q Qn S q hd => ho.ref ρ μ σ H G _ _ S q fun d μ1 v H1 G1 g1 S1 r1 q1 => by
  obtain ⟨a, dx, vs, fs, rfl, h1, rr, _, q2⟩ := oF_go q1 S1.hold r1
  exact ⟨a, dx, vs, rfl, h1, G1, [d], μ1, Q, noX, S1.hold, Reps.one r1, q2, fun d' μ' v' H' G' g' h' r' q' => hd d' μ' v' H' G' (g1.trans g') ⟨h', S1.env.mono g'⟩ r' q', fun _ _ _ _ _ _ _ _ _ z => z.elim⟩⟩
/-! C(..) -/
def dMake (C : Addr) (Sp : DSp) (T : TDA) : TDE := fun ρ μ Q => T ρ μ fun ds μ1 => ∀ x, μ1 x = none → Sp (.ptr x :: ds) (mup μ1 x (.ins C [])) (fun v μ2 => v = .non ∧ Q (.ptr x) μ2) noX
@[simp ↓] theorem dMake_p {T : TDA} {ρ} {μ} {Q} : dMake C Sp T ρ μ Q = (T ρ μ fun ds μ1 => ∀ x, μ1 x = none → Sp (.ptr x :: ds) (mup μ1 x (.ins C [])) (fun v μ2 => v = .non ∧ Q (.ptr x) μ2) noX) := id rfl
theorem ref_make {K : PySem.W.Frag} (ha : RefA K B T t) : RefE K B (dMake C Sp T) (tMake C (toSp K Sp) [] E0 t) := fun ρ μ σ H G Q Qn S q hd => ha ρ μ σ H G _ _ S q fun ds μ1 vs H1 G1 g1 S1 r1 q1 => by
  intro x dx nx ndx ne
  have e1 : Ext H1 (upd H1 dx (.own x)) := Ext.new ndx
  have nx2 : (upd H1 dx (.own x)) x = none := by rw [upd_ne (Ne.symm ne)]; exact nx
  have h2 : Hold K G1 (mup μ1 x (.ins C [])) (upd (upd H1 dx (.own x)) x (.ins C dx [])) := (S1.hold.ext e1).cellNew nx2 (show CellR K G1 (.ins C dx []) (.ins C []) from ⟨rfl, FReps.nil⟩)
  refine ⟨G1, .ptr x :: ds, mup μ1 x (.ins C []), fun v μ2 => v = .non ∧ Q (.ptr x) μ2, noX, h2, by rw [List.append_nil]; exact Reps.cons (.ptr x) r1, q1 x (S1.hold.free nx).2.1, fun d' μ' v' H' G' g' h' r' q' => ?_, fun _ _ _ _ _ _ _ _ _ z => z.elim⟩
  obtain ⟨rfl, q'⟩ := q'
  exact ⟨r'.ofNon, hd (.ptr x) μ' (.ref x) H' G' (g1.trans g') ⟨h', S1.env.mono g'⟩ (.ptr x) q'⟩
theorem de_make (M : Mk X.K C f) (F : FnOk X.prog X.w X.K X.mg X.base CX0 k f fd ps (toSp X.K Sp)) (hr : Room (k + 1) X.A) (hb : Binds X.K fd ps []) (hm : X.mg x = some (.ref C)) (ha : DA X B (e :: es) t T) (hg : Gl X x := by rfl)
    (hdb : (x == ("__debug__" : Str)) = false := by decide) (he : starEach (e :: es) X.env = (false, eval e X.env) :: starEach es X.env := by rfl) (hpl : (backTo pos (starEach es X.env)).any (·.1) = false := by rfl) :
    DE X B (.Call (.Name x p) (e :: es) [] pos) (tMake C (toSp X.K Sp) [] E0 t) (dMake C Sp T) := ⟨pe_make M F hr hg hm hb .nil pass0 ha.pa hdb he hpl, ref_make ha.ref⟩
theorem de_make0 (M : Mk X.K C f) (F : FnOk X.prog X.w X.K X.mg X.base CX0 k f fd ps (toSp X.K Sp)) (hr : Room (k + 1) X.A) (hb : Binds X.K fd ps []) (hm : X.mg x = some (.ref C)) (hg : Gl X x := by rfl)
    (hdb : (x == ("__debug__" : Str)) = false := by decide) : DE X B (.Call (.Name x p) [] [] pos) (tMake C (toSp X.K Sp) [] E0 tNil) (dMake C Sp dNil) := ⟨pe_make0 M F hr hg hm hb .nil pass0 hdb, ref_make da_nil.ref⟩
/-! xs * k -/
def opRep (c : Bool) : R2D := fun x y μ Q => match y with
  | .int k => lS (vw μ x) fun xs => (-(2 ^ 63) ≤ k ∧ k < 2 ^ 63) ∧ xs.length * k.toNat ≤ sizeLine ∧ mkL c (List.replicate k.toNat xs).flatten μ Q
  | _ => False
@[simp ↓] theorem opRep_p {c : Bool} {x : D} {k : Int} {μ : Mu} {Q : QD} : opRep c x (.int k) μ Q = (lS (vw μ x) fun xs => (-(2 ^ 63) ≤ k ∧ k < 2 ^ 63) ∧ xs.length * k.toNat ≤ sizeLine ∧ mkL c (List.replicate k.toNat xs).flatten μ Q) := id rfl
theorem Reps.rep {K : PySem.W.Frag} {G : Gh} {vs : List V} {xs : List D} (r : Reps K G vs xs) : ∀ n : Nat, Reps K G (List.replicate n vs).flatten (List.replicate n xs).flatten
  | 0 => Reps.nil
  | n + 1 => by rw [List.replicate_succ, List.replicate_succ, List.flatten_cons, List.flatten_cons]; exact r.append (Reps.rep r n)
theorem do_rep (c : Bool) : OpR X (binaryOp .Mult) rRep ∧ Ref2 X.K B (opRep c) rRep := by
  refine ⟨op_rep, ?_⟩
  intro ρ μ σ H G x y dx dy Q Qn S r1 r2 h hd
  cases dy with
  | int k =>
    cases r2
    rw [opRep_p, lS_eq] at h
    obtain ⟨xs, e, ⟨b1, b2⟩, l, q⟩ := h
    obtain ⟨a, vs, rfl, h1, rr⟩ := S.hold.lst r1 e
    exact ⟨a, k, vs, rfl, rfl, h1, b1, b2, by rw [rr.1]; exact l, fun p n => mkL_go q S (rr.rep _) hd n⟩
  | _ => exact False.elim h
end
end DL

/-! DLF: data seen through the store to a depth. -/
namespace DL
open PySem PySem.Spec PyProof.Rows L2
def dvs (f : D → Option D) : List D → Option (List D)
  | [] => some []
  | x :: r => match f x, dvs f r with
    | some a, some b => some (a :: b)
    | _, _ => none
theorem dvs_cons {f : D → Option D} {x a : D} {r b : List D} (h : f x = some a) (h2 : dvs f r = some b) : dvs f (x :: r) = some (a :: b) := by simp [dvs, h, h2]
theorem dvs_len {f : D → Option D} : ∀ {xs ys : List D}, dvs f xs = some ys → xs.length = ys.length
  | [], ys, h => by cases h; rfl
  | x :: r, ys, h => by
    simp only [dvs] at h
    split at h
    · next a b e1 e2 => cases h; simp [dvs_len e2]
    · cases h
theorem dvs_get {f : D → Option D} : ∀ {xs ys : List D}, dvs f xs = some ys → ∀ (i : Nat) x, xs[i]? = some x → ∃ y, f x = some y ∧ ys[i]? = some y
  | [], ys, h, i, x, e => by simp at e
  | x :: r, ys, h, i, z, e => by
    simp only [dvs] at h
    split at h
    · next a b e1 e2 =>
      cases h
      cases i with
      | zero => simp at e; subst e; exact ⟨a, e1, rfl⟩
      | succ i => exact dvs_get e2 i z (by simpa using e)
    · cases h
theorem dvs_of {f : D → Option D} : ∀ {xs ys : List D}, xs.length = ys.length → (∀ (i : Nat) x y, xs[i]? = some x → ys[i]? = some y → f x = some y) → dvs f xs = some ys
  | [], [], _, _ => rfl
  | x :: r, y :: s, l, h => dvs_cons (h 0 x y rfl rfl) (dvs_of (by simpa using l) fun i a b e1 e2 => h (i + 1) a b (by simpa using e1) (by simpa using e2))
theorem dvs_app {f : D → Option D} : ∀ {xs ys us vs : List D}, dvs f xs = some us → dvs f ys = some vs → dvs f (xs ++ ys) = some (us ++ vs)
  | [], ys, us, vs, h, h2 => by cases h; exact h2
  | x :: r, ys, us, vs, h, h2 => by
    simp only [dvs] at h
    split at h
    · next a b e1 e2 => cases h; exact dvs_cons e1 (dvs_app e2 h2)
    · cases h
theorem dvs_id {f : D → Option D} {xs : List D} (h : ∀ x ∈ xs, f x = some x) : dvs f xs = some xs := by
  induction xs with
  | nil => rfl
  | cons x r ih => exact dvs_cons (h x List.mem_cons_self) (ih fun y hy => h y (List.mem_cons_of_mem _ hy))
theorem dvs_mono {f g : D → Option D} : ∀ {xs ys : List D}, dvs f xs = some ys → (∀ x ∈ xs, ∀ y, f x = some y → g x = some y) → dvs g xs = some ys
  | [], ys, h, _ => by cases h; rfl
  | x :: r, ys, h, k => by
    simp only [dvs] at h
    split at h
    · next a b e1 e2 => cases h; exact dvs_cons (k x List.mem_cons_self a e1) (dvs_mono e2 fun z hz => k z (List.mem_cons_of_mem _ hz))
    · cases h
def atomO : D → Option D
  | .non => some .non | .bl b => some (.bl b) | .int i => some (.int i) | .str s => some (.str s) | _ => none
def dview (μ : Mu) : Nat → D → Option D
  | 0, d => atomO d
  | n + 1, d => match vw μ d with
    | .lst xs => if xs.length ≤ 16000000 then (dvs (dview μ n) xs).map .lst else none
    | .tup xs => if xs.length ≤ 16000000 then (dvs (dview μ n) xs).map .tup else none
    | v => atomO v
theorem atomO_vw {μ : Mu} {d t : D} (h : atomO d = some t) : vw μ d = d := by cases d <;> first | rfl | cases h
theorem dview_cases {μ : Mu} {n : Nat} {x t : D} (h : dview μ n x = some t) : (t = .non ∧ vw μ x = .non) ∨ (∃ b, t = .bl b ∧ vw μ x = .bl b) ∨ (∃ b, t = .int b ∧ vw μ x = .int b) ∨ (∃ b, t = .str b ∧ vw μ x = .str b) ∨
    (∃ m xs ys, n = m + 1 ∧ t = .lst ys ∧ vw μ x = .lst xs ∧ xs.length ≤ 16000000 ∧ dvs (dview μ m) xs = some ys) ∨ (∃ m xs ys, n = m + 1 ∧ t = .tup ys ∧ vw μ x = .tup xs ∧ xs.length ≤ 16000000 ∧ dvs (dview μ m) xs = some ys) := by
  have atom : ∀ {v : D}, atomO v = some t → (t = .non ∧ v = .non) ∨ (∃ b, t = .bl b ∧ v = .bl b) ∨ (∃ b, t = .int b ∧ v = .int b) ∨ (∃ b, t = .str b ∧ v = .str b) := by
    intro v hv
    cases v <;> simp [atomO] at hv <;> subst hv <;> simp
  cases n with
  | zero =>
    have h' : atomO x = some t := h
    have e := atomO_vw (μ := μ) h'
    rw [e]
    rcases atom h' with h | h | h | h
    · exact .inl h
    · exact .inr (.inl h)
    · exact .inr (.inr (.inl h))
    · exact .inr (.inr (.inr (.inl h)))
  | succ m =>
    unfold dview at h
    split at h
    · next xs e =>
      split at h
      · next l =>
        rw [Option.map_eq_some_iff] at h
        obtain ⟨ys, h, rfl⟩ := h
        exact .inr (.inr (.inr (.inr (.inl ⟨m, xs, ys, rfl, rfl, e, l, h⟩))))
      · cases h
    · next xs e =>
      split at h
      · next l =>
        rw [Option.map_eq_some_iff] at h
        obtain ⟨ys, h, rfl⟩ := h
        exact .inr (.inr (.inr (.inr (.inr ⟨m, xs, ys, rfl, rfl, e, l, h⟩))))
      · cases h
    · rcases atom h with h | h | h | h
      · exact .inl h
      · exact .inr (.inl h)
      · exact .inr (.inr (.inl h))
      · exact .inr (.inr (.inr (.inl h)))
theorem dview_lst {μ : Mu} {n : Nat} {d : D} {xs ys : List D} (e : vw μ d = .lst xs) (l : xs.length ≤ 16000000) (h : dvs (dview μ n) xs = some ys) : dview μ (n + 1) d = some (.lst ys) := by
  unfold dview; rw [e]; simp [l, h]
theorem dview_tup {μ : Mu} {n : Nat} {d : D} {xs ys : List D} (e : vw μ d = .tup xs) (l : xs.length ≤ 16000000) (h : dvs (dview μ n) xs = some ys) : dview μ (n + 1) d = some (.tup ys) := by
  unfold dview; rw [e]; simp [l, h]
theorem dview_atom {μ : Mu} {n : Nat} {d : D} (h : atomD d) : dview μ n d = some d := by
  cases n <;> cases d <;> first | rfl | exact h.elim
@[simp] theorem dview_non {μ : Mu} {n : Nat} : dview μ n .non = some .non := dview_atom trivial
@[simp] theorem dview_bl {μ : Mu} {n : Nat} {b : Bool} : dview μ n (.bl b) = some (.bl b) := dview_atom trivial
@[simp] theorem dview_int {μ : Mu} {n : Nat} {b : Int} : dview μ n (.int b) = some (.int b) := dview_atom trivial
@[simp] theorem dview_str {μ : Mu} {n : Nat} {b : Str} : dview μ n (.str b) = some (.str b) := dview_atom trivial
theorem dview_pure {μ : Mu} {n : Nat} {d : D} (h : Pd n d) : dview μ n d = some d := by
  induction n generalizing d with
  | zero => exact dview_atom h
  | succ n ih =>
    rcases h with h | ⟨xs, rfl | rfl, l, h⟩
    · exact dview_atom h
    · exact dview_lst rfl l (dvs_id fun x hx => ih (h x hx))
    · exact dview_tup rfl l (dvs_id fun x hx => ih (h x hx))
theorem dview_up {μ : Mu} {n : Nat} {d t : D} (h : dview μ n d = some t) : dview μ (n + 1) d = some t := by
  induction n generalizing d t with
  | zero =>
    have h' : atomO d = some t := h
    cases d <;> first | exact h' | cases h'
  | succ n ih =>
    rcases dview_cases h with ⟨rfl, e⟩ | ⟨b, rfl, e⟩ | ⟨b, rfl, e⟩ | ⟨b, rfl, e⟩ | ⟨m, xs, ys, e0, rfl, e, l, k⟩ | ⟨m, xs, ys, e0, rfl, e, l, k⟩
    · unfold dview; rw [e]; rfl
    · unfold dview; rw [e]; rfl
    · unfold dview; rw [e]; rfl
    · unfold dview; rw [e]; rfl
    · cases e0; exact dview_lst e l (dvs_mono k fun x _ y hy => ih hy)
    · cases e0; exact dview_tup e l (dvs_mono k fun x _ y hy => ih hy)
theorem dview_le {μ : Mu} {n m : Nat} {d t : D} (h : dview μ n d = some t) (l : n ≤ m) : dview μ m d = some t := by
  induction m with
  | zero => cases Nat.le_zero.mp l; exact h
  | succ m ih =>
    by_cases e : n = m + 1
    · subst e; exact h
    · exact dview_up (ih (by omega))
theorem Pd.le {n m : Nat} {d : D} (h : Pd n d) (l : n ≤ m) : Pd m d := by
  induction m with
  | zero => cases Nat.le_zero.mp l; exact h
  | succ m ih =>
    by_cases e : n = m + 1
    · subst e; exact h
    · exact (ih (by omega)).up
/-- what is seen is plain -/
theorem dview_Pd {μ : Mu} {n : Nat} {d t : D} (h : dview μ n d = some t) : Pd n t := by
  induction n generalizing d t with
  | zero =>
    have h' : atomO d = some t := h
    cases d <;> simp [atomO] at h' <;> subst h' <;> exact trivial
  | succ n ih =>
    rcases dview_cases h with ⟨rfl, e⟩ | ⟨b, rfl, e⟩ | ⟨b, rfl, e⟩ | ⟨b, rfl, e⟩ | ⟨m, xs, ys, e0, rfl, e, l, k⟩ | ⟨m, xs, ys, e0, rfl, e, l, k⟩
    · exact .inl trivial
    · exact .inl trivial
    · exact .inl trivial
    · exact .inl trivial
    · cases e0
      refine .inr ⟨ys, .inl rfl, by rw [← dvs_len k]; exact l, fun y hy => ?_⟩
      obtain ⟨i, hi, rfl⟩ := List.getElem_of_mem hy
      have hx : i < xs.length := by rw [dvs_len k]; exact hi
      obtain ⟨y, f1, f2⟩ := dvs_get k i xs[i] (List.getElem?_eq_getElem hx)
      rw [List.getElem?_eq_getElem hi] at f2; cases f2
      exact ih f1
    · cases e0
      refine .inr ⟨ys, .inr rfl, by rw [← dvs_len k]; exact l, fun y hy => ?_⟩
      obtain ⟨i, hi, rfl⟩ := List.getElem_of_mem hy
      have hx : i < xs.length := by rw [dvs_len k]; exact hi
      obtain ⟨y, f1, f2⟩ := dvs_get k i xs[i] (List.getElem?_eq_getElem hx)
      rw [List.getElem?_eq_getElem hi] at f2; cases f2
      exact ih f1
/-- lists of plain data that are seen as such -/
theorem Pd_lst {n : Nat} {xs : List D} (l : xs.length ≤ 16000000) (h : ∀ x ∈ xs, Pd n x) : Pd (n + 1) (.lst xs) := .inr ⟨xs, .inl rfl, l, h⟩
theorem Pd_tup {n : Nat} {xs : List D} (l : xs.length ≤ 16000000) (h : ∀ x ∈ xs, Pd n x) : Pd (n + 1) (.tup xs) := .inr ⟨xs, .inr rfl, l, h⟩
@[simp] theorem Pd_str' {n : Nat} {s : Str} : Pd n (.str s) := by cases n <;> simp [Pd, atomD]
@[simp] theorem Pd_int' {n : Nat} {s : Int} : Pd n (.int s) := by cases n <;> simp [Pd, atomD]
@[simp] theorem Pd_bl' {n : Nat} {s : Bool} : Pd n (.bl s) := by cases n <;> simp [Pd, atomD]
@[simp] theorem Pd_non' {n : Nat} : Pd n .non := by cases n <;> simp [Pd, atomD]
/-- the law's own comparison of data -/
def sp_same (n : Nat) : DSp := fun ds μ Q _ => ∃ x y a b, ds = [x, y] ∧ dview μ n x = some a ∧ dview μ n y = some b ∧ Q (.bl (eqD a b)) μ
def sp_row (n : Nat) : DSp := fun ds μ Q _ => ∃ x y xs ys as bs, ds = [x, y] ∧ ((vw μ x = .lst xs ∧ vw μ y = .lst ys) ∨ (vw μ x = .tup xs ∧ vw μ y = .tup ys)) ∧ xs.length ≤ 16000000 ∧ ys.length ≤ 16000000 ∧ dvs (dview μ n) xs = some as ∧ dvs (dview μ n) ys = some bs ∧ Q (.bl (eqD (.lst as) (.lst bs))) μ
def sp_rowN : Nat → DSp
  | 0 => fun _ _ _ _ => False
  | n + 1 => sp_row n
theorem len_row (n : Nat) : ∀ ds μ Q E, sp_row n ds μ Q E → ds.length = 2 := by
  rintro ds μ Q E ⟨x, y, xs, ys, as, bs, rfl, _⟩; rfl
theorem len_same (n : Nat) : ∀ ds μ Q E, sp_same n ds μ Q E → ds.length = 2 := by
  rintro ds μ Q E ⟨x, y, a, b, rfl, _⟩; rfl
@[simp ↓] theorem e_same {n : Nat} {x y : D} {μ : Mu} {Q : QD} {E : XDt} : sp_same n [x, y] μ Q E = (oS (dview μ n x) fun a => oS (dview μ n y) fun b => Q (.bl (eqD a b)) μ) := by
  simp only [sp_same, List.cons.injEq, and_true, and_assoc, exists_and_left, exists_eq_left', oS_eq]
@[simp ↓] theorem e_draw {sz : Int} {μ : Mu} {Q : QD} {E : XDt} : sp_draw [.src, .int sz] μ Q E = (0 < sz ∧ sz < 1073741824 ∧ ∀ n, 0 ≤ n → n < sz → Q (.int n) μ) := by
  simp only [sp_draw, List.cons.injEq, D.int.injEq, true_and, and_true, exists_eq_left']
end DL

/-! DLG: counters in a one-item list (rooms), walks over a cell that stays. -/
namespace DL
open PySem PySem.Spec PyProof.Rows L2
section
variable {K : PySem.W.Frag} {G : Gh} {μ : Mu} {H : Hp} {ρ : DR} {σ : St} {a p : Addr}
theorem Hold.roomSet (h : Hold K G μ H) (m : a ∈ G.rooms) (n : Int) : Hold K G μ (upd H a (.lst [.int n])) := by
  obtain ⟨f1, f2, f3, _⟩ := h.rooms a m
  refine ⟨h.fr.mut f1, fun b c q => ?_, fun b q => ?_, fun b q => ?_⟩
  · obtain ⟨x, o, y, z⟩ := h.cell b c q
    have ne : b ≠ a := fun e => by rw [e, f2] at q; cases q
    exact ⟨x, o, (upd_ne ne).trans y, z⟩
  · obtain ⟨x, y, z⟩ := h.src b q
    have ne : b ≠ a := fun e => f3 (e ▸ q)
    exact ⟨x, y, z.mono (Ext.refl _) fun o q => (upd_ne ne).trans q⟩
  · obtain ⟨x, y, z, k, w⟩ := h.rooms b q
    by_cases e : b = a
    · subst e; exact ⟨x, y, z, n, upd_same⟩
    · exact ⟨x, y, z, k, (upd_ne e).trans w⟩
theorem Sat.roomNew (S : Sat K B G ρ μ σ H) (n : H p = none) (k : Int) : ∃ G', Gle G G' ∧ Sat K B G' ρ μ σ (upd H p (.lst [.int k])) ∧ p ∈ G'.rooms := by
  obtain ⟨f1, f2, f3, f4⟩ := S.hold.free n
  have g : Gle G { G with rooms := p :: G.rooms } := ⟨Ext.refl _, fun _ h => h, fun _ h => List.mem_cons_of_mem _ h⟩
  refine ⟨_, g, ⟨?_, S.env.mono g⟩, List.mem_cons_self⟩
  refine ⟨S.hold.fr.trans (Ext.new n), fun b c q => ?_, fun b q => ?_, fun b q => ?_⟩
  · obtain ⟨x, o, y, z⟩ := S.hold.cell b c q
    have ne : b ≠ p := fun e => by rw [e, f2] at q; cases q
    exact ⟨x, o, (upd_ne ne).trans y, z.mono g⟩
  · obtain ⟨x, y, z⟩ := S.hold.src b q
    have ne : b ≠ p := fun e => f3 (e ▸ q)
    exact ⟨x, y, z.mono (Ext.refl _) fun o q => (upd_ne ne).trans q⟩
  · by_cases e : b = p
    · subst e; exact ⟨f1, f2, f3, k, upd_same⟩
    · obtain ⟨x, y, z, j, w⟩ := S.hold.rooms b ((List.mem_cons.mp q).resolve_left e)
      exact ⟨x, y, z, j, (upd_ne e).trans w⟩
end
section
variable {X : Cx} {pos : Pos} {a b : Expr} {ta tb : TE} {Ta Tb : TDE}
/-- room[0] -/
def opIxR : R2D := fun x y μ Q => match x, y with
  | .room, .int 0 => ∀ n : Int, Q (.int n) μ
  | _, _ => False
@[simp ↓] theorem opIxR_p {μ : Mu} {Q : QD} : opIxR .room (.int 0) μ Q = (∀ n : Int, Q (.int n) μ) := id rfl
theorem ref_ixR : Ref2 X.K B opIxR (rIx X.K) := by
  intro ρ μ σ H G x y dx dy Q Qn S r1 r2 h hd
  unfold opIxR at h
  split at h
  · cases r2
    cases r1 with
    | room m =>
      obtain ⟨_, _, _, n, w⟩ := S.hold.rooms _ m
      exact .inl ⟨_, _, 0, _, rfl, rfl, SqL.of w, rfl, hd.now S (.int n) (h n)⟩
  · exact h.elim
theorem de_ixR (ha : DE X B a ta Ta) (hb : DE X B b tb Tb) (hs : PlainIx b := by exact fun _ _ => rfl) : DE X B (.Subscript a b pos) (tOp (rIx X.K) ta tb) (dOp opIxR Ta Tb) := ⟨pe_ix ix_seq ha.pe hb.pe hs, ref_op ref_ixR ha.ref hb.ref⟩
/-- room[0] = an int -/
def dgSubR (To Ti : TDE) : TDG := fun d ρ μ Q => To ρ μ fun o μ1 => Ti ρ μ1 fun i μ2 => match o, i, d with | .room, .int 0, .int _ => Q ρ μ2 | _, _, _ => False
@[simp ↓] theorem dgSubR_p {To Ti : TDE} {d : D} {ρ} {μ} {Q} : dgSubR To Ti d ρ μ Q = (To ρ μ fun o μ1 => Ti ρ μ1 fun i μ2 => match o, i, d with | .room, .int 0, .int _ => Q ρ μ2 | _, _, _ => False) := id rfl
theorem dg_subR {o i : Expr} {to ti : TE} {To Ti : TDE} (ho : DE X B o to To) (hi : DE X B i ti Ti) (ha : ∀ v, assign (.Subscript o i pos) X.env v = (do
      let ov ← holding [v] (eval o X.env)
      let iv ← holding [v, ov] (eval i X.env)
      standAt pos
      holding [v, ov, iv] (setItem ov iv v)
      release [v, ov, iv] []) := by intro _; rfl) : DG X B (.Subscript o i pos) (gSub to ti rSetL) (dgSubR To Ti) :=
  ⟨pg_sub ho.pe hi.pe set_list ha, fun d v ρ μ σ H G Q Qn S r h hd => ho.ref ρ μ σ H G _ _ S h fun o' μ1 ov H1 G1 g1 S1 r1 q1 => hi.ref ρ μ1 σ H1 G1 _ _ S1 q1 fun i' μ2 iv H2 G2 g2 S2 r2 q2 => by
    split at q2
    · cases r2
      cases r1 with
      | room m =>
        obtain ⟨_, _, _, n, w⟩ := S2.hold.rooms _ (g2.rooms _ m)
        have ev := r.ofInt
        subst ev
        exact ⟨_, _, 0, 0, rfl, rfl, w, rfl, hd ρ _ _ _ G2 (g1.trans g2) ⟨S2.hold.roomSet (g2.rooms _ m) _, S2.env⟩ q2⟩
    · exact q2.elim⟩
/-- [e] handed over as a room -/
def dRoom (T : TDA) : TDE := fun ρ μ Q => T ρ μ fun ds μ1 => match ds with | [.int _] => Q .room μ1 | _ => False
@[simp ↓] theorem dRoom_p {T : TDA} {ρ} {μ} {Q} : dRoom T ρ μ Q = (T ρ μ fun ds μ1 => match ds with | [.int _] => Q .room μ1 | _ => False) := id rfl
theorem de_room {es : List Expr} {t : TA} {T : TDA} (h : DA X B es t T) : DE X B (.List es pos) (tLst t) (dRoom T) :=
  ⟨pe_lst h.pa, fun ρ μ σ H G Q Qn S q hd => h.ref ρ μ σ H G _ _ S q fun ds μ1 vs H1 G1 g1 S1 r1 q1 => by
    split at q1
    · next n =>
      obtain ⟨v, rfl, rv⟩ := reps1 r1
      cases rv
      refine ⟨by show 1 ≤ sizeLine; decide, fun p np => ?_⟩
      obtain ⟨G2, g2, S2, m⟩ := S1.roomNew np n
      exact hd .room μ1 _ _ G2 (g1.trans g2) S2 (.room m) q1
    · exact q1.elim⟩
/-- the items of a cell that stays as it is -/
def iCell (T : TDE) : TDIK := fun ρ μ Q => T ρ μ fun d μ1 => pS d fun a => cS (μ1 a) fun xs => Q xs (fun μ' => μ' a = some (.lst xs)) μ1
@[simp ↓] theorem iCell_p {T : TDE} {ρ} {μ} {Q} : iCell T ρ μ Q = (T ρ μ fun d μ1 => pS d fun a => cS (μ1 a) fun xs => Q xs (fun μ' => μ' a = some (.lst xs)) μ1) := id rfl
theorem di_cell {tg e : Expr} {te : TE} {T : TDE} (h : DE X B e te T) : DIK X B tg e (iList X.K te) (iCell T) := ⟨pi_list h.pe, fun ρ μ σ H G Q R S q hd => h.ref ρ μ σ H G _ _ S q fun d μ1 v H1 G1 g1 S1 r1 q1 => by
  cases d with
  | ptr a =>
    cases r1
    have q2 : cS (μ1 a) fun xs => Q xs (fun μ' => μ' a = some (.lst xs)) μ1 := q1
    rw [cS_eq] at q2
    obtain ⟨xs, e1, q3⟩ := q2
    obtain ⟨vs0, h0, rr0⟩ := S1.hold.lstAt e1
    refine ⟨a, rfl, ⟨vs0, SqL.of h0⟩, hd xs _ μ1 _ H1 G1 g1 S1 q3 (fun n H' G' μ' g h' kp => ⟨fun hn => ?_, fun hn => ?_⟩) fun n x w H' H2 G' μ' g h' kp ex y => ?_⟩
    · obtain ⟨vs, h1, rr⟩ := h'.lstAt kp
      exact ⟨vs, vs[n]'(by rw [rr.1]; exact hn), SqL.of h1, List.getElem?_eq_getElem _⟩
    · obtain ⟨vs, h1, rr⟩ := h'.lstAt kp
      exact ⟨vs, SqL.of h1, by rw [rr.1]; exact hn⟩
    · obtain ⟨rfl, y⟩ := y
      obtain ⟨vs, h1, rr⟩ := h'.lstAt kp
      have e2 := y vs (SqL.of h1)
      exact ⟨G', Gle.refl _, h', rr.2 n w x e2 ex⟩
  | _ => exact False.elim q1⟩
/-- the items of a list, frozen or a cell that stays as it is -/
def Stays (d : D) (xs : List D) (μ : Mu) : Prop := match d with | .ptr a => μ a = some (.lst xs) | _ => True
def iAny (T : TDE) : TDIK := fun ρ μ Q => T ρ μ fun d μ1 => lS (vw μ1 d) fun xs => Q xs (Stays d xs) μ1
@[simp ↓] theorem iAny_p {T : TDE} {ρ} {μ} {Q} : iAny T ρ μ Q = (T ρ μ fun d μ1 => lS (vw μ1 d) fun xs => Q xs (Stays d xs) μ1) := id rfl
@[simp] theorem Stays_lst {xs ys : List D} {μ : Mu} : Stays (.lst xs) ys μ = True := rfl
@[simp] theorem Stays_ptr {a : Addr} {ys : List D} {μ : Mu} : Stays (.ptr a) ys μ = (μ a = some (.lst ys)) := rfl
theorem di_any {tg e : Expr} {te : TE} {T : TDE} (h : DE X B e te T) : DIK X B tg e (iList X.K te) (iAny T) := ⟨pi_list h.pe, fun ρ μ σ H G Q R S q hd => h.ref ρ μ σ H G _ _ S q fun d μ1 v H1 G1 g1 S1 r1 q1 => by
  rw [lS_eq] at q1
  obtain ⟨xs, e1, q3⟩ := q1
  obtain ⟨a, vs0, rfl, h0, rr0⟩ := S1.hold.lst r1 e1
  have key : ∀ {H' : Hp} {G' : Gh} {μ' : Mu}, Gle G1 G' → Hold X.K G' μ' H' → Stays d xs μ' → ∃ vs, H' a = some (.lst vs) ∧ Reps X.K G' vs xs := by
    intro H' G' μ' g h' kp
    cases d with
    | lst ys =>
      cases e1
      cases r1 with
      | lst hh l r => exact ⟨_, h'.fr _ _ (g.fr _ _ hh), l, fun i v d a b => (r i v d a b).mono g⟩
    | ptr b => cases r1; exact h'.lstAt kp
    | _ => cases e1
  refine ⟨a, rfl, ⟨vs0, SqL.of h0⟩, hd xs _ μ1 _ H1 G1 g1 S1 q3 (fun n H' G' μ' g h' kp => ⟨fun hn => ?_, fun hn => ?_⟩) fun n x w H' H2 G' μ' g h' kp ex y => ?_⟩
  · obtain ⟨vs, h1, rr⟩ := key g h' kp
    exact ⟨vs, vs[n]'(by rw [rr.1]; exact hn), SqL.of h1, List.getElem?_eq_getElem _⟩
  · obtain ⟨vs, h1, rr⟩ := key g h' kp
    exact ⟨vs, SqL.of h1, by rw [rr.1]; exact hn⟩
  · obtain ⟨rfl, y⟩ := y
    obtain ⟨vs, h1, rr⟩ := key g h' kp
    have e2 := y vs (SqL.of h1)
    exact ⟨G', Gle.refl _, h', rr.2 n w x e2 ex⟩⟩
end
theorem loopK_it {g : TDG} {T : TDS} {E : DEnds} {Kp : Mu → Prop} (I : List D → DR → Mu → Prop) {xs : List D} {ρ : DR} {μ : Mu} (h : I xs ρ μ) (hk : ∀ r ρ μ, I r ρ μ → Kp μ) (hn : ∀ ρ μ, I [] ρ μ → E.nx ρ μ)
    (hc : ∀ x r ρ μ (N : DR → Mu → Prop), I (x :: r) ρ μ → (∀ ρ' μ', I r ρ' μ' → N ρ' μ') → g x ρ μ fun ρ2 μ2 => T (lpE E N) ρ2 μ2) : loopK g T E Kp xs ρ μ := loopK_ind I h hk hn hc
/-- the loop is a letter while its items are found -/
theorem forK_hide {I : TDIK} {g : TDG} {T : TDS} {E : DEnds} {ρ : DR} {μ : Mu} (h : ∀ L : List D → (Mu → Prop) → DR → Mu → Prop, (∀ xs Kp ρ μ, L xs Kp ρ μ = loopK g T E Kp xs ρ μ) → I ρ μ fun xs Kp μ1 => L xs Kp ρ μ1) : dForK I g T E ρ μ := h (fun xs Kp ρ μ => loopK g T E Kp xs ρ μ) (fun _ _ _ _ => rfl)
/-- a statement that leaves all as it is, or goes out -/
theorem seq_same {T U : TDS} {E : DEnds} {ρ : DR} {μ : Mu} (h1 : ∀ N : DR → Mu → Prop, N ρ μ → T (sqE E N) ρ μ) (h2 : U E ρ μ) : dSeq T U E ρ μ := h1 _ h2
theorem frzS_mup {i : Nat} {T : TDS} {E : DEnds} {ρ : DR} {μ : Mu} {a : Addr} {xs : List D} (e : ρ[i]? = some (some (.ptr a))) (n : μ a = none) (h : T E (ρ.set i (some (.lst xs))) μ) : dFrzS i T E ρ (mup μ a (.lst xs)) := by
  unfold dFrzS
  rw [e]
  simp only [mup_same]
  rw [mdel_mup n]
  exact h
theorem frzS_at {i : Nat} {T : TDS} {E : DEnds} {ρ : DR} {μ : Mu} {a : Addr} {xs : List D} (e : ρ[i]? = some (some (.ptr a))) (n : μ a = some (.lst xs)) (h : T E (ρ.set i (some (.lst xs))) (mdel μ a)) : dFrzS i T E ρ μ := by
  unfold dFrzS
  rw [e]
  simp only [n]
  exact h
/-- a def that is never called -/
theorem dead_fn {P : Program} {w : World} {K : PySem.W.Frag} {mg : Str → Option Value} {base : Heap} {CX : CXT} {k : Nat} {f : Addr} {fd : FuncData} {ps : List Str} : FnOk P w K mg base CX k f fd ps (toSp K fun _ _ _ _ => False) := by
  refine ⟨?_, ?_⟩
  · rintro vs H Q E ⟨_, _, _, _, _, _, _, h, _⟩; exact h.elim
  · rintro _ _ _ _ _ _ vs Q E _ _ _ _ ⟨_, _, _, _, _, _, _, h, _⟩; exact h.elim
end DL

/-! DLH: own errors: an __init__ that says super().__init__('m') first. -/
namespace DL
open PySem PySem.Spec PyProof.Rows L2 NdefX

section
variable {M : Model} {prog : Program} {w : World} {A : Around} {E : Value → Shared → Prop} {h : Heap} {g : Array GenState} {d : Drawn} {t : Nat} {os : OsState}
theorem bound_init {nm q : Str} {C N : Addr} {bs bm : List Value} {hdct : Bool} {sn : List Str} {sub : List Value} {ab : Bool} {col : Option Bool} {dd : Option Addr} {k0 k1 k2 k3 k5 : Option Value} {u e t0 : Addr} {rest : List Value} {Q : Value → Shared → Prop}
    (hC : h.get? C = some (excClassObj nm q C N bs bm hdct sn sub ab col dd k0 k1 k2 k3 k5 "ValueError.__new__")) (hu : h.get? u = some (PySem.W.kxs_mw "ValueError.__init__" e)) (he : h.get? e = some (PySem.HandSPX.excO C t0)) (hrest : rest.length ≤ sizeLine)
    (hq : ∀ h' t1, (∀ b o, b ≠ e → h.get? b = some o → h'.get? b = some o) → h'.get? e = some (PySem.HandSPX.excO C t1) → Q .none ⟨h', g, d, t, os⟩) :
    wpAny (model prog w) A (call (.ref u) rest) Q E ⟨h, g, d, t, os⟩ := by
  refine wpAny_call (codeAny_of_tree ?_)
  show wpAny _ A.in1 (callAny (.ref u) ⟨rest, []⟩) _ _ _
  simp only [callAny]
  refine wpAny_bind (wpAny_load hu ?_)
  simp only [PySem.W.kxs_mw, show (Value.type "method-wrapper" == Value.type "method" || Value.type "method-wrapper" == Value.type "builtin_function_or_method" || Value.type "method-wrapper" == Value.type "method-wrapper") = true by decide, if_true]
  refine PySem.W.KFB.if_so (by decide) ?_
  refine wpAny_bind (PySem.W.check_bound_init PySem.F.excBase_ValueError.toExcCallFacts hC he rfl ?_)
  refine wpAny_bind (wpAny_pure (wpAny_pure ?_))
  refine ⟨plainId_quiet PySem.F.excBase_ValueError.init.plain _, codeAny_builtin PySem.F.excBase_ValueError.initEntry ?_⟩
  exact PySem.W.exc_init_tree (cls := .ref C) (t0 := t0) (dv := none) (c2 := .none) (c3 := .none) (b4 := .bool false) he hrest fun h' k e1 e2 => hq h' _ k e1
end

/-- what the written part says of such an __init__, at f -/
structure SupFn (P : Program) (K : PySem.W.Frag) (mg : Str → Option Value) (D : Addr) (st : Stmt) (f : Addr) (fd : FuncData) (F : NF) : Prop where
  ex : ∃ (oc : Value) (od : Option Addr) (kV doc pm ct : Value) (an : Option Addr) (osl : Array (Option Value)), fd = PySem.W.fnX F.name F.qual (defArgs st) (defBody st) (defScope st) F.cl .none kV doc pm an (.ref F.c) ct ∧ K.lookup f = some ⟨oc, od, .func fd, osl⟩
  sc : F.scope = defScope st
  cd : PySem.W.codeIn K (.ref F.c) F.qual = true
  file : ∃ (vs : Array Value) (file : Str) (tf : Tok) (ccl : Value) (cdd : Option Addr) (ccs : Array (Option Value)), K.lookup F.c = some ⟨ccl, cdd, .fields vs, ccs⟩ ∧ vs[2]? = some (.str file tf) ∧ ((P.main.file : Str) == file) = true
  cell : ∃ (cc : Addr) (cl : Value) (cld : Option Addr) (csl : Array (Option Value)), F.cl = [(("__class__" : Str), cc)] ∧ K.lookup cc = some ⟨cl, cld, .cell (some (.ref D)), csl⟩
  top : (P.main.scope.names.lookup ("super" : Str)).isSome = false
  sup : mg "super" = none
  opq : PySem.W.nsIn K cStatics "thirdparty.any" = some none
  cls : OexC K D
  ini : PySem.W.ks_superIn K D D "__init__" = some (some (.builtin "ValueError.__init__"))
  ve : PySem.W.subIn K (.ref D) (.type "ValueError") = some true

variable {P : Program} {w : World} {K : PySem.W.Frag} {mg : Str → Option Value} {base : Heap}
theorem sup_ok {CX : CXT} {D f : Addr} {st : Stmt} {fd : FuncData} {F : NF} {N ps : List Str} {k : Nat} {sp : Sp} {p0 p1 p2 p3 p4 p5 : Pos} {m : Str} {j : Nat} {rest : List Stmt} {ar : Arg} (U : SupFn P K mg D st f fd F) (S : NScope N ps ["__class__"] F.scope)
    (hbd : defBody st = .Expr (.Call (.Attribute (.Call (.Name "super" p0) [] [] p1) "__init__" p2) [.Constant (.str m) j p3] [] p4) p5 :: rest)
    (hp : ((defArgs st).posonlyargs ++ (defArgs st).args).head? = some ar) (har : ps[0]? = some ar.arg) (hks : F.scope.names.lookup ("super" : Str) = some .globalImplicit) (len : ∀ vs H Q E, sp vs H Q E → vs.length = ps.length)
    (he : ∀ L : Addr, ∃ pl : Sem Bool, eval (.Call (.Attribute (.Call (.Name "super" p0) [] [] p1) "__init__" p2) [.Constant (.str m) j p3] [] p4) (envF F f L) = (do
      let ov ← attributeBase (.Call (.Name "super" p0) [] [] p1) "__init__" (envF F f L) (eval (.Call (.Name "super" p0) [] [] p1) (envF F f L))
      standAt p2.atName
      let (f1, first) ← holding [ov] (getMethod ov "__init__" pl)
      callWith p4 f1 first (backTo p4 (starEach [.Constant (.str m) j p3] (envF F f L))) []))
    (hin : ∀ L : Addr, interactive (envF F f L) = false) (hsw : ∀ L : Addr, swapsWith (.Call (.Attribute (.Call (.Name "super" p0) [] [] p1) "__init__" p2) [.Constant (.str m) j p3] [] p4) none p5.line (envF F f L) = pure false)
    (hb : ∀ (A : Around) (outer : List Env) (s : Shared) (H : Hp) (vs : List V) (Q : VK) (E : XK), Room k (A.deeper (envF F f s.heap.objs.size)) → sp vs H Q E → ∃ (a : Addr) (ws : List V), vs = .ref a :: ws ∧ H a = some (exo a D none) ∧
      ∃ t, PSs (ncx CX P w K mg base N F f A outer s H E) rest t ∧ t { nx := fun _ H' => Q .non H', rt := Q } (startF N vs [none]) H) : FnOk P w K mg base CX (k + 1) f fd ps sp := by
  refine ⟨len, fun A outer s H args us vs Q E hr e0 hbi r hsp => ?_⟩
  have hl := len _ _ _ _ hsp
  have KX : K.In s.heap := e0.mod.kin.keeps fun b o e => (e0.bs b o e).1
  have lim : s.heap.NoLimit := e0.mod.nolimit.keeps fun b o e => (e0.bs b o e).1
  obtain ⟨oc, od, kV, doc, pm, ct, an, osl, rfl, lk⟩ := U.ex
  obtain ⟨cc, ccl, ccd, ccs, hcl, hcell⟩ := U.cell
  obtain ⟨fvs, file, tf, c1, c2, c3, lkc, hv2, hfile⟩ := U.file
  have T := U.cls
  obtain ⟨nm, q, Nn, bs, bm, sn, sub, ab, col, dd, k0, k1, k2, k3, k5, hC, hbm⟩ := T.cls
  obtain ⟨mb, hmb1, hmb2⟩ := e0.mod.blt
  have hsc := U.sc
  refine PySem.ks_codeAny_call_defAt (body := defBody st) (binds := ps.zip us) hr.depth (KX _ _ lk) rfl lim (PySem.W.codeRec_of KX U.cd) rfl hbi (by rw [← hsc]; exact S.nocell) (fun ⟨n, _⟩ hy => by rw [← hsc]; exact S.par n (List.of_mem_zip hy).1) (fun h₁ hns kp => ?_) (by rw [← hsc]; exact S.co) (by rw [← hsc]; exact S.gen) (by rw [← hsc]; exact S.kind)
  obtain ⟨a, ws, ev, ea, t, ht, hq⟩ := hb A outer s H vs Q E (hr.deeper _) hsp
  have C : CellsAt F.cl ["__class__"] [none] s.heap H := by
    rw [hcl]
    have hcb := e0.bs cc _ (e0.mod.kin _ _ hcell)
    refine ⟨rfl, fun y c e => ?_, fun x y c e1 e2 => ?_, fun i y e => ?_⟩
    · simp only [List.lookup] at e
      split at e <;> cases e
      exact ⟨hcb.2, _, _, hcb.1, rfl⟩
    · simp only [List.lookup] at e1 e2
      split at e1 <;> cases e1
      split at e2 <;> cases e2
      rename_i g1 _ g2
      rw [beq_iff_eq.mp g1, beq_iff_eq.mp g2]
    · cases i with
      | zero =>
        simp at e
        subst e
        exact ⟨cc, by simp [List.lookup], fun v z => by simp at z⟩
      | succ i => simp at e
  have I : Inv (ncx CX P w K mg base N F f A outer s H E) [] (startF N vs [none]) H { s with heap := h₁, toks := s.toks + (ps.zip us).length } := inv_startN S hr.hd e0 hl r C hns kp
  obtain ⟨hp0, g, d, tk, os⟩ := s
  obtain ⟨pl, hev⟩ := he hp0.objs.size
  show PySem.wpAt _ _ (.func (defBody st) (PySem.W.envX F.qual (defScope st) hp0.objs.size f (.ref F.c) F.cl)) (execs (defBody st) (PySem.W.envX F.qual (defScope st) hp0.objs.size f (.ref F.c) F.cl)) _ _ _
  rw [← hsc]
  show PySem.wpAt _ _ _ (execs (defBody st) (envF F f hp0.objs.size)) _ _ _
  rw [hbd]
  refine PySem.ks_wpAt_execs_cons (PySem.ks_wpAt_Expr_any (PySem.ks_wpAt_MethodCall (pl := pl) ?_ hev) (hin _) (hsw _))
  have hcb := e0.mod.kin _ _ hcell
  obtain ⟨m1, hns1, hlook⟩ := I.loc
  refine PySem.ks_wpAt_super_base (env := envF F f hp0.objs.size) hks (S.frk _ (List.mem_singleton.mpr rfl)) rfl rfl (I.kIn _ _ lk) rfl hp rfl (I.kIn _ _ lkc) rfl hv2 hfile U.top ?_
  refine PySem.W.ks_loadName_global S.kind hks (Calls.loadGlobal_builtin (I.mod.glob.keeps I.bk) U.sup (hmb1.keeps I.bk) ((hmb2 "super" (by decide)).trans (by first | exact PyProof.Rows.Boot.«super» | rfl | kernel_rfl)) ⟨rfl, ?_⟩)
  refine wpAny_loadName_free S.kind (S.frk _ (List.mem_singleton.mpr rfl)) (c := cc) (by show F.cl.lookup _ = _; rw [hcl]; rfl) ⟨_, I.kIn _ _ hcell, rfl⟩ ?_
  have hl1 : vs[0]? = some (.ref a) := by rw [ev]; rfl
  obtain ⟨u0, hu0, ru0⟩ := r.get hl1
  cases ru0
  have hself : (ps.zip us).reverse.lookup ar.arg = some (.ref a) := zip_look (by
    have q := S.nd.sublist (List.take_sublist (ps.length + 1) N)
    have q2 := S.pre
    simp only [List.length_cons, List.length_nil] at q2
    rw [q2] at q
    exact (List.nodup_append.mp q).1) har hu0
  refine wpAny_loadName_local S.kind (S.par _ (List.mem_of_getElem? har)) hns hself ?_
  obtain ⟨t1, ho⟩ := exo_at I.hok ea
  have hD1 := I.kIn _ _ hC
  refine PySem.ks_wpAny_isType_cls hD1 rfl ⟨rfl, ?_⟩
  have hsub : PySem.W.mroIn K D (.ref D) = some true := by
    unfold PySem.W.mroIn PySem.W.clsIn
    rw [hC]
    simp
  refine PySem.ks_wpAny_call_super hD1 rfl ho rfl (fun c e => by cases e) (PySem.W.looks_mroIn I.kIn hsub) (fun h' e kp2 => ?_)
  have I2 : Inv (ncx CX P w K mg base N F f A outer ⟨hp0, g, d, tk, os⟩ H E) [] (startF N vs [none]) H ⟨h', g, d, tk + (ps.zip us).length, os⟩ := I.kept (t' := tk + (ps.zip us).length) kp2
  have ho2 := kp2 _ _ ho
  have KX2 : K.In h' := I2.kIn
  have LT : PySem.W.Looks (model P w) h' (typeOf (.ref a)) (.ref D) := fun A Q E s k q => wpAny_typeOf_ref (k _ _ ho2) q
  have hI : PySem.W.Looks (model P w) h' (isInstance (.ref a) (.type "ValueError")) true := LT.andThen (PySem.W.looks_subIn I2.kIn U.ve)
  have haD : a ≠ D := fun z => by
    rw [z] at ho2
    have y := I2.kIn _ _ hC
    rw [ho2] at y
    cases y
  have hini := U.ini
  unfold PySem.W.ks_superIn PySem.W.clsIn at hini
  rw [hC] at hini
  have hci : PySem.W.clsIn K D = some { name := nm, bases := bs, mro := .ref D :: bm, ns := Nn, qualname := q, hasDict := true, slotNames := sn, subclasses := sub, abstract := ab, collection := col, hasDel := false } := by unfold PySem.W.clsIn; rw [hC] <;> rfl
  have hlk : PySem.W.Looks (model P w) h' (mroOf (.ref D)) (.ref D :: bm) := fun A Q E s k q => wpAny_bind ((PySem.W.looks_clsIn KX2 hci) A _ E s k (wpAny_pure q))
  refine PySem.W.kxs_getMethod PySem.W.kxs_ValueError e (PySem.W.looks_opaque KX2 U.opq) hlk rfl KX2 hini hI haD rfl ?_
  have hmw : (h'.push (PySem.W.kxs_mw "ValueError.__init__" a)).get? h'.objs.size = some (PySem.W.kxs_mw "ValueError.__init__" a) := Heap.get?_push_at rfl rfl
  have kp3 : ∀ b o, h'.get? b = some o → (h'.push (PySem.W.kxs_mw "ValueError.__init__" a)).get? b = some o := fun b o z => Heap.get?_push_of_some _ z
  refine PySem.W.kxs_callWith (i := "ValueError.__init__") (x := a) rfl (Calls.evalArgs_plain (spliced_more (wpAny_Constant_str (spliced_none ⟨hmw, ?_⟩))))
  refine bound_init (C := D) (t0 := t1) (kp3 _ _ (KX2 _ _ hC)) hmw (kp3 _ _ ho2) (by show 1 ≤ sizeLine; rw [sizeLine_eq]; omega) (fun h4 t2 kp4 hx => ?_)
  have I3 : Inv (ncx CX P w K mg base N F f A outer ⟨hp0, g, d, tk, os⟩ H E) [] (startF N vs [none]) H ⟨h'.push (PySem.W.kxs_mw "ValueError.__init__" a), g, d, tk + (ps.zip us).length, os⟩ := I2.kept (t' := tk + (ps.zip us).length) kp3
  have J := I3.write (t' := tk + (ps.zip us).length + 1 + 1) (x := a) (e := a) (o := exo a D none) (by rw [ea]; exact True.intro) (.inl rfl) kp4 ⟨_, hx⟩ (exo_ok hx)
  have eu : upd H a (exo a D none) = H := by
    funext b
    by_cases hb : b = a
    · rw [hb, upd_same, ea]
    · rw [upd_ne hb]
  rw [eu] at J
  refine wpAt_of_wpAny (wpAny_mono (ht.run [] _ (startF N vs [none]) H _ J hq) (fun fl s' hs => ?_) fun e s' hs => hs)
  have fin : ∀ {σ' : L2.St} {H' : Hp} {v : V} {u : Value}, Inv (ncx CX P w K mg base N F f A outer ⟨hp0, g, d, tk, os⟩ H E) [] σ' H' s' → L2.RelV v u → Q v H' → CE outer P w H ⟨hp0, g, d, tk, os⟩ Q u s' :=
    fun {σ' H' v u} J rv q => ⟨v, H', J.os, J.bare, J.base, J.hok, rv, q⟩
  cases fl with
  | ret u =>
    obtain ⟨v, σ', H', J, rv, q⟩ := hs
    exact fin J rv q
  | next =>
    obtain ⟨σ', H', J, q⟩ := hs
    exact fin (v := V.non) (u := Value.none) J rfl q
  | brk =>
    obtain ⟨_, _, _, q⟩ := hs
    exact False.elim q
  | cont =>
    obtain ⟨_, _, _, q⟩ := hs
    exact False.elim q
end DL

/-! DLI: exceptions over data. -/
namespace DL
open PySem PySem.Spec PyProof.Rows L2 NdefX

/-! ### C(e, ..): an error made -/
section
variable {X : Cx} {e : Expr} {es : List Expr} {ta : TA} {p pos : Pos}
theorem pmk_oexN {CX : CXT} {x : Str} {C fI : Addr} {k : Nat} {fd : FuncData} {ps : List Str} {sp : Sp} (T : OexC X.K C) (iC : PySem.W.findIn X.K (.ref C) "__init__" = some (some (.ref fI))) (tI : PySem.W.typeIn X.K (.ref fI) = some (.type "function"))
    (F1 : FnOk X.prog X.w X.K X.mg X.base CX k fI fd ps sp) (hr : Room (k + 1) X.A) (hb : Binds X.K fd ps []) (hx : Passes CX X (fun _ _ _ => False)) (hg : Gl X x) (hm : X.mg x = some (.ref C)) (ha : PA X (e :: es) ta)
    (hdb : (x == ("__debug__" : Str)) = false := by decide) (he : starEach (e :: es) X.env = (false, eval e X.env) :: starEach es X.env := by rfl) (hpl : (backTo pos (starEach es X.env)).any (·.1) = false := by rfl) :
    L2N.PMk X (.Call (.Name x p) (e :: es) [] pos) (tMkO C sp [] ta) := by
  intro pins s σ H Q I h
  obtain ⟨nm, q, N, bs, bm, sn, sub, ab, col, dd, k0, k1, k2, k3, k5, hC, hbm⟩ := T.cls
  refine wpAny_Call_Name_kw (ld_glob I hg hm ?_ hdb)
  refine PySem.W.callWith_K (h₀ := X.base) I.ok.mod.kin T.kC (thn (ha.run pos pins s σ H _ I h) fun us s1 ⟨vs, H1, I1, r1, hz, q1⟩ => ⟨I1.kIn, ?_⟩) he hpl
  show wpAny _ _ (call (.ref C) us) _ _ _
  obtain ⟨hp, g, dr, tk, os⟩ := s1
  have hsz : hp.objs.size ≤ hp.objs.size + 1 := Nat.le_succ _
  have hn : H1 (hp.objs.size + 1) = none := I1.hok.fresh hsz
  have hq := q1 (hp.objs.size + 1) hn
  rw [List.append_nil] at hq
  have kk : ∀ b o, hp.get? b = some o → ((hp.push (PySem.W.kdv_tup us)).push (PySem.HandSPX.excO C hp.objs.size)).get? b = some o := fun b o e => Heap.get?_push_of_some _ (Heap.get?_push_of_some _ e)
  have hget : ((hp.push (PySem.W.kdv_tup us)).push (PySem.HandSPX.excO C hp.objs.size)).get? (hp.objs.size + 1) = some (PySem.HandSPX.excO C hp.objs.size) := by heap_get
  have I2 : Inv X pins σ (upd H1 (hp.objs.size + 1) (exo (hp.objs.size + 1) C none)) ⟨(hp.push (PySem.W.kdv_tup us)).push (PySem.HandSPX.excO C hp.objs.size), g, dr, tk, os⟩ :=
    I1.laid (t' := tk) (a := hp.objs.size + 1) (o := exo (hp.objs.size + 1) C none) (h' := (hp.push (PySem.W.kdv_tup us)).push (PySem.HandSPX.excO C hp.objs.size)) kk hsz (exo_ok hget)
  have r2 : Vals (V.ref (hp.objs.size + 1) :: vs) (Value.ref (hp.objs.size + 1) :: us) := .cons rfl r1
  have hl : (Value.ref (hp.objs.size + 1) :: us ++ []).length = ps.length := by
    have e := r2.length
    rw [F1.len _ _ _ _ hq] at e
    rw [List.append_nil]
    exact e.symm
  have hus : us.length ≤ sizeLine := by
    rw [← Paired.length r1, sizeLine_eq]
    omega
  have b2 := hb _ (Value.ref (hp.objs.size + 1) :: us) I2.kIn hl
  rw [List.append_nil] at b2
  refine wpAny_call (PySem.HandSPX.call_own PySem.F.excBase_ValueError (fun Y => PySem.HandSPX.refsVE_contains Y bm hbm) (I1.kIn _ _ hC) (PySem.W.looks_findIn I1.kIn iC) (fun self => PySem.W.bind_fn I1.kIn self tI) hus
    (codeAny_mono (F1.run _ X.stack _ _ ⟨Value.ref (hp.objs.size + 1) :: us, []⟩ (Value.ref (hp.objs.size + 1) :: us) _ _ (fun _ _ _ => False) (hr.make C us []) (I2.env0.make C us []) b2 r2 hq) fun r s' hq' => ?_))
  cases r with
  | error er => exact hx pins σ _ _ er s' I2 hq'
  | ok fl =>
    cases fl with
    | ret u =>
      obtain ⟨v, H2, os2, bare2, un2, hok2, rv, ev, d, fs, ea, ed, hd1, q2⟩ := hq'
      subst ev
      obtain ⟨h2, g2, d2, t2, os'⟩ := s'
      obtain ⟨t0, G, J, kG, ge, hoe, na⟩ := mk_end0 (d2 := d2) (t2 := t2) I1 hsz kk un2 hok2 os2 bare2 ea ed hd1
      refine ⟨rv, hp.objs.size + 1, _, _, ⟨G, g2, d2, t2, os'⟩, _, .ref C, some d, rfl, J, kG, ge, hoe, ⟨rfl, rfl, fun vs hv => ?_⟩, rfl, rfl, na, rfl, bare2, raises_own T.exC T.tyC, q2⟩
      cases hv
      rfl
    | next => exact False.elim hq'
    | brk => exact False.elim hq'
    | cont => exact False.elim hq'
end

/-! ### wishes over data -/
abbrev XD := Value → List (Str × D) → DR → Mu → Prop
def XRel (K : PySem.W.Frag) (B : Gh) (W : WX) (V : XD) : Prop := ∀ cls fs od ρ μ σ H G, Sat K B G ρ μ σ H → XRep K G fs od → V cls fs ρ μ → W cls od σ H
def noV : XD := fun _ _ _ _ => False
theorem XRel.no {K : PySem.W.Frag} {B : Gh} {W : WX} : XRel K B W noV := fun _ _ _ _ _ _ _ _ _ _ h => h.elim
theorem Sat.base {K : PySem.W.Frag} {B G : Gh} {ρ : DR} {μ : Mu} {σ : St} {H : Hp} (S : Sat K B G ρ μ σ H) : Sat K G G ρ μ σ H := ⟨S.hold, ⟨⟨S.env.1.1, Gle.refl G⟩, S.env.2⟩⟩
theorem Sat.under {K : PySem.W.Frag} {B B' G : Gh} {ρ : DR} {μ : Mu} {σ : St} {H : Hp} (S : Sat K B' G ρ μ σ H) (g : Gle B B') : Sat K B G ρ μ σ H := ⟨S.hold, ⟨⟨S.env.1.1, g.trans S.env.1.2⟩, S.env.2⟩⟩
theorem XRel.under {K : PySem.W.Frag} {B B' : Gh} {W : WX} {V : XD} (h : XRel K B W V) (g : Gle B B') : XRel K B' W V := fun cls fs od ρ μ σ H G S x v => h cls fs od ρ μ σ H G (S.under g) x v
theorem EndsR.under {K : PySem.W.Frag} {B B' G : Gh} {E : DEnds} {Dn : Ends} (h : EndsR K B G E Dn) (g : Gle B B') : EndsR K B' G E Dn :=
  ⟨fun ρ' μ' σ' H' G' g' S => h.nx ρ' μ' σ' H' G' g' (S.under g), h.rt, fun ρ' μ' σ' H' G' g' S => h.bk ρ' μ' σ' H' G' g' (S.under g), fun ρ' μ' σ' H' G' g' S => h.ct ρ' μ' σ' H' G' g' (S.under g)⟩
theorem xrep_some {K : PySem.W.Frag} (d : Option Addr) : ∃ G fs, XRep K G fs d := by
  cases d with
  | none => exact ⟨⟨fun _ => none, [], []⟩, [], rfl⟩
  | some a => exact ⟨⟨fun b => if b = a then some (.xd []) else none, [], []⟩, [], [], if_pos rfl, rfl, Reps.nil⟩

/-! ### a call of a def that may raise -/
section
variable {X : Cx} {B : Gh} {W : WX} {V : XD} {pos : Pos} {k : Nat} {f : Addr} {fd : FuncData} {ps : List Str} {S : DSp} {x : Str} {p : Pos} {e : Expr} {es : List Expr} {t : TA} {T : TDA}
def dCallX (V : XD) (S : DSp) (T : TDA) : TDE := fun ρ μ Q => T ρ μ fun ds μ1 => S ds μ1 Q (fun cls fs μ2 => V cls fs ρ μ2)
@[simp ↓] theorem dCallX_p {ρ} {μ} {Q} : dCallX V S T ρ μ Q = (T ρ μ fun ds μ1 => S ds μ1 Q (fun cls fs μ2 => V cls fs ρ μ2)) := id rfl
theorem ref_callX {K : PySem.W.Frag} (xr : XRel K B W V) (h : RefA K B T t) : RefE K B (dCallX V S T) (tCallS (toSp K S) (WE W) t) := fun ρ μ σ H G Q Qn St q hd => h ρ μ σ H G _ _ St q fun ds μ1 vs H1 G1 g1 S1 r1 q1 =>
  ⟨G1, ds, μ1, Q, _, S1.hold, r1, q1, fun d μ' v H' G' g' h' r' q' => hd d μ' v H' G' (g1.trans g') ⟨h', S1.env.mono g'⟩ r' q', fun cls fs μ' od H' G' g' h' x' z => xr cls fs od ρ μ' σ H' G' ⟨h', S1.env.mono g'⟩ x' z⟩
theorem de_callX (F : FnOk X.prog X.w X.K X.mg X.base (L2N.CX X.prog X.w) k f fd ps (toSp X.K S)) (tk : L2N.Takes X W) (xr : XRel X.K B W V) (hr : Room k X.A) (hm : X.mg x = some (.ref f)) (hk : PySem.W.keepIn X.K (.ref f) = true) (hb : Binds X.K fd ps []) (ha : DA X B (e :: es) t T) (hg : Gl X x := by rfl)
    (hdb : (x == ("__debug__" : Str)) = false := by decide) (he : starEach (e :: es) X.env = (false, eval e X.env) :: starEach es X.env := by rfl) (hpl : (backTo pos (starEach es X.env)).any (·.1) = false := by rfl) :
    DE X B (.Call (.Name x p) (e :: es) [] pos) (tCallS (toSp X.K S) (WE W) t) (dCallX V S T) := ⟨pe_callS F hr hg hm hk hb (fun σ => L2N.passAt tk σ) ha.pa hdb he hpl, ref_callX xr ha.ref⟩
end
/-! ### a def that may raise -/
section
variable {P : Program} {w : World} {K : PySem.W.Frag} {mg : Str → Option Value} {base : Heap}
theorem fn_okX {x qual : Str} {st : Stmt} {f : Addr} {fd : FuncData} {N ps : List Str} {k : Nat} {S : DSp} (F : Fun K x qual st f fd) (SC : FnScope N ps (defScope st)) (len : ∀ ds μ Q E, S ds μ Q E → ds.length = ps.length)
    (hb : ∀ (B : Gh) (EE : XDt) (cdv : Value) (A : Around) (outer : List Env) (s : Shared) (H : Hp) (E : XK), Room k (A.deeper (envOfC qual (defScope st) s.heap.objs.size f cdv)) → XRel K B (fun cls d _ H => E cls d H) (fun cls fs _ μ => EE cls fs μ) →
      L2N.Takes (cxOf (L2N.CX P w) P w K mg base N qual (defScope st) f cdv A outer s H E) (fun cls d _ H => E cls d H) → PassesOwn (model P w) (A.deeper (envOfC qual (defScope st) s.heap.objs.size f cdv)) (envOfC qual (defScope st) s.heap.objs.size f cdv) (cxOf (L2N.CX P w) P w K mg base N qual (defScope st) f cdv A outer s H E).xe →
      ∃ t T, DSs (cxOf (L2N.CX P w) P w K mg base N qual (defScope st) f cdv A outer s H E) B (defBody st) t T ∧ ∀ ds μ Q, S ds μ Q EE → T { nx := fun _ μ' => Q .non μ', rt := Q } (startD N ds) μ) :
    FnOk P w K mg base (L2N.CX P w) (k + 1) f fd ps (toSp K S) := by
  obtain ⟨oc, od, kV, doc, pm, an, cdv, ct, osl, rfl, lk, hcd⟩ := F.ex
  refine fn_of lk hcd SC (fun vs H Q E ⟨G, ds, μ, QQ, EE, _, r, s, _⟩ => r.1.trans (len ds μ QQ EE s)) fun A outer s H vs Q E hr ⟨G, ds, μ, QQ, EE, hh, r, sp, q, qe⟩ => ?_
  obtain ⟨t, T, h, b⟩ := hb G EE cdv A outer s H E hr (fun cls fs od ρ μ' σ H' G' S' x v => qe cls fs μ' od H' G' S'.env.1.2 S'.hold x v) (L2N.takes_of rfl rfl rfl rfl) PassesOwn.leaving
  refine ⟨t, h.pss, h.ref (startD N ds) μ (start N vs) H G _ _ ⟨hh, envr_start N r (Gle.refl G)⟩ (b ds μ QQ sp) ⟨?_, ?_, ?_, ?_⟩⟩
  · exact fun ρ' μ' σ' H' G' g S' z => q .non μ' .non H' G' g S'.hold .non z
  · exact fun d μ' v H' G' g S' rv z => q d μ' v H' G' g S' rv z
  · exact fun _ _ _ _ _ _ _ z => z.elim
  · exact fun _ _ _ _ _ _ _ z => z.elim
end

/-! ### raise -/
abbrev QX := Value → List (Str × D) → Mu → Prop
abbrev TDMk := DR → Mu → QX → Prop
def RefMk (K : PySem.W.Frag) (B : Gh) (T : TDMk) (t : St → Hp → XK → Prop) : Prop := ∀ ρ μ σ H G (Q : QX) (Qn : XK), Sat K B G ρ μ σ H → T ρ μ Q → (∀ cls fs od μ' H' G', Gle G G' → Sat K B G' ρ μ' σ H' → XRep K G' fs od → Q cls fs μ' → Qn cls od H') → t σ H Qn
structure DMk (X : Cx) (B : Gh) (e : Expr) (t : St → Hp → XK → Prop) (T : TDMk) : Prop where
  pm : L2N.PMk X e t
  ref : RefMk X.K B T t
section
variable {X : Cx} {B : Gh} {W : WX} {V : XD} {pos : Pos} {e : Expr} {t : St → Hp → XK → Prop} {T : TDMk}
def dRaise (V : XD) (T : TDMk) : TDS := fun _ ρ μ => T ρ μ fun cls fs μ' => V cls fs ρ μ'
@[simp ↓] theorem dRaise_p {E} {ρ} {μ} : dRaise V T E ρ μ = (T ρ μ fun cls fs μ' => V cls fs ρ μ') := id rfl
theorem ds_raise (hc : X.calm = true) (tk : L2N.Takes X W) (xr : XRel X.K B W V) (h : DMk X B e t T) : DS X B (.Raise (some e) none pos) (fun _ σ H => t σ H fun cls d H' => W cls d σ H') (dRaise V T) :=
  ⟨L2N.ps_raise hc tk h.pm, fun ρ μ σ H G E Dn S q hd => h.ref ρ μ σ H G _ _ S q fun cls fs od μ' H' G' g' S' x z => xr cls fs od ρ μ' σ H' G' S' x z⟩
end
/-- what such an __init__ of one field does -/
def initSp (C : Addr) (fl : Str) : Sp := fun vs H Q _ => ∃ a v, vs = [.ref a, v] ∧ H a = some (exo a C none) ∧ ∀ dx, H dx = none → dx ≠ a → Q .non (upd (upd H dx (exd dx [(fl, v)])) a (exo a C (some dx)))
section
variable {X : Cx} {B : Gh} {pos p : Pos} {C fI : Addr} {k : Nat} {fd : FuncData} {x fl : Str} {e : Expr} {t : TA} {T : TDA}
def dErr (C : Addr) (fl : Str) (T : TDA) : TDMk := fun ρ μ Q => T ρ μ fun ds μ1 => match ds with | [d] => Q (.ref C) [(fl, d)] μ1 | _ => False
@[simp ↓] theorem dErr_p {ρ} {μ} {Q : QX} : dErr C fl T ρ μ Q = (T ρ μ fun ds μ1 => match ds with | [d] => Q (.ref C) [(fl, d)] μ1 | _ => False) := id rfl
theorem ref_err {K : PySem.W.Frag} (h : RefA K B T t) : RefMk K B (dErr C fl T) (tMkO C (initSp C fl) [] t) := fun ρ μ σ H G Q Qn S q hd => h ρ μ σ H G _ _ S q fun ds μ1 vs H1 G1 g1 S1 r1 q1 => by
  match ds, q1 with
  | [d], q1 =>
    obtain ⟨v, r, rfl, rv, rr⟩ := r1.cons_inv
    obtain rfl := rr.nil_inv
    refine ⟨by simp, fun a na => ⟨a, v, rfl, upd_same, fun dx n1 ne => ⟨rfl, dx, [(fl, v)], upd_same, by rw [upd_ne ne]; exact upd_same, by rwa [upd_ne ne] at n1, ?_⟩⟩⟩
    rw [upd_ne ne] at n1
    have eH : upd (del (upd (upd (upd H1 a (exo a C none)) dx (exd dx [(fl, v)])) a (exo a C (some dx))) a) dx (.xd [(fl, v)]) = upd H1 dx (.xd [(fl, v)]) := by
      funext b
      by_cases h1 : b = dx
      · subst h1; rw [upd_same, upd_same]
      · rw [upd_ne h1, upd_ne h1]
        by_cases h2 : b = a
        · subst h2; rw [del_same, na]
        · rw [del_ne h2, upd_ne h2, upd_ne h1, upd_ne h2]
    rw [eH]
    have g2 := Gle.frz (o := .xd [(fl, v)]) (S1.hold.free n1).1
    have S2 : Sat K B (G1.frz dx (.xd [(fl, v)])) ρ μ1 σ (upd H1 dx (.xd [(fl, v)])) := ⟨S1.hold.new n1, S1.env.mono g2⟩
    exact hd (.ref C) [(fl, d)] (some dx) μ1 _ _ (g1.trans g2) S2 ⟨[(fl, v)], upd_same, rfl, Reps.one (rv.mono g2)⟩ q1
theorem dm_err (T0 : OexC X.K C) (iC : PySem.W.findIn X.K (.ref C) "__init__" = some (some (.ref fI))) (tI : PySem.W.typeIn X.K (.ref fI) = some (.type "function"))
    (F1 : FnOk X.prog X.w X.K X.mg X.base CX0 k fI fd ["self", fl] (initSp C fl)) (hr : Room (k + 1) X.A) (hb : Binds X.K fd ["self", fl] []) (hm : X.mg x = some (.ref C)) (ha : DA X B [e] t T) (hg : Gl X x := by rfl)
    (hdb : (x == ("__debug__" : Str)) = false := by decide) (he : starEach [e] X.env = (false, eval e X.env) :: starEach [] X.env := by rfl) (hpl : (backTo pos (starEach [] X.env)).any (·.1) = false := by rfl) :
    DMk X B (.Call (.Name x p) [e] [] pos) (tMkO C (initSp C fl) [] t) (dErr C fl T) := ⟨pmk_oexN T0 iC tI F1 hr hb pass0 hg hm ha.pa hdb he hpl, ref_err ha.ref⟩
end

section
variable {P : Program} {w : World} {K : PySem.W.Frag} {mg : Str → Option Value} {base : Heap}
theorem err1_ok {D f : Addr} {st : Stmt} {fd : FuncData} {F : NF} {fl : Str} {k : Nat} {p0 p1 p2 p3 p4 p5 q0 q1 q2 q3 : Pos} {m : Str} {j : Nat} {ar : Arg} (U : SupFn P K mg D st f fd F) (S : NScope ["self", fl, "__class__"] ["self", fl] ["__class__"] F.scope)
    (hbd : defBody st = [.Expr (.Call (.Attribute (.Call (.Name "super" p0) [] [] p1) "__init__" p2) [.Constant (.str m) j p3] [] p4) p5, .Assign [.Attribute (.Name "self" q0) fl q1] (.Name fl q2) q3])
    (hp : ((defArgs st).posonlyargs ++ (defArgs st).args).head? = some ar) (har : ar.arg = "self") (hks : F.scope.names.lookup ("super" : Str) = some .globalImplicit)
    (he : ∀ L : Addr, ∃ pl : Sem Bool, eval (.Call (.Attribute (.Call (.Name "super" p0) [] [] p1) "__init__" p2) [.Constant (.str m) j p3] [] p4) (envF F f L) = (do
      let ov ← attributeBase (.Call (.Name "super" p0) [] [] p1) "__init__" (envF F f L) (eval (.Call (.Name "super" p0) [] [] p1) (envF F f L))
      standAt p2.atName
      let (f1, first) ← holding [ov] (getMethod ov "__init__" pl)
      callWith p4 f1 first (backTo p4 (starEach [.Constant (.str m) j p3] (envF F f L))) []))
    (hin : ∀ L : Addr, interactive (envF F f L) = false) (hsw : ∀ L : Addr, swapsWith (.Call (.Attribute (.Call (.Name "super" p0) [] [] p1) "__init__" p2) [.Constant (.str m) j p3] [] p4) none p5.line (envF F f L) = pure false)
    (hsw2 : ∀ L : Addr, swapsWith (.Name fl q2) (some (.Attribute (.Name "self" q0) fl q1)) q3.line (envF F f L) = pure false) (hno : PySem.W.findIn K (.ref D) fl = some none) (hd1 : (fl == ("__debug__" : Str)) = false) (hd2 : (fl == ("__classdict__" : Str)) = false) :
    FnOk P w K mg base CX0 (k + 1) f fd ["self", fl] (initSp D fl) :=
  sup_ok U S hbd hp (by rw [har]; rfl) hks (fun vs H Q E ⟨a, v, e, _⟩ => by rw [e]; rfl) he hin hsw fun A outer s H vs Q E hr ⟨a, v, ev, ea, q⟩ => by
    subst ev
    refine ⟨a, [v], rfl, ea, _, pss_one (ps_ost (pe_var (i := 0) rfl (.inl (S.par _ (by simp)))) (pe_var (i := 1) rfl (.inl (S.par _ (by simp))) hd1 hd2) (hsw2 _)), ?_⟩
    exact ⟨v, rfl, .ref a, rfl, a, D, rfl, U.cls, hno, .inl ⟨ea, fun dx n1 n2 => q dx n1 n2⟩⟩
end

/-! ### try: .. except X as n: .. -/
theorem EndsR.asS {K : PySem.W.Frag} {B G : Gh} {E : DEnds} {Dn : Ends} (h : EndsR K B G E Dn) (i : Nat) : EndsR K B G { nx := fun ρ μ => E.nx (ρ.set i none) μ, rt := E.rt, bk := fun ρ μ => E.bk (ρ.set i none) μ, ct := fun ρ μ => E.ct (ρ.set i none) μ }
    { nx := fun σ' H' => Dn.nx (σ'.set i none) H', rt := Dn.rt, bk := fun σ' H' => Dn.bk (σ'.set i none) H', ct := fun σ' H' => Dn.ct (σ'.set i none) H' } :=
  ⟨fun ρ' μ' σ' H' G' g S q => h.nx _ μ' _ H' G' g ⟨S.hold, S.env.unset i⟩ q, h.rt, fun ρ' μ' σ' H' G' g S q => h.bk _ μ' _ H' G' g ⟨S.hold, S.env.unset i⟩ q, fun ρ' μ' σ' H' G' g S q => h.ct _ μ' _ H' G' g ⟨S.hold, S.env.unset i⟩ q⟩
/-- an except suite: of the caught error at a, its class, its fields -/
abbrev TDU := Addr → Value → List (Str × D) → TDS
/-- what the clause makes of an error -/
def asV (K : PySem.W.Frag) (c : Value) (i : Nat) (TU : TDU) (V : XD) (E : DEnds) : XD := fun cls fs ρ μ => match PySem.W.exmOne K cls c with
  | some true => ∀ a, μ a = none → TU a cls fs { nx := fun ρ μ => E.nx (ρ.set i none) μ, rt := E.rt, bk := fun ρ μ => E.bk (ρ.set i none) μ, ct := fun ρ μ => E.ct (ρ.set i none) μ } (ρ.set i (some (.ptr a))) μ
  | some false => V cls fs ρ μ
  | none => False
def dTryAs (K : PySem.W.Frag) (c : Value) (i : Nat) (TB : XD → TDS) (TU : TDU) (V : XD) : TDS := fun E ρ μ => TB (asV K c i TU V E) E ρ μ
@[simp ↓] theorem dTryAs_p {K : PySem.W.Frag} {c : Value} {i : Nat} {TB : XD → TDS} {TU : TDU} {V : XD} {E} {ρ} {μ} : dTryAs K c i TB TU V E ρ μ = TB (asV K c i TU V E) E ρ μ := id rfl
theorem asV_yes {K : PySem.W.Frag} {c : Value} {i : Nat} {TU : TDU} {V : XD} {E : DEnds} {cls : Value} {fs : List (Str × D)} {ρ : DR} {μ : Mu} (h : PySem.W.exmOne K cls c = some true) : asV K c i TU V E cls fs ρ μ = ∀ a, μ a = none → TU a cls fs { nx := fun ρ μ => E.nx (ρ.set i none) μ, rt := E.rt, bk := fun ρ μ => E.bk (ρ.set i none) μ, ct := fun ρ μ => E.ct (ρ.set i none) μ } (ρ.set i (some (.ptr a))) μ := by
  unfold asV; rw [h]
theorem asV_no {K : PySem.W.Frag} {c : Value} {i : Nat} {TU : TDU} {V : XD} {E : DEnds} {cls : Value} {fs : List (Str × D)} {ρ : DR} {μ : Mu} (h : PySem.W.exmOne K cls c = some false) : asV K c i TU V E cls fs ρ μ = V cls fs ρ μ := by
  unfold asV; rw [h]
section
variable {X : Cx} {B : Gh} {x n : Str} {c : Value} {i : Nat} {body suite : List Stmt} {b₀ : Stmt} {np pos pos' : Pos} {tb : WX → TS} {ts : Addr → Value → Option Addr → TS} {Wout : WX} {TB : XD → TDS} {TU : TDU} {V : XD}
theorem ds_try_as (hs : X.stack = X.env :: X.outer) (hf : X.env.frame = some X.env.locals) (hN : X.N.Nodup) (hi : X.N[i]? = some n) (hln : X.env.kindOf n = some .local) (hc : Names X x c) (tk : L2N.Takes X Wout) (xr : XRel X.K B Wout V)
    (hb : ∀ (W : WX) (V' : XD) (B' : Gh) (pn : List (Addr × Obj)) (xe : Value → Shared → Prop), Gle B B' → XRel X.K B' W V' → L2N.Takes (X.tr pn xe) W → PassesOwn (model X.prog X.w) X.A X.env xe → DSs (X.tr pn xe) B' body (tb W) (TB V'))
    (hsu : ∀ (a : Addr) (oe : Obj) (cls : Value) (d : Option Addr) (pn : List (Addr × Obj)) (B' : Gh) (fs : List (Str × D)), XRep X.K B' fs d → L2N.Zn cls d oe → (∃ vs, oe.data = .fields vs) → DSs (X.suite a ((a, oe) :: pn)) B' (b₀ :: suite) (ts a cls d) (TU a cls fs)) :
    DS X B (.Try body [.ExceptHandler (some (.Name x np)) (some n) (b₀ :: suite) pos'] [] [] pos) (fun D σ H => tb (wAs X.K c i ts Wout D) D σ H) (dTryAs X.K c i TB TU V) :=
  ⟨L2N.ps_try_as hs hf hN hi hln hc tk (fun W pn xe tk' po => (hb W noV B pn xe (Gle.refl B) XRel.no tk' po).pss) (fun a oe cls d pn hz hd => by
      obtain ⟨B', fs, xrep⟩ := xrep_some (K := X.K) d
      exact (hsu a oe cls d pn B' fs xrep hz hd).pss),
    fun ρ μ σ H G E Dn S q hd => by
      have hgb : Gle B G := S.env.1.2
      have xr2 : XRel X.K G (wAs X.K c i ts Wout Dn) (asV X.K c i TU V E) := fun cls fs od ρ2 μ2 σ2 H2 G2 S2 x2 v2 => by
        unfold asV at v2
        have gg : Gle G G2 := S2.env.1.2
        split at v2
        · next h =>
          refine ⟨true, h, fun _ a na => ?_, fun z => by cases z⟩
          have q2 := v2 a (S2.hold.free na).2.1
          -- an object of this class, as the suite's rule asks for one
          have hz : L2N.Zn cls od ⟨cls, od, .fields #[.none, .none, .none], #[]⟩ := ⟨rfl, rfl, fun vs e => by cases e; rfl⟩
          have D2 := hsu a ⟨cls, od, .fields #[.none, .none, .none], #[]⟩ cls od [] G2 fs x2 hz ⟨_, rfl⟩
          exact D2.ref _ μ2 _ H2 G2 _ _ ⟨S2.hold, (S2.base).env.set (.ptr a) i⟩ q2 (((hd.mono gg).under (hgb.trans gg)).asS i)
        · next h => exact ⟨false, h, fun z => (by cases z), fun _ => xr cls fs od ρ2 μ2 σ2 H2 G2 (S2.under hgb) x2 v2⟩
        · exact v2.elim
      have tk2 : L2N.Takes (X.tr [] (fun e s₁ => wpAny (model X.prog X.w) X.A (noteFrame e X.env) (fun _ s₂ => wpAny (model X.prog X.w) X.A (setFlight e none) (fun _ s₃ => wpAny (model X.prog X.w) X.A (pure ()) (fun _ _ => True) (fun _ _ => True) s₃) (fun _ _ => True) s₂) (fun _ _ => True) s₁)) (wAs X.K c i ts Wout Dn) := fun u s' xx => by
        obtain ⟨a, B1, sI, pins, σ1, H1, cls, d, rfl, I, nb, up, sky, na, os, ag, w1⟩ := xx
        have ok := I.ok.ofTry
        have hfr : X.A.frames = some (X.env :: X.outer) := by rw [ok.frames, hs]
        have sky' : Sky B1 (X.env :: X.outer) a (L2N.Zn cls d) X.env.locals s'.heap := by rw [← hs]; exact sky
        exact L2N.Sky.land L2N.Zn.steady hfr hf sky' fun _ _ _ => wpAny_pure True.intro
      exact (hb _ _ G [] _ hgb xr2 tk2 PassesOwn.looking).ref ρ μ σ H G E Dn S.base q (hd.under hgb)⟩
end

/-! ### within an except suite: why.f, isinstance(why, C) -/
section
variable {X : Cx} {B : Gh} {a C C2 : Addr} {oe : Obj} {cls : Value} {d : Option Addr} {fs : List (Str × D)} {pn : List (Addr × Obj)} {e : Expr} {te : TE} {T : TDE} {pos p p2 : Pos} {n x : Str}
def dXf (a : Addr) (cls : Value) (fs : List (Str × D)) (C : Addr) (n : Str) (T : TDE) : TDE := fun ρ μ Q => T ρ μ fun x μ1 => pS x fun b => b = a ∧ cls = .ref C ∧ oS (fget fs n) fun v => Q v μ1
@[simp ↓] theorem dXf_p {ρ} {μ} {Q} : dXf a cls fs C n T ρ μ Q = (T ρ μ fun x μ1 => pS x fun b => b = a ∧ cls = .ref C ∧ oS (fget fs n) fun v => Q v μ1) := id rfl
theorem de_xf (xr : XRep X.K B fs d) (TC : XfC X.K C) (hno : PySem.W.findIn X.K (.ref C) n = some none) (hz : L2N.Zn cls d oe) (hf : ∃ vs, oe.data = .fields vs) (he : DE (X.suite a ((a, oe) :: pn)) B e te T) (hb : attributeBase e n X.env (eval e X.env) = eval e X.env := by rfl) :
    DE (X.suite a ((a, oe) :: pn)) B (.Attribute e n pos) (tXf a cls d C n te) (dXf a cls fs C n T) :=
  ⟨pe_xf TC hno hz.zc hf he.pe hb, fun ρ μ σ H G Q Qn S q hd => he.ref ρ μ σ H G _ _ S q fun x μ1 v H1 G1 g1 S1 r1 q1 => by
    cases x with
    | ptr b =>
      cases r1
      obtain ⟨rfl, hc, q2⟩ := q1
      rw [oS_eq] at q2
      obtain ⟨dv, e1, q3⟩ := q2
      have x1 := xr.mono S1.env.1.2
      cases d with
      | none => rw [show fs = [] from x1] at e1; cases e1
      | some dd =>
        obtain ⟨fvs, e2, rr⟩ := x1
        obtain ⟨v, l, rv⟩ := (rr.fget n).1 dv e1
        exact ⟨rfl, hc, dd, fvs, v, rfl, S1.hold.fr _ _ e2, l, (hd.mono g1).now S1 rv q3⟩
    | _ => exact False.elim q1⟩
/-- isinstance(why, C2) -/
def rIsEd (K : PySem.W.Frag) (cls : Value) (C a C2 : Addr) (d : Option Addr) : List V → Hp → VK → Prop := fun xs H Q => cls = .ref C ∧ xs = [.ref a, .ref C2] ∧ (∀ dd, d = some dd → ∃ fs, H dd = some (.xd fs)) ∧ ∃ b, PySem.W.kitOne K (.ref C) (.ref C2) = some b ∧ Q (.bl b) H
theorem call_isEd (TC : ExcC X.K C) (hz : Zc cls d oe) (hf : ∃ vs, oe.data = .fields vs) : CallR (X.suite a ((a, oe) :: pn)) (.builtin "isinstance") (rIsEd X.K cls C a C2 d) := by
  intro pins s σ H xs us Q I r h
  obtain ⟨rfl, rfl, hdd, b, e, q⟩ := h
  cases r with
  | cons rx rr =>
    cases rr with
    | cons rt rr =>
      cases rr
      cases rx
      cases rt
      obtain ⟨hget, _⟩ := I.pin (a, oe) (List.mem_append.mpr (.inl List.mem_cons_self))
      obtain ⟨vs, hv⟩ := hf
      have J : ∃ od, PySem.W.InstAt s.heap a oe C od := by
        obtain ⟨oc, odx, oda, osl⟩ := oe
        obtain ⟨h1, h2⟩ := hz
        dsimp only at h1 h2 hv
        subst h1 h2 hv
        cases odx with
        | none => exact ⟨none, hget, rfl, rfl, trivial⟩
        | some dd =>
          obtain ⟨fs, hf⟩ := hdd dd rfl
          obtain ⟨mA, ⟨o, es, ep, ho, _⟩, _⟩ := (show ObjOk X.prog X.w H s.heap dd (.xd fs) from I.hok dd _ hf)
          exact ⟨some o, hget, rfl, rfl, ho⟩
      obtain ⟨od, J⟩ := J
      have hcl : (PySem.W.clsIn X.K C).isSome = true := by
        obtain ⟨cd, hc, _⟩ := PySem.W.any_some TC.hd
        rw [hc]; rfl
      exact PySem.W.kia_one (PySem.W.kitx_exc hcl TC.hg TC.hk TC.hs TC.ha TC.hn TC.ht TC.hm) I.kIn J e (fun z => nomatch z) fun tk => ⟨.bl b, H, I.kept (t' := tk) fun _ _ z => z, rfl, q⟩
def dIsE (K : PySem.W.Frag) (a : Addr) (cls : Value) (C C2 : Addr) (T : TDE) : TDE := fun ρ μ Q => T ρ μ fun x μ1 => pS x fun b => b = a ∧ cls = .ref C ∧ oS (PySem.W.kitOne K (.ref C) (.ref C2)) fun r => Q (.bl r) μ1
@[simp ↓] theorem dIsE_p {K : PySem.W.Frag} {ρ} {μ} {Q} : dIsE K a cls C C2 T ρ μ Q = (T ρ μ fun x μ1 => pS x fun b => b = a ∧ cls = .ref C ∧ oS (PySem.W.kitOne K (.ref C) (.ref C2)) fun r => Q (.bl r) μ1) := id rfl
theorem de_isE (xr : XRep X.K B fs d) (TC : ExcC X.K C) (hz : L2N.Zn cls d oe) (hf : ∃ vs, oe.data = .fields vs) (he : DE (X.suite a ((a, oe) :: pn)) B e te T) (hm : X.mg "isinstance" = none) (hm2 : X.mg x = some (.ref C2)) (hg : Gl X "isinstance" := by rfl) (hg2 : Gl X x := by rfl) (hdb : (x == ("__debug__" : Str)) = false := by decide)
    (h1 : starEach [e, .Name x p2] X.env = (false, eval e X.env) :: starEach [.Name x p2] X.env := by rfl) (h1' : starEach [.Name x p2] X.env = (false, eval (.Name x p2) X.env) :: starEach [] X.env := by rfl) (h2 : (backTo pos (starEach [.Name x p2] X.env)).any (·.1) = false := by rfl) :
    DE (X.suite a ((a, oe) :: pn)) B (.Call (.Name "isinstance" p) [e, .Name x p2] [] pos) (tCB (rIsEd X.K cls C a C2 d) (tCons te (tCons (tC (.ref C2)) tNil))) (dIsE X.K a cls C C2 T) :=
  ⟨pe_callB (X := X.suite a ((a, oe) :: pn)) (call_isEd TC hz.zc hf) hg hm (by decide +kernel) (pa_cons he.pe (pa_cons (pe_glob (X := X.suite a ((a, oe) :: pn)) hg2 hm2 rfl hdb) pa_nil h1') h1) (by decide) (by decide) h1 h2, fun ρ μ σ H G Q Qn S h hd => he.ref ρ μ σ H G _ _ S h fun y μ1 v H1 G1 g1 S1 r1 q1 => by
    cases y with
    | ptr b =>
      cases r1
      obtain ⟨rfl, hc, q2⟩ := q1
      rw [oS_eq] at q2
      obtain ⟨r, e1, q3⟩ := q2
      have x1 := xr.mono S1.env.1.2
      refine ⟨hc, rfl, fun dd hd => ?_, r, e1, (hd.mono g1).now S1 (.bl r) q3⟩
      subst hd
      obtain ⟨fvs, e2, rr⟩ := x1
      exact ⟨fvs, S1.hold.fr _ _ e2⟩
    | _ => exact False.elim q1⟩
end
end DL

/-! DLJ: defs called within an except suite. -/
namespace DL
open PySem PySem.Spec PyProof.Rows L2 NdefX L2H

theorem takes0N {X : Cx} : L2N.Takes X (fun _ _ _ _ => False) := fun _ _ x => by
  obtain ⟨_, _, _, _, _, _, _, _, _, _, _, _, _, _, _, _, z⟩ := x
  exact z.elim
section
variable {P : Program} {w : World} {K : PySem.W.Frag} {mg : Str → Option Value} {base : Heap}
theorem fn_okH {x qual : Str} {st : Stmt} {f : Addr} {fd : FuncData} {N ps : List Str} {k : Nat} {S : DSp} (F : Fun K x qual st f fd) (SC : FnScope N ps (defScope st)) (len : ∀ ds μ Q E, S ds μ Q E → ds.length = ps.length)
    (hb : ∀ (B : Gh) (cdv : Value) (A : Around) (outer : List Env) (s : Shared) (H : Hp) (E : XK) (p : Addr × Obj), RoomH k (A.deeper (envOfC qual (defScope st) s.heap.objs.size f cdv)) → HotC (cxH CX0 P w K mg base N qual (defScope st) f cdv A outer s H E p) →
      ∃ t T, DSs (cxH CX0 P w K mg base N qual (defScope st) f cdv A outer s H E p) B (defBody st) t T ∧ ∀ ds μ Q EE, S ds μ Q EE → T { nx := fun _ μ' => Q .non μ', rt := Q } (startD N ds) μ) : FnH P w K mg base CX0 (k + 1) f fd ps (toSp K S) := by
  obtain ⟨oc, od, kV, doc, pm, an, cdv, ct, osl, rfl, lk, hcd⟩ := F.ex
  refine fn_ofH lk hcd SC (fun vs H Q E ⟨G, ds, μ, QQ, EE, _, r, s, _⟩ => r.1.trans (len ds μ QQ EE s)) fun A outer s H vs Q E p hot hr ⟨G, ds, μ, QQ, EE, hh, r, sp, q, _⟩ => ?_
  obtain ⟨t, T, h, b⟩ := hb G cdv A outer s H E p hr ⟨p, hot, List.mem_singleton.mpr rfl⟩
  refine ⟨t, h.pss, h.ref (startD N ds) μ (start N vs) H G _ _ ⟨hh, envr_start N r (Gle.refl G)⟩ (b ds μ QQ EE sp) ⟨?_, ?_, ?_, ?_⟩⟩
  · exact fun ρ' μ' σ' H' G' g S' z => q .non μ' .non H' G' g S'.hold .non z
  · exact fun d μ' v H' G' g S' rv z => q d μ' v H' G' g S' rv z
  · exact fun _ _ _ _ _ _ _ z => z.elim
  · exact fun _ _ _ _ _ _ _ z => z.elim
def CalledH (P : Program) (w : World) (K : PySem.W.Frag) (mg : Str → Option Value) (base : Heap) (k : Nat) (x : Str) (ps : List Str) (S : DSp) : Prop :=
  ∃ f fd, mg x = some (.ref f) ∧ PySem.W.keepIn K (.ref f) = true ∧ Binds K fd ps [] ∧ FnH P w K mg base CX0 k f fd ps (toSp K S)
theorem DefAt.calledH {k : Nat} {x : Str} {st : Stmt} {ps : List Str} {f : Addr} {fd : FuncData} {S : DSp} (D : DefAt K mg x st ps f fd) (F : FnH P w K mg base CX0 k f fd ps (toSp K S)) : CalledH P w K mg base k x ps S := ⟨f, fd, D.m, D.F.kp, D.b, F⟩
theorem FnH.mono {CX : CXT} {j k : Nat} {f : Addr} {fd : FuncData} {ps : List Str} {sp : Sp} (F : FnH P w K mg base CX j f fd ps sp) (h : j ≤ k) : FnH P w K mg base CX k f fd ps sp := ⟨F.len, fun A outer s H args us vs Q E p hr => F.run A outer s H args us vs Q E p (hr.mono h)⟩
end
section
variable {X : Cx} {B : Gh} {pos : Pos} {k : Nat} {f : Addr} {fd : FuncData} {ps : List Str} {S : DSp} {x : Str} {p : Pos} {e : Expr} {es : List Expr} {t : TA} {T : TDA}
theorem ref_callH {K : PySem.W.Frag} (h : RefA K B T t) : RefE K B (dCall S T) (tCallS (toSp K S) (fun _ => E0) t) := fun ρ μ σ H G Q Qn St q hd => h ρ μ σ H G _ _ St q fun ds μ1 vs H1 G1 g1 S1 r1 q1 =>
  ⟨G1, ds, μ1, Q, noX, S1.hold, r1, q1, fun d μ' v H' G' g' h' r' q' => hd d μ' v H' G' (g1.trans g') ⟨h', S1.env.mono g'⟩ r' q', fun _ _ _ _ _ _ _ _ _ z => z.elim⟩
theorem de_callH (F : FnH X.prog X.w X.K X.mg X.base CX0 k f fd ps (toSp X.K S)) (hr : RoomH k X.A) (hc : HotC X) (hm : X.mg x = some (.ref f)) (hk : PySem.W.keepIn X.K (.ref f) = true) (hb : Binds X.K fd ps []) (ha : DA X B (e :: es) t T) (hg : Gl X x := by rfl)
    (hdb : (x == ("__debug__" : Str)) = false := by decide) (he : starEach (e :: es) X.env = (false, eval e X.env) :: starEach es X.env := by rfl) (hpl : (backTo pos (starEach es X.env)).any (·.1) = false := by rfl) :
    DE X B (.Call (.Name x p) (e :: es) [] pos) (tCallS (toSp X.K S) (fun _ => E0) t) (dCall S T) := ⟨pe_callH F hr hc hg hm hk hb (fun σ _ _ _ _ _ _ h => h.elim) ha.pa hdb he hpl, ref_callH ha.ref⟩
theorem do_eqH (hr : RoomH k X.A) : OpR X (compareOp .Eq) (rEqA X.K) ∧ Ref2 X.K B opEq (rEqA X.K) := ⟨op_eq.or (op_eqD (by have := hr.un; omega)), ref_eq⟩
theorem do_neH (hr : RoomH k X.A) : OpR X (compareOp .NotEq) (rNeA X.K) ∧ Ref2 X.K B opNe (rNeA X.K) := ⟨op_ne.or (op_neD (by have := hr.un; omega)), ref_ne⟩
structure DIH (X : Cx) (B : Gh) (tg e : Expr) (i : TI) (I : TDI) : Prop where
  pi : PIH X tg e i
  ref : RefI X.K B I i
theorem ds_forH {tg iter : Expr} {body : List Stmt} {i : TI} {I : TDI} {g : TG} {U : TDG} {t : TS} {T : TDS} (hp : PassesOwn (model X.prog X.w) X.A X.env X.xe) (hc : HotC X) (hi : DIH X B tg iter i I) (hg : DG X B tg g U) (hb : DSs X B body t T)
    (hs : ∀ x, foldedSetIterable iter X.env x = pure x := by intro _; rfl) : DS X B (.For tg iter body [] pos) (tFor i g t) (dFor I U T) := ⟨ps_forH hp hc hi.pi hg.pg hb.pss hs, ref_for hi.ref hg.ref hb.ref⟩
theorem di_range1H {a : Expr} {ta : TA} {T : TDA} {tg : Expr} {p : Pos} (hg : Gl X "range") (hm : X.mg "range" = none) (ha : DA X B [a] ta T) (hs : starEach [a] X.env = [(false, eval a X.env)] := by rfl) : DIH X B tg (.Call (.Name "range" p) [a] [] pos) (iRng1 ta) (iRg1 T) :=
  ⟨pi_range1H hg hm ha.pa hs, (di_range1 (X := X) (tg := tg) (pos := pos) (p := p) hg hm ha hs).ref⟩
/-- an except suite is hot -/
theorem hot_suite {a : Addr} {oe : Obj} {cls : Value} {d : Option Addr} {pn : List (Addr × Obj)} (hz : L2N.Zn cls d oe) (hf : ∃ vs, oe.data = .fields vs) : HotC (X.suite a ((a, oe) :: pn)) := by
  obtain ⟨vs, h⟩ := hf
  exact ⟨(a, oe), ⟨rfl, vs, h, hz.2.2 vs h⟩, List.mem_cons_self⟩
theorem roomH_suite {a : Addr} {pn : List (Addr × Obj)} (hr : Room k X.A) : RoomH k (X.suite a pn).A := roomH_mark hr _
end
end DL

/-! DLK: comprehensions of two fors. -/
namespace DL
open PySem PySem.Spec PyProof.Rows L2
theorem ref_in {K : PySem.W.Frag} {I1 : TDI} {i1 : TI} {g1 : TDG} {gn1 : TG} {tt1 : TDT} {ttn1 : TT} {te : TDE} {ten : TE} {vs1 : List Nat} {p : Addr} (hi : RefI K B I1 i1) (hg : RefG K B g1 gn1) (hk : KeepG gn1 vs1) (ht : RefT K B tt1 ttn1) (he : RefE K B te ten)
    {ρ : DR} {μ : Mu} {σ : St} {H : Hp} {G : Gh} {Q : Mu → Prop} {Nx : Hp → Prop} (S : Sat K B G ρ μ σ H) (h : I1 ρ μ fun ys μ1 => compL g1 tt1 te p (wipeD ρ vs1) Q ys μ1) (hd : ∀ μ' H' G', Gle G G' → Hold K G' μ' H' → Q μ' → Nx H') :
    i1 σ H fun J1 H4 => ∃ W1 : Nat → Nat → Hp → Prop, (∃ m, W1 0 m H4) ∧ ∀ j k H, W1 j k H →
      (J1.stop j H ∧ Nx H) ∨ (J1.go j H ∧ ∃ Nx1 : Hp → Prop, (∀ H', Nx1 H' → ∃ k', k' < k ∧ W1 (j + 1) k' H') ∧ ∀ x H', J1.yld j H x H' → gn1 x (L2.wipe σ vs1) H' fun σ3 H5 => L2.wipe σ3 vs1 = L2.wipe σ vs1 ∧ ttn1 σ3 H5 fun b H6 =>
        if b = true then ten σ3 H6 fun y H7 => ∃ acc, H7 p = some (.lst acc) ∧ acc.length < sizeLine ∧ Nx1 (upd H7 p (.lst (acc ++ [y]))) else Nx1 H6) := by
  refine hi ρ μ σ H G _ _ S h fun xs μ1 J H1 G1 g1' S1 q1 hgo hy => ?_
  refine ⟨fun n m H' => m = xs.length - n ∧ n ≤ xs.length ∧ ∃ G' μ', Gle G1 G' ∧ Hold K G' μ' H' ∧ compL g1 tt1 te p (wipeD ρ vs1) Q (xs.drop n) μ', ⟨xs.length, by simp, Nat.zero_le _, G1, _, Gle.refl _, S1.hold, by simpa using q1⟩, ?_⟩
  rintro n m H' ⟨rfl, hn, G', μ', g2, S2, q3⟩
  by_cases hlt : n < xs.length
  · refine .inr ⟨(hgo n H' G' μ' g2 S2).1 hlt, fun H3 => ∃ G3 μ3, Gle G1 G3 ∧ Hold K G3 μ3 H3 ∧ compL g1 tt1 te p (wipeD ρ vs1) Q (xs.drop (n + 1)) μ3, ?_, ?_⟩
    · rintro H3 ⟨G3, μ3, g3, S3, q4⟩
      exact ⟨xs.length - (n + 1), by omega, rfl, hlt, G3, μ3, g3, S3, q4⟩
    · intro v H2 yv
      obtain ⟨G2, g3, h2, rv⟩ := hy n xs[n] v H' H2 G' μ' g2 S2 (List.getElem?_eq_getElem hlt) yv
      rw [List.drop_eq_getElem_cons hlt] at q3
      have S3 : Sat K B G2 (wipeD ρ vs1) μ' (L2.wipe σ vs1) H2 := ⟨h2, (((S1.env.mono g2).mono g3).wipe vs1)⟩
      have q4 := hg xs[n] v (wipeD ρ vs1) μ' (L2.wipe σ vs1) H2 G2 _ (fun σ2 H3 => ttn1 σ2 H3 fun b H3 => if b = true then ten σ2 H3 fun y H4 => ∃ acc, H4 p = some (.lst acc) ∧ acc.length < sizeLine ∧ (∃ G3 μ3, Gle G1 G3 ∧ Hold K G3 μ3 (upd H4 p (.lst (acc ++ [y]))) ∧ compL g1 tt1 te p (wipeD ρ vs1) Q (xs.drop (n + 1)) μ3) else ∃ G3 μ3, Gle G1 G3 ∧ Hold K G3 μ3 H3 ∧ compL g1 tt1 te p (wipeD ρ vs1) Q (xs.drop (n + 1)) μ3) S3 rv q3 fun ρ4 μ4 σ4 H4 G4 g4 S4 q4 => by
        refine ht ρ4 μ4 σ4 H4 G4 _ _ S4 q4 fun b μ5 H5 G5 g5 S5 q5 => ?_
        cases b with
        | true =>
          refine he ρ4 μ5 σ4 H5 G5 _ _ S5 q5 fun d μ6 v6 H6 G6 g6 S6 r6 q6 => ?_
          obtain ⟨acc, e, l, q6⟩ := q6
          obtain ⟨ws, h1, rr⟩ := S6.hold.lstAt e
          exact ⟨ws, h1, by rw [rr.1]; exact l, G6, _, (((g2.trans g3).trans g4).trans g5).trans g6, S6.hold.cellSet e (show CellR K G6 (.lst (ws ++ [v6])) (.lst (acc ++ [d])) from rr.append (Reps.one r6)), q6⟩
        | false => exact ⟨G5, μ5, ((g2.trans g3).trans g4).trans g5, S5.hold, q5⟩
      have q5 := hk v (L2.wipe σ vs1) H2 _ q4
      rw [wipe_wipe] at q5
      exact q5
  · have e : n = xs.length := by omega
    subst e
    rw [List.drop_length] at q3
    exact .inl ⟨(hgo _ H' G' μ' g2 S2).2 (Nat.le_refl _), hd μ' H' G' (g1'.trans g2) S2 q3⟩
def comp2L (g : TDG) (tt : TDT) (I1 : TDI) (g1 : TDG) (tt1 : TDT) (te : TDE) (vs1 : List Nat) (p : Addr) (ρ0 : DR) (Q : Mu → Prop) : List D → Mu → Prop
  | [], μ => Q μ
  | x :: r, μ => g x ρ0 μ fun ρ2 μ2 => tt ρ2 μ2 fun b μ3 => if b = true then I1 ρ2 μ3 fun ys μ4 => compL g1 tt1 te p (wipeD ρ2 vs1) (comp2L g tt I1 g1 tt1 te vs1 p ρ0 Q r) ys μ4 else comp2L g tt I1 g1 tt1 te vs1 p ρ0 Q r μ3
def dLc2 (c : Bool) (I : TDI) (g : TDG) (tt : TDT) (I1 : TDI) (g1 : TDG) (tt1 : TDT) (te : TDE) (vs vs1 : List Nat) : TDE := fun ρ μ Q => I ρ μ fun xs μ1 => ∀ p, μ1 p = none → comp2L g tt I1 g1 tt1 te vs1 p (wipeD ρ vs) (fun μ2 => endL c p μ2 Q) xs (mup μ1 p (.lst []))
@[simp ↓] theorem dLc2_p {c : Bool} {I : TDI} {g : TDG} {tt : TDT} {I1 : TDI} {g1 : TDG} {tt1 : TDT} {te : TDE} {vs vs1 : List Nat} {ρ} {μ} {Q} : dLc2 c I g tt I1 g1 tt1 te vs vs1 ρ μ Q = (I ρ μ fun xs μ1 => ∀ p, μ1 p = none → comp2L g tt I1 g1 tt1 te vs1 p (wipeD ρ vs) (fun μ2 => endL c p μ2 Q) xs (mup μ1 p (.lst []))) := id rfl
theorem ref_lc2 {K : PySem.W.Frag} {c : Bool} {I I1 : TDI} {i i1 : TI} {g g1 : TDG} {gn gn1 : TG} {tt tt1 : TDT} {ttn ttn1 : TT} {te : TDE} {ten : TE} {vs vs1 : List Nat} (hi : RefI K B I i) (hg : RefG K B g gn) (hk : KeepG gn vs) (ht : RefT K B tt ttn)
    (hi1 : RefI K B I1 i1) (hg1 : RefG K B g1 gn1) (hk1 : KeepG gn1 vs1) (ht1 : RefT K B tt1 ttn1) (he : RefE K B te ten) : RefE K B (dLc2 c I g tt I1 g1 tt1 te vs vs1) (tLc2 i gn ttn i1 gn1 ttn1 ten vs vs1) := fun ρ μ σ H G Q Qn S h hd => by
  refine hi ρ μ σ H G _ _ S h fun xs μ1 J H1 G1 g1' S1 q1 hgo hy => ?_
  intro p np
  have hc1 : Hold K G1 (mup μ1 p (.lst [])) (upd H1 p (.lst [])) := S1.hold.cellNew np (show CellR K G1 (.lst []) (.lst []) from Reps.nil)
  have q2 := q1 p (S1.hold.free np).2.1
  refine ⟨fun n m H' => m = xs.length - n ∧ n ≤ xs.length ∧ ∃ G' μ', Gle G1 G' ∧ Hold K G' μ' H' ∧ comp2L g tt I1 g1 tt1 te vs1 p (wipeD ρ vs) (fun μ2 => endL c p μ2 Q) (xs.drop n) μ', ⟨xs.length, by simp, Nat.zero_le _, G1, _, Gle.refl _, hc1, by simpa using q2⟩, ?_⟩
  rintro n m H' ⟨rfl, hn, G', μ', g2, S2, q3⟩
  by_cases hlt : n < xs.length
  · refine .inr ⟨(hgo n H' G' μ' g2 S2).1 hlt, fun H3 => ∃ G3 μ3, Gle G1 G3 ∧ Hold K G3 μ3 H3 ∧ comp2L g tt I1 g1 tt1 te vs1 p (wipeD ρ vs) (fun μ2 => endL c p μ2 Q) (xs.drop (n + 1)) μ3, ?_, ?_⟩
    · rintro H3 ⟨G3, μ3, g3, S3, q4⟩
      exact ⟨xs.length - (n + 1), by omega, rfl, hlt, G3, μ3, g3, S3, q4⟩
    · intro v H2 yv
      obtain ⟨G2, g3, h2, rv⟩ := hy n xs[n] v H' H2 G' μ' g2 S2 (List.getElem?_eq_getElem hlt) yv
      rw [List.drop_eq_getElem_cons hlt] at q3
      have S3 : Sat K B G2 (wipeD ρ vs) μ' (L2.wipe σ vs) H2 := ⟨h2, (((S1.env.mono g2).mono g3).wipe vs)⟩
      have q4 := hg xs[n] v (wipeD ρ vs) μ' (L2.wipe σ vs) H2 G2 _ (fun σ2 H3 => ttn σ2 H3 fun b H3 => if b = true then i1 σ2 H3 fun J1 H4 => ∃ W1 : Nat → Nat → Hp → Prop, (∃ m, W1 0 m H4) ∧ ∀ j k H, W1 j k H →
      (J1.stop j H ∧ (∃ G3 μ3, Gle G1 G3 ∧ Hold K G3 μ3 H ∧ comp2L g tt I1 g1 tt1 te vs1 p (wipeD ρ vs) (fun μ2 => endL c p μ2 Q) (xs.drop (n + 1)) μ3)) ∨ (J1.go j H ∧ ∃ Nx1 : Hp → Prop, (∀ H', Nx1 H' → ∃ k', k' < k ∧ W1 (j + 1) k' H') ∧ ∀ x H', J1.yld j H x H' → gn1 x (L2.wipe σ2 vs1) H' fun σ3 H5 => L2.wipe σ3 vs1 = L2.wipe σ2 vs1 ∧ ttn1 σ3 H5 fun b H6 =>
        if b = true then ten σ3 H6 fun y H7 => ∃ acc, H7 p = some (.lst acc) ∧ acc.length < sizeLine ∧ Nx1 (upd H7 p (.lst (acc ++ [y]))) else Nx1 H6) else ∃ G3 μ3, Gle G1 G3 ∧ Hold K G3 μ3 H3 ∧ comp2L g tt I1 g1 tt1 te vs1 p (wipeD ρ vs) (fun μ2 => endL c p μ2 Q) (xs.drop (n + 1)) μ3) S3 rv q3 fun ρ4 μ4 σ4 H4 G4 g4 S4 q4 => by
        refine ht ρ4 μ4 σ4 H4 G4 _ _ S4 q4 fun b μ5 H5 G5 g5 S5 q5 => ?_
        cases b with
        | true => exact ref_in hi1 hg1 hk1 ht1 he S5 q5 fun μ6 H6 G6 g6 S6 q6 => ⟨G6, μ6, (((g2.trans g3).trans g4).trans g5).trans g6, S6, q6⟩
        | false => exact ⟨G5, μ5, ((g2.trans g3).trans g4).trans g5, S5.hold, q5⟩
      have q5 := hk v (L2.wipe σ vs) H2 _ q4
      rw [wipe_wipe] at q5
      exact q5
  · have e : n = xs.length := by omega
    subst e
    rw [List.drop_length] at q3
    exact .inl ⟨(hgo _ H' G' μ' g2 S2).2 (Nat.le_refl _), endL_go q3 ⟨S2, S1.env.mono g2⟩ (hd.mono (g1'.trans g2))⟩
section
variable {X : Cx} {pos : Pos}
theorem ds_setLc2 (c : Bool) (i : Nat) {y : Str} {py : Pos} {elt tg iter tg1 iter1 : Expr} {ifs ifs1 : List Expr} {scope : Scope} {own : List (Str × Nat)} {vs1 : List Nat} {spos : Pos} {wi wi1 : TI} {I I1 : TDI} {g g1 : TG} {U U1 : TDG} {tt tt1 : TT} {Tt Tt1 : TDT} {te : TE} {Te : TDE} (hc : X.calm = true) (hN : X.N.Nodup) (hy : X.N[i]? = some y) (hyl : X.env.scope.names.lookup y = some .local)
    (hsw : swapsWith (.ListComp elt [⟨tg, iter, ifs, 0⟩, ⟨tg1, iter1, ifs1, 0⟩] scope pos) (some (.Name y py)) spos.line X.env = pure true) (hi : DI X B tg iter wi I) (ok : BlkOk X.N X.env.scope scope own) (hv : ∀ i ∈ vs1, i ∈ own.map (·.2))
    (hg : ∀ (s : Shared) (H : Hp) (C : Addr) (cl : List (Str × Addr)) (fp : List Addr), DG (X.blk s H scope (compEnvC scope cl C X.env) fp) B tg g U) (hk : KeepG g (own.map (·.2))) (ht : ∀ (s : Shared) (H : Hp) (C : Addr) (cl : List (Str × Addr)) (fp : List Addr), DTs (X.blk s H scope (compEnvC scope cl C X.env) fp) B ifs tt Tt)
    (hi1 : ∀ (s : Shared) (H : Hp) (C : Addr) (cl : List (Str × Addr)) (fp : List Addr), DI (X.blk s H scope (compEnvC scope cl C X.env) fp) B tg1 iter1 wi1 I1)
    (hg1 : ∀ (s : Shared) (H : Hp) (C : Addr) (cl : List (Str × Addr)) (fp : List Addr), DG (X.blk s H scope (compEnvC scope cl C X.env) fp) B tg1 g1 U1) (hk1 : KeepG g1 vs1) (ht1 : ∀ (s : Shared) (H : Hp) (C : Addr) (cl : List (Str × Addr)) (fp : List Addr), DTs (X.blk s H scope (compEnvC scope cl C X.env) fp) B ifs1 tt1 Tt1)
    (he : ∀ (s : Shared) (H : Hp) (C : Addr) (cl : List (Str × Addr)) (fp : List Addr), DE (X.blk s H scope (compEnvC scope cl C X.env) fp) B elt te Te) (hs : ∀ x, foldedSetIterable iter X.env x = pure x := by intro _; rfl) (hs1 : ∀ env x, foldedSetIterable iter1 env x = pure x := by intro _ _; rfl) :
    DS X B (.Assign [.Name y py] (.ListComp elt [⟨tg, iter, ifs, 0⟩, ⟨tg1, iter1, ifs1, 0⟩] scope pos) spos) (tAsg (tLc2 wi g tt wi1 g1 tt1 te (own.map (·.2)) vs1) (gName i)) (dAsg (dLc2 c I U Tt I1 U1 Tt1 Te (own.map (·.2)) vs1) (dgName i)) :=
  ⟨ps_setLc2 hc hN hy hyl hsw hi.pi ok hv (fun s H C cl fp => (hg s H C cl fp).pg) (fun s H C cl fp => (ht s H C cl fp).pts) (fun s H C cl fp => (hi1 s H C cl fp).pi) (fun s H C cl fp => (hg1 s H C cl fp).pg) (fun s H C cl fp => (ht1 s H C cl fp).pts) (fun s H C cl fp => (he s H C cl fp).pe) hs hs1,
    ref_asg (ref_lc2 hi.ref (hg X.s_0 X.H_0 0 [] []).ref hk (ht X.s_0 X.H_0 0 [] []).ref (hi1 X.s_0 X.H_0 0 [] []).ref (hg1 X.s_0 X.H_0 0 [] []).ref hk1 (ht1 X.s_0 X.H_0 0 [] []).ref (he X.s_0 X.H_0 0 [] []).ref) (fun d v ρ μ σ H G Q Qn S r h hd => hd _ μ _ H G (Gle.refl G) ⟨S.hold, S.env.set r i⟩ h)⟩
theorem de_lc2 (c : Bool) {elt tg iter tg1 iter1 : Expr} {ifs ifs1 : List Expr} {scope : Scope} {own : List (Str × Nat)} {vs1 : List Nat} {wi wi1 : TI} {I I1 : TDI} {g g1 : TG} {U U1 : TDG} {tt tt1 : TT} {Tt Tt1 : TDT} {te : TE} {Te : TDE} (hc : X.calm = true) (hN : X.N.Nodup) (hi : DI X B tg iter wi I) (ok : BlkOk X.N X.env.scope scope own) (hv : ∀ i ∈ vs1, i ∈ own.map (·.2))
    (hg : ∀ (s : Shared) (H : Hp) (C : Addr) (cl : List (Str × Addr)) (fp : List Addr), DG (X.blk s H scope (compEnvC scope cl C X.env) fp) B tg g U) (hk : KeepG g (own.map (·.2))) (ht : ∀ (s : Shared) (H : Hp) (C : Addr) (cl : List (Str × Addr)) (fp : List Addr), DTs (X.blk s H scope (compEnvC scope cl C X.env) fp) B ifs tt Tt)
    (hi1 : ∀ (s : Shared) (H : Hp) (C : Addr) (cl : List (Str × Addr)) (fp : List Addr), DI (X.blk s H scope (compEnvC scope cl C X.env) fp) B tg1 iter1 wi1 I1)
    (hg1 : ∀ (s : Shared) (H : Hp) (C : Addr) (cl : List (Str × Addr)) (fp : List Addr), DG (X.blk s H scope (compEnvC scope cl C X.env) fp) B tg1 g1 U1) (hk1 : KeepG g1 vs1) (ht1 : ∀ (s : Shared) (H : Hp) (C : Addr) (cl : List (Str × Addr)) (fp : List Addr), DTs (X.blk s H scope (compEnvC scope cl C X.env) fp) B ifs1 tt1 Tt1)
    (he : ∀ (s : Shared) (H : Hp) (C : Addr) (cl : List (Str × Addr)) (fp : List Addr), DE (X.blk s H scope (compEnvC scope cl C X.env) fp) B elt te Te) (hs : ∀ x, foldedSetIterable iter X.env x = pure x := by intro _; rfl) (hs1 : ∀ env x, foldedSetIterable iter1 env x = pure x := by intro _ _; rfl) :
    DE X B (.ListComp elt [⟨tg, iter, ifs, 0⟩, ⟨tg1, iter1, ifs1, 0⟩] scope pos) (tLc2 wi g tt wi1 g1 tt1 te (own.map (·.2)) vs1) (dLc2 c I U Tt I1 U1 Tt1 Te (own.map (·.2)) vs1) :=
  ⟨pe_lc2 hc hN hi.pi ok hv (fun s H C cl fp => (hg s H C cl fp).pg) (fun s H C cl fp => (ht s H C cl fp).pts) (fun s H C cl fp => (hi1 s H C cl fp).pi) (fun s H C cl fp => (hg1 s H C cl fp).pg) (fun s H C cl fp => (ht1 s H C cl fp).pts) (fun s H C cl fp => (he s H C cl fp).pe) hs hs1,
    ref_lc2 hi.ref (hg X.s_0 X.H_0 0 [] []).ref hk (ht X.s_0 X.H_0 0 [] []).ref (hi1 X.s_0 X.H_0 0 [] []).ref (hg1 X.s_0 X.H_0 0 [] []).ref hk1 (ht1 X.s_0 X.H_0 0 [] []).ref (he X.s_0 X.H_0 0 [] []).ref⟩
theorem ds_setLc2A (c : Bool) (i : Nat) {y : Str} {py : Pos} {elt tg iter tg1 iter1 : Expr} {ifs ifs1 : List Expr} {scope : Scope} {own : List (Str × Nat)} {vs1 : List Nat} {spos : Pos} {wi wi1 : TI} {wi1' : Fam TI} {I I1 : TDI} {g g1 : TG} {U U1 : TDG} {tt tt1 : TT} {tt' tt1' : Fam TT} {Tt Tt1 : TDT} {te : TE} {te' : Fam TE} {Te : TDE} (hc : X.calm = true) (hN : X.N.Nodup) (hy : X.N[i]? = some y) (hyl : X.env.scope.names.lookup y = some .local)
    (hsw : swapsWith (.ListComp elt [⟨tg, iter, ifs, 0⟩, ⟨tg1, iter1, ifs1, 0⟩] scope pos) (some (.Name y py)) spos.line X.env = pure true) (hi : DI X B tg iter wi I) (ok : BlkOk X.N X.env.scope scope own) (hv : ∀ i ∈ vs1, i ∈ own.map (·.2))
    (hg : ∀ (s : Shared) (H : Hp) (C : Addr) (cl : List (Str × Addr)) (fp : List Addr), DG (X.blk s H scope (compEnvC scope cl C X.env) fp) B tg g U) (hk : KeepG g (own.map (·.2))) (ht : ∀ (s : Shared) (H : Hp) (C : Addr) (cl : List (Str × Addr)) (fp : List Addr), DTs (X.blk s H scope (compEnvC scope cl C X.env) fp) B ifs (tt' s H C cl fp) Tt)
    (hi1 : ∀ (s : Shared) (H : Hp) (C : Addr) (cl : List (Str × Addr)) (fp : List Addr), DI (X.blk s H scope (compEnvC scope cl C X.env) fp) B tg1 iter1 (wi1' s H C cl fp) I1)
    (hg1 : ∀ (s : Shared) (H : Hp) (C : Addr) (cl : List (Str × Addr)) (fp : List Addr), DG (X.blk s H scope (compEnvC scope cl C X.env) fp) B tg1 g1 U1) (hk1 : KeepG g1 vs1) (ht1 : ∀ (s : Shared) (H : Hp) (C : Addr) (cl : List (Str × Addr)) (fp : List Addr), DTs (X.blk s H scope (compEnvC scope cl C X.env) fp) B ifs1 (tt1' s H C cl fp) Tt1)
    (he : ∀ (s : Shared) (H : Hp) (C : Addr) (cl : List (Str × Addr)) (fp : List Addr), DE (X.blk s H scope (compEnvC scope cl C X.env) fp) B elt (te' s H C cl fp) Te) (e0 : tt' = fun _ _ _ _ _ => tt := by (first | rfl | (simp only [Cx.blk]; rfl))) (e1 : wi1' = fun _ _ _ _ _ => wi1 := by (first | rfl | (simp only [Cx.blk]; rfl))) (e2 : tt1' = fun _ _ _ _ _ => tt1 := by (first | rfl | (simp only [Cx.blk]; rfl))) (e3 : te' = fun _ _ _ _ _ => te := by (first | rfl | (simp only [Cx.blk]; rfl))) (hs : ∀ x, foldedSetIterable iter X.env x = pure x := by intro _; rfl) (hs1 : ∀ env x, foldedSetIterable iter1 env x = pure x := by intro _ _; rfl) :
    DS X B (.Assign [.Name y py] (.ListComp elt [⟨tg, iter, ifs, 0⟩, ⟨tg1, iter1, ifs1, 0⟩] scope pos) spos) (tAsg (tLc2 wi g tt wi1 g1 tt1 te (own.map (·.2)) vs1) (gName i)) (dAsg (dLc2 c I U Tt I1 U1 Tt1 Te (own.map (·.2)) vs1) (dgName i)) := by
  subst e0; subst e1; subst e2; subst e3
  exact ds_setLc2 c i hc hN hy hyl hsw hi ok hv hg hk ht hi1 hg1 hk1 ht1 he hs hs1
theorem de_lc2A (c : Bool) {elt tg iter tg1 iter1 : Expr} {ifs ifs1 : List Expr} {scope : Scope} {own : List (Str × Nat)} {vs1 : List Nat} {wi wi1 : TI} {wi1' : Fam TI} {I I1 : TDI} {g g1 : TG} {U U1 : TDG} {tt tt1 : TT} {tt' tt1' : Fam TT} {Tt Tt1 : TDT} {te : TE} {te' : Fam TE} {Te : TDE} (hc : X.calm = true) (hN : X.N.Nodup) (hi : DI X B tg iter wi I) (ok : BlkOk X.N X.env.scope scope own) (hv : ∀ i ∈ vs1, i ∈ own.map (·.2))
    (hg : ∀ (s : Shared) (H : Hp) (C : Addr) (cl : List (Str × Addr)) (fp : List Addr), DG (X.blk s H scope (compEnvC scope cl C X.env) fp) B tg g U) (hk : KeepG g (own.map (·.2))) (ht : ∀ (s : Shared) (H : Hp) (C : Addr) (cl : List (Str × Addr)) (fp : List Addr), DTs (X.blk s H scope (compEnvC scope cl C X.env) fp) B ifs (tt' s H C cl fp) Tt)
    (hi1 : ∀ (s : Shared) (H : Hp) (C : Addr) (cl : List (Str × Addr)) (fp : List Addr), DI (X.blk s H scope (compEnvC scope cl C X.env) fp) B tg1 iter1 (wi1' s H C cl fp) I1)
    (hg1 : ∀ (s : Shared) (H : Hp) (C : Addr) (cl : List (Str × Addr)) (fp : List Addr), DG (X.blk s H scope (compEnvC scope cl C X.env) fp) B tg1 g1 U1) (hk1 : KeepG g1 vs1) (ht1 : ∀ (s : Shared) (H : Hp) (C : Addr) (cl : List (Str × Addr)) (fp : List Addr), DTs (X.blk s H scope (compEnvC scope cl C X.env) fp) B ifs1 (tt1' s H C cl fp) Tt1)
    (he : ∀ (s : Shared) (H : Hp) (C : Addr) (cl : List (Str × Addr)) (fp : List Addr), DE (X.blk s H scope (compEnvC scope cl C X.env) fp) B elt (te' s H C cl fp) Te) (e0 : tt' = fun _ _ _ _ _ => tt := by (first | rfl | (simp only [Cx.blk]; rfl))) (e1 : wi1' = fun _ _ _ _ _ => wi1 := by (first | rfl | (simp only [Cx.blk]; rfl))) (e2 : tt1' = fun _ _ _ _ _ => tt1 := by (first | rfl | (simp only [Cx.blk]; rfl))) (e3 : te' = fun _ _ _ _ _ => te := by (first | rfl | (simp only [Cx.blk]; rfl))) (hs : ∀ x, foldedSetIterable iter X.env x = pure x := by intro _; rfl) (hs1 : ∀ env x, foldedSetIterable iter1 env x = pure x := by intro _ _; rfl) :
    DE X B (.ListComp elt [⟨tg, iter, ifs, 0⟩, ⟨tg1, iter1, ifs1, 0⟩] scope pos) (tLc2 wi g tt wi1 g1 tt1 te (own.map (·.2)) vs1) (dLc2 c I U Tt I1 U1 Tt1 Te (own.map (·.2)) vs1) := by
  subst e0; subst e1; subst e2; subst e3
  exact de_lc2 c hc hN hi ok hv hg hk ht hi1 hg1 hk1 ht1 he hs hs1
end
end DL

/-! DLL: an own error class of one field, all that is known of it. -/
namespace DL
open PySem PySem.Spec PyProof.Rows L2 NdefX
structure ErrC (P : Program) (w : World) (K : PySem.W.Frag) (mg : Str → Option Value) (base : Heap) (C : Addr) (x fl : Str) : Prop where
  m : mg x = some (.ref C)
  ox : OexC K C
  made : ∃ fI fd, PySem.W.findIn K (.ref C) "__init__" = some (some (.ref fI)) ∧ PySem.W.typeIn K (.ref fI) = some (.type "function") ∧ Binds K fd ["self", fl] [] ∧ FnOk P w K mg base CX0 1 fI fd ["self", fl] (initSp C fl)
  xf : XfC K C
  no : PySem.W.findIn K (.ref C) fl = some none
  ec : ExcC K C
section
variable {X : Cx} {B : Gh} {pos p : Pos} {C : Addr} {x fl : Str} {e : Expr} {t : TA} {T : TDA}
theorem dm_errC (E : ErrC X.prog X.w X.K X.mg X.base C x fl) (hr : Room 2 X.A) (ha : DA X B [e] t T) (hg : Gl X x := by rfl)
    (hdb : (x == ("__debug__" : Str)) = false := by decide) (he : starEach [e] X.env = (false, eval e X.env) :: starEach [] X.env := by rfl) (hpl : (backTo pos (starEach [] X.env)).any (·.1) = false := by rfl) :
    DMk X B (.Call (.Name x p) [e] [] pos) (tMkO C (initSp C fl) [] t) (dErr C fl T) := by
  obtain ⟨fI, fd, iC, tI, b, F⟩ := E.made
  exact dm_err E.ox iC tI F hr b E.m ha hg hdb he hpl
end
section
variable {P : Program} {w : World} {K : PySem.W.Frag} {mg : Str → Option Value} {base h : Heap}
theorem exc_of {C : Addr} (hg : PySem.W.findIn K (.ref C) "__getattribute__" = some (some (.builtin "BaseException.__getattribute__"))) (hk : PySem.W.findIn K (.ref C) "__getattr__" = some none) (hs : PySem.W.subIn K (.ref C) (.type "BaseException") = some true) (hd : PySem.W.hasDictIn K C = true)
    (ha : PySem.W.findIn K (.ref C) "__class__" = some (some (.builtin "object.__class__"))) (hn : PySem.W.specialIn K (.builtin "object.__class__") "__get__" = some (some (.builtin "getset_descriptor.__get__"))) (ht : PySem.W.takesIn K (.builtin "object.__class__") = some true) (hm : PySem.W.mroIn K C (.type "object") = some true) : XfC K C ∧ ExcC K C :=
  ⟨⟨hg, hk, hs, hd⟩, ⟨hg, hk, hs, hd, ha, hn, ht, hm⟩⟩
theorem supfn_mk {C f cc cda : Addr} {st : Stmt} {qual : Str} {nm q : Str} {N : Addr} {bs bm : List Value} {sn : List Str} {sub : List Value} {ab : Bool} {col : Option Bool} {dd od : Option Addr} {k0 k1 k2 k3 k5 : Option Value} {oc kV doc pm ct c1 cl : Value} {an c2 cld : Option Addr} {osl c3 csl : Array (Option Value)} {vs : Array Value} {file : Str} {tf : Tok}
    (lc : K.lookup C = some (excClassObj nm q C N bs bm true sn sub ab col dd k0 k1 k2 k3 k5 "ValueError.__new__")) (rv : PySem.HandSPX.refsVE bm = true) (sa : PySem.W.findIn K (.ref C) "__setattr__" = some (some (.builtin "object.__setattr__"))) (eb : PySem.W.subIn K (.ref C) (.type "BaseException") = some true)
    (tc : PySem.W.typeIn K (.ref C) = some (.type "type")) (kc : PySem.W.keepIn K (.ref C) = true)
    (lf : K.lookup f = some ⟨oc, od, .func (PySem.W.fnX "__init__" qual (defArgs st) (defBody st) (defScope st) [("__class__", cc)] .none kV doc pm an (.ref cda) ct), osl⟩) (ci : PySem.W.codeIn K (.ref cda) qual = true)
    (lk : K.lookup cda = some ⟨c1, c2, .fields vs, c3⟩) (v2 : vs[2]? = some (.str file tf)) (fi : ((P.main.file : Str) == file) = true) (lcc : K.lookup cc = some ⟨cl, cld, .cell (some (.ref C)), csl⟩) (tp : (P.main.scope.names.lookup ("super" : Str)).isSome = false) (zs : mg "super" = none)
    (oq : PySem.W.nsIn K cStatics "thirdparty.any" = some none) (si : PySem.W.ks_superIn K C C "__init__" = some (some (.builtin "ValueError.__init__"))) (ve : PySem.W.subIn K (.ref C) (.type "ValueError") = some true) :
    SupFn P K mg C st f (PySem.W.fnX "__init__" qual (defArgs st) (defBody st) (defScope st) [("__class__", cc)] .none kV doc pm an (.ref cda) ct) ⟨"__init__", qual, defArgs st, defBody st, defScope st, [("__class__", cc)], cda⟩ :=
  ⟨⟨oc, od, kV, doc, pm, ct, an, osl, rfl, lf⟩, rfl, ci, ⟨vs, file, tf, c1, c2, c3, lk, v2, fi⟩, ⟨cc, cl, cld, csl, rfl, lcc⟩, tp, zs, oq, ⟨⟨_, _, _, _, _, _, _, _, _, _, _, _, _, _, _, lc, rv⟩, sa, eb, tc, kc⟩, si, ve⟩
theorem binds_of {f : Addr} {fd : FuncData} {ps : List Str} (hb : ∀ us : List Value, us.length = ps.length → bindArgs fd ⟨us, []⟩ = pure (ps.zip us)) : Binds K fd ps [] := fun s us kin hl => by
  rw [List.append_nil] at hl ⊢
  exact .of_eq (hb us hl)
end
def CalledX (P : Program) (w : World) (K : PySem.W.Frag) (mg : Str → Option Value) (base : Heap) (k : Nat) (x : Str) (ps : List Str) (S : DSp) : Prop :=
  ∃ f fd, mg x = some (.ref f) ∧ PySem.W.keepIn K (.ref f) = true ∧ Binds K fd ps [] ∧ FnOk P w K mg base (L2N.CX P w) k f fd ps (toSp K S)
theorem DefAt.calledX {P : Program} {w : World} {K : PySem.W.Frag} {mg : Str → Option Value} {base : Heap} {k : Nat} {x : Str} {st : Stmt} {ps : List Str} {f : Addr} {fd : FuncData} {S : DSp} (D : DefAt K mg x st ps f fd) (F : FnOk P w K mg base (L2N.CX P w) k f fd ps (toSp K S)) : CalledX P w K mg base k x ps S := ⟨f, fd, D.m, D.F.kp, D.b, F⟩
/-- an int constant of the module -/
def GlobI (i : Int) (x : Str) (mg : Str → Option Value) : Prop := ∃ t, mg x = some (.int i t)
section
variable {X : Cx} {B : Gh} {x n : Str} {c : Value} {i : Nat} {body suite : List Stmt} {b₀ : Stmt} {np pos pos' : Pos} {tb : WX → TS} {tb' : List (Addr × Obj) → (Value → Shared → Prop) → WX → TS} {ts : Addr → Value → Option Addr → TS} {ts' : Addr → Obj → Value → Option Addr → List (Addr × Obj) → TS} {Wout : WX} {TB : XD → TDS} {TU : TDU} {V : XD}
theorem ds_try_asA (hs : X.stack = X.env :: X.outer) (hf : X.env.frame = some X.env.locals) (hN : X.N.Nodup) (hi : X.N[i]? = some n) (hln : X.env.kindOf n = some .local) (hc : Names X x c) (tk : L2N.Takes X Wout) (xr : XRel X.K B Wout V)
    (hb : ∀ (W : WX) (V' : XD) (B' : Gh) (pn : List (Addr × Obj)) (xe : Value → Shared → Prop), Gle B B' → XRel X.K B' W V' → L2N.Takes (X.tr pn xe) W → PassesOwn (model X.prog X.w) X.A X.env xe → DSs (X.tr pn xe) B' body (tb' pn xe W) (TB V'))
    (hsu : ∀ (a : Addr) (oe : Obj) (cls : Value) (d : Option Addr) (pn : List (Addr × Obj)) (B' : Gh) (fs : List (Str × D)), XRep X.K B' fs d → L2N.Zn cls d oe → (∃ vs, oe.data = .fields vs) → DSs (X.suite a ((a, oe) :: pn)) B' (b₀ :: suite) (ts' a oe cls d pn) (TU a cls fs))
    (e1 : tb' = fun _ _ => tb := by (first | rfl | (simp only [Cx.tr]; rfl))) (e2 : ts' = fun a _ cls d _ => ts a cls d := by (first | rfl | (simp only [Cx.suite]; rfl))) :
    DS X B (.Try body [.ExceptHandler (some (.Name x np)) (some n) (b₀ :: suite) pos'] [] [] pos) (fun D σ H => tb (wAs X.K c i ts Wout D) D σ H) (dTryAs X.K c i TB TU V) := by
  subst e1; subst e2
  exact ds_try_as hs hf hN hi hln hc tk xr hb hsu
end
end DL

/-! DLM: dict comprehensions. -/
namespace DL
open PySem PySem.Spec PyProof.Rows L2
def dcL (g : TDG) (tt : TDT) (tk tv : TDE) (p : Addr) (ρ0 : DR) (Q : Mu → Prop) : List D → Mu → Prop
  | [], μ => Q μ
  | x :: r, μ => g x ρ0 μ fun ρ2 μ2 => tt ρ2 μ2 fun b μ3 => if b = true then tk ρ2 μ3 fun y μ4 => tv ρ2 μ4 fun z μ5 => ∃ kvs k, keyD y = some k ∧ μ5 p = some (.dic kvs) ∧ kvs.length < sizeLine ∧ dcL g tt tk tv p ρ0 Q r (mup μ5 p (.dic (putD kvs k z))) else dcL g tt tk tv p ρ0 Q r μ3
def endDc (c : Bool) (p : Addr) (μ : Mu) (Q : QD) : Prop := match c with
  | true => Q (.ptr p) μ
  | false => ∃ kvs, μ p = some (.dic kvs) ∧ Q (.dic kvs) (mdel μ p)
@[simp] theorem endDc_t {p : Addr} {μ : Mu} {Q : QD} : endDc true p μ Q = Q (.ptr p) μ := rfl
@[simp] theorem endDc_f {p : Addr} {μ : Mu} {Q : QD} : endDc false p μ Q = ∃ kvs, μ p = some (.dic kvs) ∧ Q (.dic kvs) (mdel μ p) := rfl
theorem endDc_go {K : PySem.W.Frag} {c : Bool} {p : Addr} {μ : Mu} {Q : QD} {ρ : DR} {σ : St} {H : Hp} {G : Gh} {Qn : VK} (h : endDc c p μ Q) (S : Sat K B G ρ μ σ H) (hd : Hand K B G ρ σ Q Qn) : Qn (.ref p) H := by
  cases c with
  | true => exact hd.now S (.ptr p) h
  | false =>
    obtain ⟨kvs, e, q⟩ := h
    obtain ⟨_, o, y, z⟩ := S.hold.cell p _ e
    obtain ⟨ws, rfl, rr⟩ := cellR_dic z
    have g : Gle G (G.frz p (.dK ws)) := Gle.frz (S.hold.cell p _ e).1
    exact hd _ _ _ _ _ g ⟨S.hold.freeze e y, S.env.mono g⟩ (.dic (show upd G.fr p (.dK ws) p = some (.dK ws) from upd_same) rr.1 fun j v d x y => (rr.2.2 j v d x y).mono g) q
def dDc (c : Bool) (I : TDI) (g : TDG) (tt : TDT) (tk tv : TDE) (vs : List Nat) : TDE := fun ρ μ Q => I ρ μ fun xs μ1 => ∀ p, μ1 p = none → dcL g tt tk tv p (wipeD ρ vs) (fun μ2 => endDc c p μ2 Q) xs (mup μ1 p (.dic []))
@[simp ↓] theorem dDc_p {c : Bool} {I : TDI} {g : TDG} {tt : TDT} {tk tv : TDE} {vs : List Nat} {ρ} {μ} {Q} : dDc c I g tt tk tv vs ρ μ Q = (I ρ μ fun xs μ1 => ∀ p, μ1 p = none → dcL g tt tk tv p (wipeD ρ vs) (fun μ2 => endDc c p μ2 Q) xs (mup μ1 p (.dic []))) := id rfl
theorem ref_dc {K : PySem.W.Frag} {c : Bool} {I : TDI} {i : TI} {g : TDG} {gn : TG} {tt : TDT} {ttn : TT} {tk tv : TDE} {tkn tvn : TE} {vs : List Nat} (hi : RefI K B I i) (hg : RefG K B g gn) (hk : KeepG gn vs) (ht : RefT K B tt ttn) (hy : RefE K B tk tkn) (hv : RefE K B tv tvn) : RefE K B (dDc c I g tt tk tv vs) (tDc i gn ttn tkn tvn vs) := fun ρ μ σ H G Q Qn S h hd => by
  refine hi ρ μ σ H G _ _ S h fun xs μ1 J H1 G1 g1 S1 q1 hgo hyy => ?_
  intro p np
  have hc1 : Hold K G1 (mup μ1 p (.dic [])) (upd H1 p (.dK [])) := S1.hold.cellNew np (show CellR K G1 (.dK []) (.dic []) from FReps.nil)
  have q2 := q1 p (S1.hold.free np).2.1
  refine ⟨fun n m H' => m = xs.length - n ∧ n ≤ xs.length ∧ ∃ G' μ', Gle G1 G' ∧ Hold K G' μ' H' ∧ dcL g tt tk tv p (wipeD ρ vs) (fun μ2 => endDc c p μ2 Q) (xs.drop n) μ', ⟨xs.length, by simp, Nat.zero_le _, G1, _, Gle.refl _, hc1, by simpa using q2⟩, ?_⟩
  rintro n m H' ⟨rfl, hn, G', μ', g2, S2, q3⟩
  by_cases hlt : n < xs.length
  · refine .inr ⟨(hgo n H' G' μ' g2 S2).1 hlt, fun H3 => ∃ G3 μ3, Gle G1 G3 ∧ Hold K G3 μ3 H3 ∧ dcL g tt tk tv p (wipeD ρ vs) (fun μ2 => endDc c p μ2 Q) (xs.drop (n + 1)) μ3, ?_, ?_⟩
    · rintro H3 ⟨G3, μ3, g3, S3, q4⟩
      exact ⟨xs.length - (n + 1), by omega, rfl, hlt, G3, μ3, g3, S3, q4⟩
    · intro v H2 yv
      obtain ⟨G2, g3, h2, rv⟩ := hyy n xs[n] v H' H2 G' μ' g2 S2 (List.getElem?_eq_getElem hlt) yv
      rw [List.drop_eq_getElem_cons hlt] at q3
      have S3 : Sat K B G2 (wipeD ρ vs) μ' (L2.wipe σ vs) H2 := ⟨h2, (((S1.env.mono g2).mono g3).wipe vs)⟩
      have q4 := hg xs[n] v (wipeD ρ vs) μ' (L2.wipe σ vs) H2 G2 _ (fun σ2 H3 => ttn σ2 H3 fun b H3 => if b = true then tkn σ2 H3 fun y H4 => tvn σ2 H4 fun z H5 => ∃ kvs k, y = kV k ∧ H5 p = some (.dK kvs) ∧ kvs.length < sizeLine ∧ (∃ G3 μ3, Gle G1 G3 ∧ Hold K G3 μ3 (upd H5 p (.dK (putK kvs k z))) ∧ dcL g tt tk tv p (wipeD ρ vs) (fun μ2 => endDc c p μ2 Q) (xs.drop (n + 1)) μ3) else ∃ G3 μ3, Gle G1 G3 ∧ Hold K G3 μ3 H3 ∧ dcL g tt tk tv p (wipeD ρ vs) (fun μ2 => endDc c p μ2 Q) (xs.drop (n + 1)) μ3) S3 rv q3 fun ρ4 μ4 σ4 H4 G4 g4 S4 q4 => by
        refine ht ρ4 μ4 σ4 H4 G4 _ _ S4 q4 fun b μ5 H5 G5 g5 S5 q5 => ?_
        cases b with
        | true =>
          refine hy ρ4 μ5 σ4 H5 G5 _ _ S5 q5 fun dy μ6 v6 H6 G6 g6 S6 r6 q6 => hv ρ4 μ6 σ4 H6 G6 _ _ S6 q6 fun dz μ7 v7 H7 G7 g7 S7 r7 ⟨kvs, k, ek, e, l, q7⟩ => ?_
          obtain ⟨_, o, y, z⟩ := S7.hold.cell p _ e
          obtain ⟨ws, rfl, rr⟩ := cellR_dic z
          exact ⟨ws, k, rep_key (r6.mono g7) ek, y, by rw [rr.len]; exact l, G7, _, ((((g2.trans g3).trans g4).trans g5).trans g6).trans g7, S7.hold.cellSet e (show CellR K G7 (.dK (putK ws k v7)) (.dic (putD kvs k dz)) from rr.put k r7), q7⟩
        | false => exact ⟨G5, μ5, ((g2.trans g3).trans g4).trans g5, S5.hold, q5⟩
      have q5 := hk v (L2.wipe σ vs) H2 _ q4
      rw [wipe_wipe] at q5
      exact q5
  · have e : n = xs.length := by omega
    subst e
    rw [List.drop_length] at q3
    exact .inl ⟨(hgo _ H' G' μ' g2 S2).2 (Nat.le_refl _), endDc_go q3 ⟨S2, S1.env.mono g2⟩ (hd.mono (g1.trans g2))⟩
section
variable {X : Cx} {pos : Pos}
theorem de_dcA (c : Bool) {kx vx tg iter : Expr} {ifs : List Expr} {scope : Scope} {own : List (Str × Nat)} {wi : TI} {I : TDI} {g : TG} {U : TDG} {tt : TT} {tt' : Fam TT} {Tt : TDT} {tk tv : TE} {tk' tv' : Fam TE} {Tk Tv : TDE} (hc : X.calm = true) (hN : X.N.Nodup) (hi : DI X B tg iter wi I) (ok : BlkOk X.N X.env.scope scope own)
    (hg : ∀ (s : Shared) (H : Hp) (C : Addr) (cl : List (Str × Addr)) (fp : List Addr), DG (X.blk s H scope (compEnvC scope cl C X.env) fp) B tg g U) (hk : KeepG g (own.map (·.2))) (ht : ∀ (s : Shared) (H : Hp) (C : Addr) (cl : List (Str × Addr)) (fp : List Addr), DTs (X.blk s H scope (compEnvC scope cl C X.env) fp) B ifs (tt' s H C cl fp) Tt)
    (hy : ∀ (s : Shared) (H : Hp) (C : Addr) (cl : List (Str × Addr)) (fp : List Addr), DE (X.blk s H scope (compEnvC scope cl C X.env) fp) B kx (tk' s H C cl fp) Tk)
    (hv : ∀ (s : Shared) (H : Hp) (C : Addr) (cl : List (Str × Addr)) (fp : List Addr), DE (X.blk s H scope (compEnvC scope cl C X.env) fp) B vx (tv' s H C cl fp) Tv)
    (e0 : tt' = fun _ _ _ _ _ => tt := by (first | rfl | (simp only [Cx.blk]; rfl))) (e1 : tk' = fun _ _ _ _ _ => tk := by (first | rfl | (simp only [Cx.blk]; rfl))) (e2 : tv' = fun _ _ _ _ _ => tv := by (first | rfl | (simp only [Cx.blk]; rfl))) (hs : ∀ x, foldedSetIterable iter X.env x = pure x := by intro _; rfl) :
    DE X B (.DictComp kx vx [⟨tg, iter, ifs, 0⟩] scope pos) (tDc wi g tt tk tv (own.map (·.2))) (dDc c I U Tt Tk Tv (own.map (·.2))) := by
  subst e0; subst e1; subst e2
  exact ⟨pe_dc hc hN hi.pi ok (fun s H C cl fp => (hg s H C cl fp).pg) (fun s H C cl fp => (ht s H C cl fp).pts) (fun s H C cl fp => (hy s H C cl fp).pe) (fun s H C cl fp => (hv s H C cl fp).pe) hs,
    ref_dc hi.ref (hg X.s_0 X.H_0 0 [] []).ref hk (ht X.s_0 X.H_0 0 [] []).ref (hy X.s_0 X.H_0 0 [] []).ref (hv X.s_0 X.H_0 0 [] []).ref⟩
end
theorem dc_ind {g : TDG} {tt : TDT} {tk tv : TDE} {p : Addr} {ρ0 : DR} {Q : Mu → Prop} (I : List D → List (Key × D) → Mu → Prop) {xs : List D} {acc : List (Key × D)} {μ : Mu} (hp : μ p = none) (h : I xs acc μ)
    (hn : ∀ acc μ, μ p = none → I [] acc μ → Q (mup μ p (.dic acc)))
    (hc : ∀ x r acc μ (N : Mu → Prop), μ p = none → I (x :: r) acc μ → (∀ acc' μ'', μ'' p = none → I r acc' μ'' → N (mup μ'' p (.dic acc'))) → g x ρ0 (mup μ p (.dic acc)) fun ρ2 μ2 => tt ρ2 μ2 fun b μ3 => if b = true then tk ρ2 μ3 fun y μ4 => tv ρ2 μ4 fun z μ5 => ∃ kvs k, keyD y = some k ∧ μ5 p = some (.dic kvs) ∧ kvs.length < sizeLine ∧ N (mup μ5 p (.dic (putD kvs k z))) else N μ3) : dcL g tt tk tv p ρ0 Q xs (mup μ p (.dic acc)) := by
  induction xs generalizing acc μ with
  | nil => exact hn acc μ hp h
  | cons x r ih => exact hc x r acc μ (dcL g tt tk tv p ρ0 Q r) hp h fun acc' μ'' h1 h2 => ih h1 h2
end DL

/-! DLN: list(o), o of an own class whose __iter__ hands back a list's iterator. -/
namespace DL
open PySem PySem.Spec PyProof.Rows L2
section
variable {prog : Program} {w : World} {A : Around} {E : Value → Shared → Prop} {s : Shared} {it l : Addr} {i : Nat} {items : Array Value}
theorem pn_item {x : Value} {Q : Option Value → Shared → Prop} (ho : s.heap.get? it = some (GNX.itObj l i)) (hl : s.heap.IsList l items) (hx : items[i]? = some x)
    (hQ : ∀ h', h'.get? it = some (GNX.itObj l (i + 1)) → Heap.SameBut it s.heap h' → Q (some x) { s with heap := h' }) : wpAny (model prog w) A (pyNext (.ref it)) Q E s := by
  have hT : s.TypeIs (.ref it) "list_iterator" := ⟨_, ho, rfl⟩
  unfold pyNext
  refine wpAny_bind (wpAny_attempt (wpAny_callSpecial?_slot (name := Str.ofString "__next__") hT slot_listiter_next (wpAny_call_entry slot_listiter_next hT entry_listiter_next ?_ (args_listiter_next _))))
  refine wpAny_mono (GNX.next_item (Q := fun v s' => v = x ∧ Q (some x) s') ho hl hx fun h' e sb => ⟨rfl, hQ h' e sb⟩) (fun fin s' hq => ?_) fun _ _ z => z
  obtain ⟨v, e, rfl, q⟩ := hq
  exact ⟨v, e, wpAny_pure q⟩
theorem pn_end {Q : Option Value → Shared → Prop} (hh : A.handled = none) (ho : s.heap.get? it = some (GNX.itObj l i)) (hl : s.heap.IsList l items) (hx : items[i]? = none)
    (hQ : ∀ h1 h', h1.get? it = some (GNX.itEnd i) → Heap.SameBut it s.heap h1 → (∀ b o, h1.get? b = some o → h'.get? b = some o) → Q none { s with heap := h' }) : wpAny (model prog w) A (pyNext (.ref it)) Q E s := by
  have hT : s.TypeIs (.ref it) "list_iterator" := ⟨_, ho, rfl⟩
  unfold pyNext
  refine wpAny_bind (wpAny_attempt (wpAny_callSpecial?_slot (name := Str.ofString "__next__") hT slot_listiter_next (wpAny_call_entry slot_listiter_next hT entry_listiter_next ?_ (args_listiter_next _))))
  refine wpAny_mono (GNX.next_end (Q := fun _ _ => False) hh ho hl hx fun h1 h' e vs e1 sb k ne he' hv => ?_) (fun fin s' hq => ?_) fun _ _ z => z
  · have hTe : Shared.TypeIs { s with heap := h' } (.ref e) "StopIteration" := ⟨_, he', rfl⟩
    refine wpAny_bind (wpAny_isInstance hTe PySem.isSubtype_stop ?_)
    exact wpAny_pure (hQ h1 h' e1 sb k)
  · obtain ⟨v, e, z⟩ := hq
    exact z.elim
end
theorem upd_comm {H : Hp} {a b : Addr} {o u : HO} (h : a ≠ b) : upd (upd H a o) b u = upd (upd H b u) a o := by
  funext c
  unfold upd
  by_cases h1 : c = b
  · subst h1; rw [if_pos rfl, if_neg (Ne.symm h), if_pos rfl]
  · rw [if_neg h1]
    by_cases h2 : c = a
    · rw [if_pos h2, if_pos h2]
    · rw [if_neg h2, if_neg h2, if_neg h1]
section
variable {X : Cx} {pins : List (Addr × Obj)} {σ : L2.St} {it l q : Addr} {A1 : Around}
/-- the loop of list.extend over such an iterator -/
theorem it_loop {Rs : Result → Shared → Prop} {zs : List V} {H0 : Hp} (hz : zs.length < sizeLine) (hh : A1.in1.handled = none) (ne : q ≠ it)
    (hl : ∀ i, SqL X.K (upd (upd H0 it (ItO l it i)) q (.lst (zs.take i))) l zs)
    (hdone : ∀ s', Inv X pins σ (upd (upd H0 it (ItE it zs.length)) q (.lst zs)) s' → Rs (.ok (.ret .none)) s') :
    ∀ (m i : Nat) (s : Shared), i + m = zs.length → Inv X pins σ (upd (upd H0 it (ItO l it i)) q (.lst (zs.take i))) s → codeAny (model X.prog X.w) A1 (.builtin "list.extend.loop" ⟨[.ref q, .ref it, .none], []⟩) Rs s := by
  intro m
  induction m with
  | zero =>
    intro i s hi I
    refine codeAny_builtin PySem.F.entry_extend_loop ?_
    rw [Around.under_plainId PySem.F.plain_extend_loop _]
    show wpAny _ A1.in1 (pyNext (.ref it) >>= _) _ _ s
    obtain ⟨its, rv, pl, hz'⟩ := I.list (hl i)
    have hil : i = zs.length := by omega
    subst hil
    have eit : (upd (upd H0 it (ItO l it zs.length)) q (.lst (zs.take zs.length))) it = some (ItO l it zs.length) := by rw [upd_ne (Ne.symm ne), upd_same]
    refine wpAny_bind (pn_end hh (itO_get I eit) pl.isList (by rw [List.getElem?_toArray]; exact rv.none_of (by simp)) fun h1 h' e1 sb k => ?_)
    have I2 := I.write (h' := h1) (x := it) (e := it) (o := ItE it zs.length) (t' := s.toks) (by rw [eit]; exact True.intro) (.inl rfl) (fun b o nb z => (sb.2 b nb).trans z) ⟨_, e1⟩ (itE_ok e1)
    have I3 := I2.kept (t' := s.toks) (h' := h') k
    rw [← upd_comm (Ne.symm ne), upd_upd, List.take_length] at I3
    exact wpAny_pure (hdone _ I3)
  | succ m ih =>
    intro i s hi I
    refine codeAny_builtin PySem.F.entry_extend_loop ?_
    rw [Around.under_plainId PySem.F.plain_extend_loop _]
    show wpAny _ A1.in1 (pyNext (.ref it) >>= _) _ _ s
    obtain ⟨its, rv, pl, hz'⟩ := I.list (hl i)
    have hlt : i < zs.length := by omega
    have eit : (upd (upd H0 it (ItO l it i)) q (.lst (zs.take i))) it = some (ItO l it i) := by rw [upd_ne (Ne.symm ne), upd_same]
    obtain ⟨u, hu, ru⟩ := rv.get (List.getElem?_eq_getElem hlt)
    refine wpAny_bind (pn_item (itO_get I eit) pl.isList (by rw [List.getElem?_toArray]; exact hu) fun h1 e1 sb => ?_)
    have I2 := I.write (h' := h1) (x := it) (e := it) (o := ItO l it (i + 1)) (t' := s.toks) (by rw [eit]; exact True.intro) (.inl rfl) (fun b o nb z => (sb.2 b nb).trans z) ⟨_, e1⟩ (itO_ok e1)
    rw [← upd_comm (Ne.symm ne), upd_upd] at I2
    have hq' : (upd (upd H0 it (ItO l it (i + 1))) q (.lst (zs.take i))) q = some (.lst (zs.take i)) := upd_same
    show wpAny _ A1.in1 (updateSeq q (·.push u) >>= _) _ _ _
    obtain ⟨z, its2, k, r2, hl2, e⟩ := I2.lstM hq'
    have hsl : its2.length < sizeLine := by rw [← hl2, List.length_take]; omega
    refine wpAny_bind (wpAny_updateSeq e rfl (wpAny_pure ⟨plainId_quiet PySem.F.plain_extend_loop _, ?_⟩) (by rw [List.size_toArray]; omega) (by show (its2.toArray.push u).size ≤ sizeLine + 1; rw [Array.size_push, List.size_toArray]; omega))
    have I3 := I2.lset (f := (·.push u)) (its' := its2 ++ [u]) (ys := zs.take i ++ [zs[i]]) (t' := s.toks) hq' e (by simp) (r2.append (.cons ru .nil)) (by rw [List.length_append, List.length_singleton, List.length_take]; omega)
    rw [upd_upd, ← List.take_succ_eq_append_getElem hlt] at I3
    exact ih (i + 1) _ (by omega) I3
end
end DL

/-! DLO: list(o), len(o), str(o), comparisons, operators, o[k] = v of an own class: over the layer. -/
namespace DL
open PySem PySem.Spec PyProof.Rows L2
/-- the def at f of the class C under this name -/
structure OpAt (K : PySem.W.Frag) (C : Addr) (n : Str) (f : Addr) : Prop where
  at_ : PySem.W.findIn K (.ref C) n = some (some (.ref f))
  fn : PySem.W.isFn K (.ref f) = true
section
variable {X : Cx} {pins : List (Addr × Obj)} {σ : L2.St} {H : Hp} {s : Shared} {a C dx g q l it : Addr} {fs : List (Str × V)} {n k : Nat} {sp : Sp} {Ex : XK} {CX : CXT}
/-- an instance, as the library sees it -/
theorem ins_at (I : Inv X pins σ H s) (ha : H a = some (.ins C dx fs)) : ∃ ox od, PySem.W.InstAt s.heap a ox C od := by
  obtain ⟨mA, J, _⟩ := ins_get I.hok ha
  obtain ⟨od, J, _⟩ := J.look
  exact ⟨_, _, J⟩
/-- len(o) -/
def rLenO (C : Addr) (sp : Sp) (Ex : XK) : List V → Hp → VK → Prop := fun xs H Q => ∃ a dx fs, xs = [.ref a] ∧ H a = some (.ins C dx fs) ∧ sp [.ref a] H (fun z H' => ∃ i : Int, z = .int i ∧ (0 ≤ i ∧ i < 2 ^ 63) ∧ Q (.int i) H') Ex
theorem run_below {A : Around} {Q : VK} {us : List Value} {ws : List V} (F : FnR X.prog X.w X.K X.mg X.base CX k g sp) (hr : Room k A) (e0 : Env0 X.prog X.w X.K X.mg X.base A X.stack s H) (hx : Passes CX X Ex) (I : Inv X pins σ H s) (r : Vals ws us) (h : sp ws H Q Ex) :
    wpAny (model X.prog X.w) A (call (.ref g) us) (EP X pins σ Q) X.xe s := wpAny_call (SlX.run_at F hr e0 hx I r h)
theorem call_lenB {A : Around} (o : OpAt X.K C "__len__" g) (F : FnR X.prog X.w X.K X.mg X.base CX k g sp) (hr : Room k A.in1) (e0 : Env0 X.prog X.w X.K X.mg X.base A.in1 X.stack s H) (hx : Passes CX X Ex) {Q : VK} (I : Inv X pins σ H s) (ha : H a = some (.ins C dx fs)) (h : sp [.ref a] H (fun z H' => ∃ i : Int, z = .int i ∧ (0 ≤ i ∧ i < 2 ^ 63) ∧ Q (.int i) H') Ex) :
    wpAny (model X.prog X.w) A (call (.builtin "len") [.ref a]) (EP X pins σ Q) X.xe s := by
  obtain ⟨ox, od, J⟩ := ins_at I ha
  obtain ⟨m, hF⟩ := I.fr
  refine PySem.W.len_K hF I.ok.mod.kin J o.at_ o.fn (wpAny_mono (run_below (us := [.ref a]) (ws := [.ref a]) F hr e0 hx I (.cons rfl .nil) h) (fun w s' z => ?_) fun _ _ x => x)
  obtain ⟨z', H', I', rz, i, ei, hi, qz⟩ := z
  subst ei
  obtain ⟨t, e⟩ := (show ∃ t, w = Value.int i t from rz)
  cases e
  exact ⟨hi, .int i, H', I'.tok _, ⟨_, rfl⟩, qz⟩
theorem call_lenO (o : OpAt X.K C "__len__" g) (F : FnR X.prog X.w X.K X.mg X.base CX k g sp) (hr : Room (k + 1) X.A) (hx : Passes CX X Ex) : CallR X (.builtin "len") (rLenO C sp Ex) := by
  intro pins s σ H xs us Q I r h
  obtain ⟨a, dx, fs, rfl, ha, q⟩ := h
  obtain ⟨u, rfl, ru⟩ := r.one
  cases (show u = Value.ref a from ru)
  exact call_lenB o F hr.in1 I.env0.in1 hx I ha q
/-- str(o) -/
def rStrO (C : Addr) (sp : Sp) (Ex : XK) : List V → Hp → VK → Prop := fun xs H Q => ∃ a dx fs, xs = [.ref a] ∧ H a = some (.ins C dx fs) ∧ sp [.ref a] H (fun z H' => ∃ i : Str, z = .str i ∧ Q (.str i) H') Ex
theorem call_strO (o : OpAt X.K C "__str__" g) (F : FnR X.prog X.w X.K X.mg X.base CX k g sp) (hr : Room (k + 2) X.A) (hx : Passes CX X Ex) : CallR X (.type "str") (rStrO C sp Ex) := by
  intro pins s σ H xs us Q I r h
  obtain ⟨a, dx, fs, rfl, ha, q⟩ := h
  obtain ⟨u, rfl, ru⟩ := r.one
  cases (show u = Value.ref a from ru)
  obtain ⟨ox, od, J⟩ := ins_at I ha
  have hr2 : Room k X.A.in1.in1 := (show Room (k + 1) X.A.in1 from hr.in1).in1
  refine PySem.W.kso_call hr2.units0 I.kIn J o.at_ o.fn (wpAny_mono (run_below (us := [.ref a]) (ws := [.ref a]) F hr2 I.env0.in1.in1 hx I (.cons rfl .nil) q) (fun w s' z => ?_) fun _ _ x => x)
  obtain ⟨z', H', I', rz, i, ei, qz⟩ := z
  subst ei
  obtain ⟨t, e⟩ := (show ∃ t, w = Value.str i t from rz)
  cases e
  exact ⟨.str i, H', I', ⟨t, rfl⟩, qz⟩
/-- x op y by the class of x -/
def NF (K : PySem.W.Frag) (C : Addr) (y : V) (H : Hp) : Prop := ∃ t, TyX K H y t ∧ PySem.W.notFirst K C t = true
def rCmpO (K : PySem.W.Frag) (C : Addr) (sp : Sp) (Ex : XK) : R2 := fun x y H Q => ∃ a dx fs, x = .ref a ∧ H a = some (.ins C dx fs) ∧ NF K C y H ∧ sp [x, y] H Q Ex
theorem op_cmpO {op : CmpOp} (hop : ∀ a b, compareOp op a b = richCompare op a b) (o : OpAt X.K C (cmpInfo op).2.1 g) (F : FnR X.prog X.w X.K X.mg X.base CX k g sp) (hr : Room k X.A) (hx : Passes CX X Ex) : OpR X (compareOp op) (rCmpO X.K C sp Ex) := by
  intro pins s σ H x y v u Q I rx ry h
  obtain ⟨a, dx, fs, rfl, ha, ⟨t, ty, hn⟩, q⟩ := h
  cases (show v = Value.ref a from rx)
  obtain ⟨ox, od, J⟩ := ins_at I ha
  obtain ⟨P, Z, p, _⟩ := kit_of I ry ty
  obtain ⟨m, hF⟩ := I.fr
  rw [hop]
  refine PySem.W.cmp_K (op := op) (tb := t) hr.units0 hF I.ok.mod.kin J (Z.ty _ _ I.kIn p) hn o.at_ o.fn ?_
  refine wpAny_mono (run_below (us := [.ref a, u]) (ws := [.ref a, y]) F hr I.env0 hx I (.cons rfl (.cons ry .nil)) q) (fun w s' z => ?_) fun _ _ x => x
  obtain ⟨z', H', I', rz, qz⟩ := z
  exact SlX.cmpback rz ⟨z', H', I', rz, qz⟩
/-- x op y, both of the class -/
def rBinO (C : Addr) (sp : Sp) (Ex : XK) : R2 := fun x y H Q => ∃ a dx fs b dy gs, x = .ref a ∧ H a = some (.ins C dx fs) ∧ y = .ref b ∧ H b = some (.ins C dy gs) ∧ sp [x, y] H Q Ex
theorem op_binO {op : Operator} (hc : PySem.W.selfFirst X.K C = true) (o : OpAt X.K C (PySem.dunder op.info.2) g) (F : FnR X.prog X.w X.K X.mg X.base CX k g sp) (hr : Room k X.A) (hx : Passes CX X Ex) : OpR X (binaryOp op) (rBinO C sp Ex) := by
  intro pins s σ H x y v u Q I rx ry h
  obtain ⟨a, dx, fs, b, dy, gs, rfl, ha, rfl, hb, q⟩ := h
  cases (show v = Value.ref a from rx)
  cases (show u = Value.ref b from ry)
  obtain ⟨ox, od, J⟩ := ins_at I ha
  obtain ⟨oy, od', J'⟩ := ins_at I hb
  obtain ⟨m, hF⟩ := I.fr
  refine PySem.W.binop_K hF I.ok.mod.kin J J'.type hc o.at_ o.fn ?_
  refine wpAny_mono (run_below (us := [.ref a, .ref b]) (ws := [.ref a, .ref b]) F hr I.env0 hx I (.cons rfl (.cons rfl .nil)) q) (fun w s' z => ?_) fun _ _ x => x
  obtain ⟨z', H', I', rz, qz⟩ := z
  exact SlX.cmpback rz ⟨z', H', I', rz, qz⟩
/-- x op= y -/
def rInpO (C : Addr) (sp : Sp) (Ex : XK) : R2 := fun x y H Q => ∃ a dx fs, x = .ref a ∧ H a = some (.ins C dx fs) ∧ sp [x, y] H Q Ex
theorem op_inpO {op : Operator} (hc : PySem.W.selfFirst X.K C = true) (o : OpAt X.K C (PySem.dunderI op.info.2) g) (F : FnR X.prog X.w X.K X.mg X.base CX k g sp) (hr : Room k X.A) (hx : Passes CX X Ex) : OpR X (inplaceOp op) (rInpO C sp Ex) := by
  intro pins s σ H x y v u Q I rx ry h
  obtain ⟨a, dx, fs, rfl, ha, q⟩ := h
  cases (show v = Value.ref a from rx)
  obtain ⟨ox, od, J⟩ := ins_at I ha
  obtain ⟨m, hF⟩ := I.fr
  refine PySem.W.ksp_inplace hF I.ok.mod.kin J hc o.at_ o.fn ?_
  refine wpAny_mono (run_below (us := [.ref a, u]) (ws := [.ref a, y]) F hr I.env0 hx I (.cons rfl (.cons ry .nil)) q) (fun w s' z => ?_) fun _ _ x => x
  obtain ⟨z', H', I', rz, qz⟩ := z
  exact SlX.cmpback rz ⟨z', H', I', rz, qz⟩
/-- o[i] = v -/
def rSetO (C : Addr) (sp : Sp) (Ex : XK) : TSet := fun o i v H Q => ∃ a dx fs, o = .ref a ∧ H a = some (.ins C dx fs) ∧ sp [o, i, v] H (fun _ H' => Q H') Ex
theorem set_O (hq : PySem.W.noSeq X.K C = true) (o : OpAt X.K C "__setitem__" g) (F : FnR X.prog X.w X.K X.mg X.base CX k g sp) (hr : Room k X.A) (hx : Passes CX X Ex) : PSet X (rSetO C sp Ex) := by
  intro pins s σ H o' i v ou iu vu Q I ro ri rv h
  obtain ⟨a, dx, fs, rfl, ha, q⟩ := h
  cases (show ou = Value.ref a from ro)
  obtain ⟨ox, od, J⟩ := ins_at I ha
  obtain ⟨m, hF⟩ := I.fr
  refine PySem.W.ksp_setItem hF I.ok.mod.kin J hq o.at_ o.fn ?_
  refine wpAny_mono (run_below (us := [.ref a, iu, vu]) (ws := [.ref a, i, v]) F hr I.env0 hx I (.cons rfl (.cons ri (.cons rv .nil))) q) (fun w s' z => ?_) fun _ _ x => x
  obtain ⟨z', H', I', rz, qz⟩ := z
  exact ⟨H', I', qz⟩
end
end DL

/-! DLP: list(o) of an own class whose __iter__ is iter(self.f) and whose __len__ is len(self.f). -/
namespace DL
open PySem PySem.Spec PyProof.Rows L2
/-- what __len__ does: len(self.f) -/
def spLenF (K : PySem.W.Frag) (C : Addr) (f : Str) : Sp := fun vs H Q _ => ∃ a dx fs l xs, vs = [.ref a] ∧ H a = some (.ins C dx fs) ∧ fs.lookup f = some (.ref l) ∧ SqL K H l xs ∧ Q (.int xs.length) H
/-- what __iter__ does: iter(self.f) -/
def spIterF (K : PySem.W.Frag) (C : Addr) (f : Str) : Sp := fun vs H Q _ => ∃ a dx fs l xs, vs = [.ref a] ∧ H a = some (.ins C dx fs) ∧ fs.lookup f = some (.ref l) ∧ SqL K H l xs ∧ ∀ it, H it = none → Q (.ref it) (upd H it (ItO l it 0))
/-- H without what is behind n's iterator -/
theorem sqL_upd {K : PySem.W.Frag} {H : Hp} {a l : Addr} {o : HO} {xs : List V} (h : SqL K H l xs) (n : H a = none) : SqL K (upd H a o) l xs := Ext.seqL (Ext.new n) h
section
variable {X : Cx} {pins : List (Addr × Obj)} {σ : L2.St} {H : Hp} {s : Shared} {a C dx gl gi q l it : Addr} {fs : List (Str × V)} {n k : Nat} {f : Str}
theorem hint_O {A : Around} {xs : List V} (o : OpAt X.K C "__len__" gl) (F : FnR X.prog X.w X.K X.mg X.base CX0 k gl (spLenF X.K C f)) (hr : Room k A.in1) (e0 : Env0 X.prog X.w X.K X.mg X.base A.in1 X.stack s H) (I : Inv X pins σ H s) (ha : H a = some (.ins C dx fs)) (hf : fs.lookup f = some (.ref l)) (hl : SqL X.K H l xs) (hz : xs.length ≤ sizeLine)
    {Q : Bool → Shared → Prop} {E : Value → Shared → Prop} (h : ∀ b s', Inv X pins σ H s' → Q b s') : wpAny (model X.prog X.w) A (Builtin.List.listLengthHint (.ref a)) Q E s := by
  obtain ⟨ox, od, J⟩ := ins_at I ha
  have hz' := hz
  rw [sizeLine_eq] at hz'
  unfold Builtin.List.listLengthHint
  refine wpAny_bind (wpAny_bind (J.type.here ((PySem.W.looks_findIn I.kIn o.at_).here ?_)))
  dsimp only
  refine PySem.W.KFB.if_not rfl ?_
  refine wpAny_bind ?_
  refine wpAny_rule ?_
  refine wpAny_bind (wpAny_attempt ?_)
  refine wpAny_mono (call_lenB (X := X.nox) (Ex := E0) o F hr ⟨e0.frames, e0.mod, e0.bs, e0.bsz, e0.funs, e0.frf, e0.hok, e0.bare⟩ pass0 (Q := fun z H' => z = .int xs.length ∧ H' = H) (I.wish _) ha ⟨a, dx, fs, l, xs, rfl, ha, hf, hl, _, rfl, ⟨by omega, by omega⟩, rfl, rfl⟩) (fun u s' z => ?_) fun e s' z => z.elim
  obtain ⟨z', H', I', rz, ez, rfl⟩ := z
  subst ez
  obtain ⟨t, e⟩ := (show ∃ t, u = Value.int xs.length t from rz)
  cases e
  refine wpAny_bind (m := asInt? (.int xs.length t)) (wpAny_pure ?_)
  dsimp only
  have hn : Builtin.List.listTooLong (Int.toNat (xs.length : Int)) = false := by
    unfold Builtin.List.listTooLong
    simp only [Int.toNat_natCast, decide_eq_false_iff_not]
    omega
  rw [if_neg (by rw [hn]; exact Bool.false_ne_true)]
  exact wpAny_pure (h _ _ I'.unwish)
theorem extend_O {A1 : Around} {xs : List V} {Rs : Result → Shared → Prop} (ol : OpAt X.K C "__len__" gl) (oi : OpAt X.K C "__iter__" gi) (FL : FnR X.prog X.w X.K X.mg X.base CX0 k gl (spLenF X.K C f)) (FI : FnR X.prog X.w X.K X.mg X.base CX0 k gi (spIterF X.K C f))
    (hr : Room (k + 1) A1.in1) (hfr : A1.frames = X.A.frames) (I : Inv X pins σ H s) (ha : H a = some (.ins C dx fs)) (hf : fs.lookup f = some (.ref l)) (hl : SqL X.K H l xs) (hz : xs.length < sizeLine) (hq : H q = some (.lst [])) (hql : q ≠ l)
    (hdone : ∀ it s', H it = none → Inv X pins σ (upd (upd H it (ItE it xs.length)) q (.lst xs)) s' → Rs (.ok (.ret .none)) s') :
    wpAny (model X.prog X.w) A1.in1 (Builtin.List.listExtendWith (.ref q) (.ref a) .none)
      (fun fin s' => match fin with | .done f => Rs (.ok f) s' | .again c' => c'.quiet = true ∧ codeAny (model X.prog X.w) A1 c' Rs s') (fun e s' => Rs (.error e) s') s := by
  have hne : q ≠ a := ne_of hq ha (fun z => nomatch z)
  obtain ⟨ox, od, J⟩ := ins_at I ha
  obtain ⟨m0, hF⟩ := I.fr
  have env0 : ∀ {s : Shared} {H : Hp} {A : Around}, A.frames = A1.frames → Inv X pins σ H s → Env0 X.prog X.w X.K X.mg X.base A X.stack s H := fun {s H A} e I => by
    have e1 := I.env0
    exact ⟨by rw [e, hfr]; exact e1.frames, e1.mod, e1.bs, e1.bsz, e1.funs, e1.frf, e1.hok, e1.bare⟩
  unfold Builtin.List.listExtendWith
  refine wpAny_bind (J.type.here ?_)
  have h1 : Builtin.List.listSameRef (.ref q) (.ref a) = false := by simp [Builtin.List.listSameRef, hne]
  have h2 : (Value.ref C == Value.type "list") = false := rfl
  have h3 : (Value.ref C == Value.type "tuple") = false := rfl
  simp only [h1, h2, h3, Bool.or_false, Bool.false_eq_true, if_false]
  refine wpAny_bind (PySem.W.owit_iter hF I.ok.mod.kin J oi.at_ oi.fn ?_)
  refine wpAny_mono (run_below (X := X.nox) (Ex := E0) (us := [.ref a]) (ws := [.ref a]) (Q := fun v H' => ∃ it, H it = none ∧ v = .ref it ∧ H' = upd H it (ItO l it 0)) FI (hr.mono (Nat.le_succ _)) (by have := env0 (A := A1.in1) rfl I; exact ⟨this.frames, this.mod, this.bs, this.bsz, this.funs, this.frf, this.hok, this.bare⟩) pass0 (I.wish _) (.cons rfl .nil) ⟨a, dx, fs, l, xs, rfl, ha, hf, hl, fun it hn => ⟨it, hn, rfl, rfl⟩⟩) (fun u s' z => ?_) fun e s' z => z.elim
  obtain ⟨v, H', I', rv, it, hn, ev, eH⟩ := z
  subst ev; subst eH
  cases (show u = Value.ref it from rv)
  have I' := I'.unwish
  have nia : a ≠ it := ne_of_none ha hn
  have niq : q ≠ it := ne_of_none hq hn
  have ho := itO_get I' (upd_same)
  have hT : s'.TypeIs (.ref it) "list_iterator" := ⟨_, ho, rfl⟩
  unfold PySem.W.OwitIt
  refine wpAny_specialOf hT slot_listiter_next.lookup ?_
  have ha' : (upd H it (ItO l it 0)) a = some (.ins C dx fs) := by rw [upd_ne nia]; exact ha
  refine wpAny_bind (wpAny_holding (hint_O ol FL (A := A1.in1) hr.in1 (env0 rfl I') I' ha' hf (sqL_upd hl hn) (Nat.le_of_lt hz) fun b s2 I2 => ?_))
  have hq2 : (upd H it (ItO l it 0)) q = some (.lst []) := by rw [upd_ne niq]; exact hq
  have e0 : upd (upd H it (ItO l it 0)) q (.lst (xs.take 0)) = upd H it (ItO l it 0) := by
    funext b
    by_cases hb : b = q
    · subst hb; rw [upd_same, hq2]; rfl
    · rw [upd_ne hb]
  have sq : ∀ i, SqL X.K (upd (upd H it (ItO l it i)) q (.lst (xs.take i))) l xs := fun i => by
    have h1 := sqL_upd (o := ItO l it i) hl hn
    rcases h1 with h1 | h1
    · refine .inl ?_
      rcases h1 with h1 | ⟨o, h1⟩
      · exact .inl (by rw [upd_ne (Ne.symm hql)]; exact h1)
      · exact .inr ⟨o, by rw [upd_ne (Ne.symm hql)]; exact h1⟩
    · exact .inr h1
  have fin : ∀ s3, Inv X pins σ (upd H it (ItO l it 0)) s3 → codeAny (model X.prog X.w) A1 (.builtin "list.extend.loop" ⟨[.ref q, .ref it, .none], []⟩) Rs s3 := fun s3 I3 =>
    it_loop (H0 := H) hz hr.hd niq sq (fun s4 I4 => hdone it s4 hn I4) xs.length 0 s3 (by omega) (by rw [e0]; exact I3)
  refine wpAny_ite_split (fun _ => ?_) (fun _ => wpAny_pure ⟨plainId_quiet PySem.F.plain_extend_loop _, fin _ I2⟩)
  refine wpAny_bind (wpAny_rule ?_)
  refine wpAny_bind ?_
  show wpAny _ _ (updateSeq q (·.push .none) >>= fun _ => updateSeq q (·.pop)) _ _ _
  obtain ⟨z, its, k3, r3, hl3, e3⟩ := I2.lstM hq2
  cases r3
  refine wpAny_bind (wpAny_updateSeq e3 rfl ?_)
  have I4 := I2.lset (f := (·.push Value.none)) (its' := [Value.none]) (ys := [.non]) (t' := s2.toks) hq2 e3 (by simp) (.cons rfl .nil) (by rw [List.length_singleton, sizeLine_eq]; decide)
  obtain ⟨z4, its4, k4, r4, hl4, e4⟩ := I4.lstM upd_same
  obtain ⟨u4, rfl, ru4⟩ := r4.one
  refine wpAny_updateSeq e4 rfl ?_ (by show 1 ≤ sizeLine; rw [sizeLine_eq]; decide) (by show 0 ≤ sizeLine + 1; exact Nat.zero_le _)
  refine wpAny_pure ⟨plainId_quiet PySem.F.plain_extend_loop _, fin _ ?_⟩
  have I5 := I4.lset (f := (·.pop)) (its := [u4]) (its' := []) (ys := []) (t' := s2.toks) upd_same e4 (by rfl) .nil (Nat.zero_le _)
  rw [upd_upd] at I5
  have hH : upd (upd H it (ItO l it 0)) q (.lst []) = upd H it (ItO l it 0) := e0
  rw [hH] at I5
  exact I5
/-- list(o) -/
def rListO (K : PySem.W.Frag) (C : Addr) (f : Str) : List V → Hp → VK → Prop := fun vs H Q => ∃ a dx fs l xs, vs = [.ref a] ∧ H a = some (.ins C dx fs) ∧ fs.lookup f = some (.ref l) ∧ SqL K H l xs ∧ xs.length < sizeLine ∧ ∀ q it, H q = none → H it = none → q ≠ it → Q (.ref q) (upd (upd H it (ItE it xs.length)) q (.lst xs))
theorem call_listO (ol : OpAt X.K C "__len__" gl) (oi : OpAt X.K C "__iter__" gi) (FL : FnR X.prog X.w X.K X.mg X.base CX0 k gl (spLenF X.K C f)) (FI : FnR X.prog X.w X.K X.mg X.base CX0 k gi (spIterF X.K C f)) (hr : Room (k + 3) X.A) : CallR X (.type "list") (rListO X.K C f) := by
  intro pins s σ H vs us Q I rv h
  obtain ⟨a, dx, fs, l, xs, rfl, ha, hf, hl, hz, hq⟩ := h
  obtain ⟨u, rfl, ru⟩ := rv.one
  cases ru
  refine callType_codes (Q₁ := fun obj s₁ => obj = .ref s.heap.objs.size ∧ s₁ = { s with heap := s.heap.push { cls := .type "list", data := .seq #[] } }) PySem.F.called_list (PySem.F.typeCall_list_1 _) PySem.F.entry_list_init
    (code_list_new _ ⟨rfl, rfl⟩) fun obj s₁ h₁ => ?_
  obtain ⟨rfl, rfl⟩ := h₁
  have hS : (s.heap.push { cls := .type "list", data := .seq #[] }).get? s.heap.objs.size = some { cls := .type "list", data := .seq #[] } := Heap.get?_push_size _ rfl
  refine ⟨⟨_, hS, rfl⟩, PySem.F.args_list_init_2 _ _, ?_⟩
  have fr : H s.heap.objs.size = none := I.hok.fresh (Nat.le_refl _)
  have I1 : Inv X pins σ (upd H s.heap.objs.size (.lst [])) { s with heap := s.heap.push { cls := .type "list", data := .seq #[] } } := I.lnew (its := []) (t' := s.toks) .nil (Nat.zero_le _)
  show wpAny _ _ (do let old ← Builtin.List.listItems (.ref s.heap.objs.size); Builtin.List.listUpdate (.ref s.heap.objs.size) (fun _ => #[]); letGo old.toList.reverse; Builtin.List.listExtendWith (.ref s.heap.objs.size) (.ref a) .none) _ _ _
  refine wpAny_bind ?_
  unfold Builtin.List.listItems
  refine wpAny_bind (wpAny_seqItems hS rfl (wpAny_pure ?_))
  show wpAny _ _ (updateSeq s.heap.objs.size (fun _ => #[]) >>= fun _ => letGo (#[] : Array Value).toList.reverse >>= fun _ => Builtin.List.listExtendWith (.ref s.heap.objs.size) (.ref a) .none) _ _ _
  refine wpAny_bind (wpAny_updateSeq hS rfl ?_)
  have I2 := I1.lset (f := fun _ => #[]) (its := []) (its' := []) (ys := []) (t' := s.toks) upd_same hS rfl .nil (Nat.zero_le _)
  rw [upd_upd] at I2
  refine wpAny_bind (wpAny_letGo ?_)
  have nq : a ≠ s.heap.objs.size := ne_of_none ha fr
  have ha2 : upd H s.heap.objs.size (.lst []) a = some (.ins C dx fs) := by rw [upd_ne nq]; exact ha
  have hql : s.heap.objs.size ≠ l := by
    intro e
    rcases hl with (h | ⟨o, h⟩) | h
    · rw [← e, fr] at h; cases h
    · rw [← e, fr] at h; cases h
    · obtain ⟨o, its, n, h1, _⟩ := h
      have := I.kIn _ _ h1
      rw [← e] at this
      exact absurd (Heap.lt_size this) (Nat.lt_irrefl _)
  refine extend_O (A1 := X.A.in1) (H := upd H s.heap.objs.size (.lst [])) (Rs := wants (fun r s₂ => r = .none ∧ EP X pins σ Q (.ref s.heap.objs.size) s₂) X.xe) ol oi FL FI (show Room (k + 1) X.A.in1.in1 from (show Room (k + 2) X.A.in1 from hr.in1).in1) rfl I2 ha2 hf (sqL_upd hl fr) hz upd_same hql ?_
  intro it s' hn I'
  have ne : s.heap.objs.size ≠ it := fun e => by rw [← e, upd_same] at hn; cases hn
  have hn' : H it = none := by rw [upd_ne (Ne.symm ne)] at hn; exact hn
  rw [upd_comm ne, upd_upd] at I'
  exact ⟨rfl, .ref s.heap.objs.size, _, I', rfl, hq _ it fr hn' ne⟩
end
end DL

/-! DLQ: own operators, built-ins of own objects, star parameters, class methods, f-strings, enumerate, a try that runs through: over data. -/
namespace DL
open PySem PySem.Spec PyProof.Rows L2
/-- what an own class must have: where it is compared, asked after, joined -/
structure OwnC (K : PySem.W.Frag) (C : Addr) : Prop where
  cl : Cls K C
  ha : PySem.W.findIn K (.ref C) "__class__" = some (some (.builtin "object.__class__"))
  hn : PySem.W.specialIn K (.builtin "object.__class__") "__get__" = some (some (.builtin "getset_descriptor.__get__"))
  htk : PySem.W.takesIn K (.builtin "object.__class__") = some true
  hm : PySem.W.mroIn K C (.type "object") = some true
  sf : PySem.W.selfFirst K C = true
  ns : PySem.W.noSeq K C = true
  sub : ∀ T ∈ tyNames, PySem.W.subIn K (.type T) (.ref C) = some false
  ki : ∀ T ∈ tyNames, PySem.W.kitOne K (.type T) (.ref C) = some false
  kc : PySem.W.kitOne K (.ref C) (.ref C) = some true
  kt : ∀ T ∈ tyNames, PySem.W.kitOne K (.ref C) (.type T) = some false
section
variable {K : PySem.W.Frag} {G : Gh} {μ : Mu} {H : Hp} {v : V} {d : D} {C : Addr} {B : Gh} {ρ : DR} {σ : St} {Q : QD} {Qn : VK} {S : DSp}
theorem tyN_mem {n : String} (h : tyN d = some n) : n ∈ tyNames := by
  cases d <;> simp [tyN] at h <;> subst h <;> decide
theorem ty_obj {fs : List (Str × D)} (O : OwnC K C) (S : Hold K G μ H) (r : Rep K G v d) (e : vw μ d = .obj C fs) : TyX K H v (.ref C) := by
  obtain ⟨a, dx, vs, rfl, h1, _⟩ := S.obj r e
  exact .base (.ins h1 O.cl O.ha O.hn O.htk O.hm)
/-- may stand beside an object of the class -/
def okO (C : Addr) : D → Bool
  | .obj C' _ => decide (C' = C)
  | d => (tyN d).isSome
theorem okO_go (O : OwnC K C) (S : Hold K G μ H) (r : Rep K G v d) (h : okO C (vw μ d) = true) : NF K C v H := by
  have oth : ∀ n, tyN (vw μ d) = some n → NF K C v H := fun n e => ⟨.type n, ty_go S r e, by
    unfold PySem.W.notFirst
    rw [O.sub n (tyN_mem e)]
    simp⟩
  cases e : vw μ d with
  | obj C' fs =>
    rw [e] at h
    have h' : C' = C := by simpa [okO] using h
    subst h'
    exact ⟨.ref C', ty_obj O S r e, by unfold PySem.W.notFirst; simp⟩
  | non => exact oth _ (by rw [e]; rfl)
  | bl _ => exact oth _ (by rw [e]; rfl)
  | int _ => exact oth _ (by rw [e]; rfl)
  | str _ => exact oth _ (by rw [e]; rfl)
  | lst _ => exact oth _ (by rw [e]; rfl)
  | tup _ => exact oth _ (by rw [e]; rfl)
  | dic _ => exact oth _ (by rw [e]; rfl)
  | src => rw [e] at h; cases h
  | room => rw [e] at h; cases h
  | ptr _ => rw [e] at h; cases h
  | scr _ => rw [e] at h; cases h
/-- the promise at the values' level from the one over data -/
theorem sp_to {vs : List V} {ds : List D} (S0 : Sat K B G ρ μ σ H) (r : Reps K G vs ds) (h : S ds μ Q noX) (hd : Hand K B G ρ σ Q Qn) : toSp K S vs H Qn E0 :=
  ⟨G, ds, μ, Q, noX, S0.hold, r, h, fun d' μ' v' H' G' g' h' r' q' => hd d' μ' v' H' G' g' ⟨h', S0.env.mono g'⟩ r' q', fun _ _ _ _ _ _ _ _ _ z => z.elim⟩
/-- .. with a wish of one's own -/
theorem sp_toQ {vs : List V} {ds : List D} {Qv : VK} (S0 : Hold K G μ H) (r : Reps K G vs ds) (h : S ds μ Q noX) (hd : ∀ d' μ' v' H' G', Gle G G' → Hold K G' μ' H' → Rep K G' v' d' → Q d' μ' → Qv v' H') : toSp K S vs H Qv E0 :=
  ⟨G, ds, μ, Q, noX, S0, r, h, hd, fun _ _ _ _ _ _ _ _ _ z => z.elim⟩
end
theorem fnr_of {P : Program} {w : World} {K : PySem.W.Frag} {mg : Str → Option Value} {base : Heap} {k : Nat} {f : Addr} {fd : FuncData} {ps : List Str} {sp : Sp} (F : FnOk P w K mg base CX0 k f fd ps sp) (hb : Binds K fd ps []) : FnR P w K mg base CX0 k f sp :=
  (F.raw hb .nil).imp fun vs H Q E h => by rw [List.append_nil]; exact h
section
variable {X : Cx} {pos : Pos} {C g : Addr} {k : Nat} {S : DSp}
/-! operators -/
def opCmpO (C : Addr) (S : DSp) : R2D := fun x y μ Q => oF C (vw μ x) fun _ => okO C (vw μ y) = true ∧ S [x, y] μ Q noX
@[simp ↓] theorem opCmpO_p {x y : D} {μ : Mu} {Q : QD} : opCmpO C S x y μ Q = (oF C (vw μ x) fun _ => okO C (vw μ y) = true ∧ S [x, y] μ Q noX) := id rfl
theorem do_cmpO {op : CmpOp} (hop : ∀ a b, compareOp op a b = richCompare op a b) (O : OwnC X.K C) (o : OpAt X.K C (cmpInfo op).2.1 g) (F : FnR X.prog X.w X.K X.mg X.base CX0 k g (toSp X.K S)) (hr : Room k X.A) :
    OpR X (compareOp op) (rCmpO X.K C (toSp X.K S) E0) ∧ Ref2 X.K B (opCmpO C S) (rCmpO X.K C (toSp X.K S) E0) := by
  refine ⟨op_cmpO hop o F hr pass0, ?_⟩
  intro ρ μ σ H G x y dx dy Q Qn S0 r1 r2 h hd
  obtain ⟨a, dx', vs, fs, rfl, h1, rr, _, ok, q⟩ := oF_go h S0.hold r1
  exact ⟨a, dx', vs, rfl, h1, okO_go O S0.hold r2 ok, sp_to S0 (Reps.cons r1 (Reps.one r2)) q hd⟩
def opBinO (C : Addr) (S : DSp) : R2D := fun x y μ Q => oF C (vw μ x) fun _ => oF C (vw μ y) fun _ => S [x, y] μ Q noX
@[simp ↓] theorem opBinO_p {x y : D} {μ : Mu} {Q : QD} : opBinO C S x y μ Q = (oF C (vw μ x) fun _ => oF C (vw μ y) fun _ => S [x, y] μ Q noX) := id rfl
theorem do_binO {op : Operator} (O : OwnC X.K C) (o : OpAt X.K C (PySem.dunder op.info.2) g) (F : FnR X.prog X.w X.K X.mg X.base CX0 k g (toSp X.K S)) (hr : Room k X.A) :
    OpR X (binaryOp op) (rBinO C (toSp X.K S) E0) ∧ Ref2 X.K B (opBinO C S) (rBinO C (toSp X.K S) E0) := by
  refine ⟨op_binO O.sf o F hr pass0, ?_⟩
  intro ρ μ σ H G x y dx dy Q Qn S0 r1 r2 h hd
  obtain ⟨a, dx', vs, fs, rfl, h1, rr, _, h⟩ := oF_go h S0.hold r1
  obtain ⟨b, dy', ws, gs, rfl, h2, rr2, _, q⟩ := oF_go h S0.hold r2
  exact ⟨a, dx', vs, b, dy', ws, rfl, h1, rfl, h2, sp_to S0 (Reps.cons r1 (Reps.one r2)) q hd⟩
def opInpO (C : Addr) (S : DSp) : R2D := fun x y μ Q => oF C (vw μ x) fun _ => S [x, y] μ Q noX
@[simp ↓] theorem opInpO_p {x y : D} {μ : Mu} {Q : QD} : opInpO C S x y μ Q = (oF C (vw μ x) fun _ => S [x, y] μ Q noX) := id rfl
theorem do_inpO {op : Operator} (O : OwnC X.K C) (o : OpAt X.K C (PySem.dunderI op.info.2) g) (F : FnR X.prog X.w X.K X.mg X.base CX0 k g (toSp X.K S)) (hr : Room k X.A) :
    OpR X (inplaceOp op) (rInpO C (toSp X.K S) E0) ∧ Ref2 X.K B (opInpO C S) (rInpO C (toSp X.K S) E0) := by
  refine ⟨op_inpO O.sf o F hr pass0, ?_⟩
  intro ρ μ σ H G x y dx dy Q Qn S0 r1 r2 h hd
  obtain ⟨a, dx', vs, fs, rfl, h1, rr, _, q⟩ := oF_go h S0.hold r1
  exact ⟨a, dx', vs, rfl, h1, sp_to S0 (Reps.cons r1 (Reps.one r2)) q hd⟩
/-! o[i] = v -/
def dgSubO (C : Addr) (S : DSp) (To Ti : TDE) : TDG := fun d ρ μ Q => To ρ μ fun o μ1 => Ti ρ μ1 fun i μ2 => oF C (vw μ2 o) fun _ => S [o, i, d] μ2 (fun _ μ3 => Q ρ μ3) noX
@[simp ↓] theorem dgSubO_p {To Ti : TDE} {d : D} {ρ} {μ} {Q} : dgSubO C S To Ti d ρ μ Q = (To ρ μ fun o μ1 => Ti ρ μ1 fun i μ2 => oF C (vw μ2 o) fun _ => S [o, i, d] μ2 (fun _ μ3 => Q ρ μ3) noX) := id rfl
theorem dg_subO {o i : Expr} {to ti : TE} {To Ti : TDE} (O : OwnC X.K C) (oa : OpAt X.K C "__setitem__" g) (F : FnR X.prog X.w X.K X.mg X.base CX0 k g (toSp X.K S)) (hr : Room k X.A) (ho : DE X B o to To) (hi : DE X B i ti Ti) (ha : ∀ v, assign (.Subscript o i pos) X.env v = (do
      let ov ← holding [v] (eval o X.env)
      let iv ← holding [v, ov] (eval i X.env)
      standAt pos
      holding [v, ov, iv] (setItem ov iv v)
      release [v, ov, iv] []) := by intro _; rfl) : DG X B (.Subscript o i pos) (gSub to ti (rSetO C (toSp X.K S) E0)) (dgSubO C S To Ti) :=
  ⟨pg_sub ho.pe hi.pe (set_O O.ns oa F hr pass0) ha, fun d v ρ μ σ H G Q Qn S0 r h hd => ho.ref ρ μ σ H G _ _ S0 h fun o' μ1 ov H1 G1 g1 S1 r1 q1 => hi.ref ρ μ1 σ H1 G1 _ _ S1 q1 fun i' μ2 iv H2 G2 g2 S2 r2 q2 => by
    obtain ⟨a, dx', vs, fs, rfl, h1, rr, _, q⟩ := oF_go q2 S2.hold (r1.mono g2)
    exact ⟨a, dx', vs, rfl, h1, sp_toQ S2.hold (Reps.cons (r1.mono g2) (Reps.cons r2 (Reps.one (r.mono (g1.trans g2))))) q fun d' μ' v' H' G' g' h' r' q' => hd ρ μ' σ H' G' ((g1.trans g2).trans g') ⟨h', S2.env.mono g'⟩ q'⟩⟩
/-! len(o), str(o), list(o) -/
def iS (v : D) (P : Int → Prop) : Prop := match v with | .int i => P i | _ => False
@[simp ↓] theorem iS_p {v : D} {P : Int → Prop} : iS v P = (match v with | .int i => P i | _ => False) := id rfl
def cLenO (C : Addr) (S : DSp) : RCD := fun ds μ Q => match ds with
  | [x] => oF C (vw μ x) fun _ => S [x] μ (fun v μ' => iS v fun i => (0 ≤ i ∧ i < 2 ^ 63) ∧ Q (.int i) μ') noX
  | _ => False
@[simp ↓] theorem cLenO_p {x : D} {μ : Mu} {Q : QD} : cLenO C S [x] μ Q = (oF C (vw μ x) fun _ => S [x] μ (fun v μ' => iS v fun i => (0 ≤ i ∧ i < 2 ^ 63) ∧ Q (.int i) μ') noX) := id rfl
theorem dc_lenO (o : OpAt X.K C "__len__" g) (F : FnR X.prog X.w X.K X.mg X.base CX0 k g (toSp X.K S)) (hr : Room (k + 1) X.A) : CallR X (.builtin "len") (rLenO C (toSp X.K S) E0) ∧ RefC X.K B (cLenO C S) (rLenO C (toSp X.K S) E0) := by
  refine ⟨call_lenO o F hr pass0, ?_⟩
  intro ρ μ σ H G vs ds Q Qn S0 r h hd
  unfold cLenO at h
  split at h
  · obtain ⟨v, rfl, rv⟩ := reps1 r
    obtain ⟨a, dx', ws, fs, rfl, h1, rr, _, q⟩ := oF_go h S0.hold rv
    refine ⟨a, dx', ws, rfl, h1, sp_toQ S0.hold (Reps.one rv) q fun d' μ' v' H' G' g' h' r' q' => ?_⟩
    cases d' with
    | int i => exact ⟨i, r'.ofInt, q'.1, hd (.int i) μ' _ H' G' g' ⟨h', S0.env.mono g'⟩ (.int i) q'.2⟩
    | _ => exact False.elim q'
  · exact h.elim
def cStrO (C : Addr) (S : DSp) : RCD := fun ds μ Q => match ds with
  | [x] => oF C (vw μ x) fun _ => S [x] μ (fun v μ' => sS v fun s => Q (.str s) μ') noX
  | _ => False
@[simp ↓] theorem cStrO_p {x : D} {μ : Mu} {Q : QD} : cStrO C S [x] μ Q = (oF C (vw μ x) fun _ => S [x] μ (fun v μ' => sS v fun s => Q (.str s) μ') noX) := id rfl
theorem dc_strO (o : OpAt X.K C "__str__" g) (F : FnR X.prog X.w X.K X.mg X.base CX0 k g (toSp X.K S)) (hr : Room (k + 2) X.A) : CallR X (.type "str") (rStrO C (toSp X.K S) E0) ∧ RefC X.K B (cStrO C S) (rStrO C (toSp X.K S) E0) := by
  refine ⟨call_strO o F hr pass0, ?_⟩
  intro ρ μ σ H G vs ds Q Qn S0 r h hd
  unfold cStrO at h
  split at h
  · obtain ⟨v, rfl, rv⟩ := reps1 r
    obtain ⟨a, dx', ws, fs, rfl, h1, rr, _, q⟩ := oF_go h S0.hold rv
    refine ⟨a, dx', ws, rfl, h1, sp_toQ S0.hold (Reps.one rv) q fun d' μ' v' H' G' g' h' r' q' => ?_⟩
    cases d' with
    | str i => exact ⟨i, r'.ofStr, hd (.str i) μ' _ H' G' g' ⟨h', S0.env.mono g'⟩ (.str i) q'⟩
    | _ => exact False.elim q'
  · exact h.elim
def cListO (c : Bool) (C : Addr) (f : Str) : RCD := fun ds μ Q => match ds with
  | [x] => oF C (vw μ x) fun fs => oS (fget fs f) fun v => lS (vw μ v) fun xs => xs.length ≤ 16000000 ∧ mkL c xs μ Q
  | _ => False
@[simp ↓] theorem cListO_p {c : Bool} {f : Str} {x : D} {μ : Mu} {Q : QD} : cListO c C f [x] μ Q = (oF C (vw μ x) fun fs => oS (fget fs f) fun v => lS (vw μ v) fun xs => xs.length ≤ 16000000 ∧ mkL c xs μ Q) := id rfl
theorem ofLstRef {K : PySem.W.Frag} {G : Gh} {μ : Mu} {H : Hp} {v : V} {d : D} {xs : List D} (S : Hold K G μ H) (r : Rep K G v d) (e : vw μ d = .lst xs) : ∃ a vs, v = .ref a ∧ H a = some (.lst vs) ∧ Reps K G vs xs := S.lst r e
theorem dc_listO (c : Bool) {f : Str} {gl gi : Addr} (ol : OpAt X.K C "__len__" gl) (oi : OpAt X.K C "__iter__" gi) (FL : FnR X.prog X.w X.K X.mg X.base CX0 k gl (spLenF X.K C f)) (FI : FnR X.prog X.w X.K X.mg X.base CX0 k gi (spIterF X.K C f)) (hr : Room (k + 3) X.A) :
    CallR X (.type "list") (rListO X.K C f) ∧ RefC X.K B (cListO c C f) (rListO X.K C f) := by
  refine ⟨call_listO ol oi FL FI hr, ?_⟩
  intro ρ μ σ H G vs ds Q Qn S0 r h hd
  unfold cListO at h
  split at h
  · obtain ⟨v, rfl, rv⟩ := reps1 r
    obtain ⟨a, dx', ws, fs, rfl, h1, rr, _, h⟩ := oF_go h S0.hold rv
    rw [oS_eq] at h
    obtain ⟨d, e, h⟩ := h
    rw [lS_eq] at h
    obtain ⟨xs, e2, l, h⟩ := h
    obtain ⟨u, lu, ru⟩ := (rr.fget f).1 d e
    obtain ⟨b, us, rfl, h2, r2⟩ := ofLstRef S0.hold ru e2
    refine ⟨a, dx', ws, b, us, rfl, h1, lu, SqL.of h2, sz_lt (by rw [r2.1]; exact l), fun q it nq ni ne => ?_⟩
    have S1 := S0.ext (Ext.new (o := ItE it us.length) ni)
    exact mkL_go h S1 r2 hd (by rw [upd_ne ne]; exact nq)
  · exact h.elim
/-! isinstance(x, C), isinstance(o, T) -/
def isiO (C : Addr) (d : D) : Option Bool := match d with
  | .obj C' _ => if C' = C then some true else none
  | d => (tyN d).map fun _ => false
def isiT (C : Addr) (T : String) (d : D) : Option Bool := match d with
  | .obj C' _ => if C' = C then some false else none
  | d => isiD T d
@[simp] theorem isiO_obj {fs : List (Str × D)} : isiO C (.obj C fs) = some true := by simp [isiO]
@[simp] theorem isiO_str {s : Str} : isiO C (.str s) = some false := rfl
@[simp] theorem isiO_int {s : Int} : isiO C (.int s) = some false := rfl
@[simp] theorem isiO_bl {s : Bool} : isiO C (.bl s) = some false := rfl
@[simp] theorem isiO_non : isiO C .non = some false := rfl
@[simp] theorem isiO_lst {s : List D} : isiO C (.lst s) = some false := rfl
@[simp] theorem isiO_tup {s : List D} : isiO C (.tup s) = some false := rfl
@[simp] theorem isiT_obj {T : String} {fs : List (Str × D)} : isiT C T (.obj C fs) = some false := by simp [isiT]
@[simp] theorem isiT_str {T : String} {s : Str} : isiT C T (.str s) = some (decide ("str" = T)) := rfl
@[simp] theorem isiT_lst {T : String} {s : List D} : isiT C T (.lst s) = some (decide ("list" = T)) := rfl
@[simp] theorem isiT_tup {T : String} {s : List D} : isiT C T (.tup s) = some (decide ("tuple" = T)) := rfl
@[simp] theorem isiT_int {T : String} {s : Int} : isiT C T (.int s) = some (decide ("int" = T)) := rfl
@[simp] theorem isiT_non {T : String} : isiT C T .non = some (decide ("NoneType" = T)) := rfl
def dIsiO (C : Addr) (Tx : TDE) : TDE := fun ρ μ Q => Tx ρ μ fun d μ1 => oS (isiO C (vw μ1 d)) fun b => Q (.bl b) μ1
@[simp ↓] theorem dIsiO_p {Tx : TDE} {ρ} {μ} {Q} : dIsiO C Tx ρ μ Q = (Tx ρ μ fun d μ1 => oS (isiO C (vw μ1 d)) fun b => Q (.bl b) μ1) := id rfl
def dIsiT (C : Addr) (T : String) (Tx : TDE) : TDE := fun ρ μ Q => Tx ρ μ fun d μ1 => oS (isiT C T (vw μ1 d)) fun b => Q (.bl b) μ1
@[simp ↓] theorem dIsiT_p {T : String} {Tx : TDE} {ρ} {μ} {Q} : dIsiT C T Tx ρ μ Q = (Tx ρ μ fun d μ1 => oS (isiT C T (vw μ1 d)) fun b => Q (.bl b) μ1) := id rfl
theorem de_isiO {x : Str} {e : Expr} {te : TE} {Tx : TDE} {p p2 : Pos} (O : OwnC X.K C) (hC : X.mg x = some (.ref C)) (he : DE X B e te Tx) (hm : X.mg "isinstance" = none) (hg : Gl X "isinstance" := by rfl) (hg2 : Gl X x := by rfl) (hdb : (x == ("__debug__" : Str)) = false := by decide)
    (h1 : starEach [e, .Name x p2] X.env = (false, eval e X.env) :: starEach [.Name x p2] X.env := by rfl) (h1' : starEach [.Name x p2] X.env = (false, eval (.Name x p2) X.env) :: starEach [] X.env := by rfl) (h2 : (backTo pos (starEach [.Name x p2] X.env)).any (·.1) = false := by rfl) :
    DE X B (.Call (.Name "isinstance" p) [e, .Name x p2] [] pos) (tCB (rIsi X.K) (tCons te (tCons (tC (.ref C)) tNil))) (dIsiO C Tx) :=
  ⟨pe_callB call_isi hg hm (by decide +kernel) (pa_cons he.pe (pa_cons (pe_glob hg2 hC rfl hdb) pa_nil h1') h1) (by decide) (by decide) h1 h2, fun ρ μ σ H G Q Qn S0 h hd => he.ref ρ μ σ H G _ _ S0 h fun d μ1 v H1 G1 g1 S1 r1 q1 => by
    rw [oS_eq] at q1
    obtain ⟨b, e, q⟩ := q1
    have oth : ∀ n, tyN (vw μ1 d) = some n → b = false → tCB (rIsi X.K) (tCons (tC v) (tCons (tC (.ref C)) tNil)) σ H1 Qn := fun n e1 eb => by
      subst eb
      exact ⟨v, .ref C, .type n, .ref C, false, rfl, .own C, ty_go S1.hold r1 e1, O.ki n (tyN_mem e1), (hd.mono g1).now S1 (.bl _) q⟩
    cases ed : vw μ1 d with
    | obj C' fs =>
      rw [ed] at e
      unfold isiO at e
      dsimp only at e
      split at e
      · next ec =>
        subst ec
        cases e
        exact ⟨v, .ref C', .ref C', .ref C', true, rfl, .own C', ty_obj O S1.hold r1 ed, O.kc, (hd.mono g1).now S1 (.bl _) q⟩
      · cases e
    | non => rw [ed] at e; cases e; exact oth _ (by rw [ed]; rfl) rfl
    | bl _ => rw [ed] at e; cases e; exact oth _ (by rw [ed]; rfl) rfl
    | int _ => rw [ed] at e; cases e; exact oth _ (by rw [ed]; rfl) rfl
    | str _ => rw [ed] at e; cases e; exact oth _ (by rw [ed]; rfl) rfl
    | lst _ => rw [ed] at e; cases e; exact oth _ (by rw [ed]; rfl) rfl
    | tup _ => rw [ed] at e; cases e; exact oth _ (by rw [ed]; rfl) rfl
    | dic _ => rw [ed] at e; cases e; exact oth _ (by rw [ed]; rfl) rfl
    | src => rw [ed] at e; cases e
    | room => rw [ed] at e; cases e
    | ptr _ => rw [ed] at e; cases e
    | scr _ => rw [ed] at e; cases e⟩
theorem de_isiT (T : String) (hT : T ∈ tyNames) {x : Str} {e : Expr} {te : TE} {Tx : TDE} {p p2 : Pos} (O : OwnC X.K C) (he : DE X B e te Tx) (hm : X.mg "isinstance" = none) (hm2 : X.mg x = none) (hv2 : bootBuiltins x = some (.type T)) (hg : Gl X "isinstance" := by rfl) (hg2 : Gl X x := by rfl) (hn : x ≠ "__name__" := by decide) (hdb : (x == ("__debug__" : Str)) = false := by decide)
    (h1 : starEach [e, .Name x p2] X.env = (false, eval e X.env) :: starEach [.Name x p2] X.env := by rfl) (h1' : starEach [.Name x p2] X.env = (false, eval (.Name x p2) X.env) :: starEach [] X.env := by rfl) (h2 : (backTo pos (starEach [.Name x p2] X.env)).any (·.1) = false := by rfl) :
    DE X B (.Call (.Name "isinstance" p) [e, .Name x p2] [] pos) (tCB (rIsi X.K) (tCons te (tCons (tC (.ty T)) tNil))) (dIsiT C T Tx) :=
  ⟨pe_callB call_isi hg hm (by decide +kernel) (pa_cons he.pe (pa_cons (pe_bltn hg2 hm2 hv2 rfl hn hdb) pa_nil h1') h1) (by decide) (by decide) h1 h2, fun ρ μ σ H G Q Qn S0 h hd => he.ref ρ μ σ H G _ _ S0 h fun d μ1 v H1 G1 g1 S1 r1 q1 => by
    rw [oS_eq] at q1
    obtain ⟨b, e, q⟩ := q1
    cases ed : vw μ1 d with
    | obj C' fs =>
      rw [ed] at e
      unfold isiT at e
      dsimp only at e
      split at e
      · next ec =>
        subst ec
        cases e
        exact ⟨v, .ty T, .ref C', .type T, false, rfl, .ty T, ty_obj O S1.hold r1 ed, O.kt T hT, (hd.mono g1).now S1 (.bl _) q⟩
      · cases e
    | _ =>
      rw [ed] at e
      have e' : isiD T (vw μ1 d) = some b := by rw [ed]; exact e
      obtain ⟨n, e1, e2⟩ := isi_kit hT e'
      exact ⟨v, .ty T, .type n, .type T, b, rfl, .ty T, ty_go S1.hold r1 e1, kit_ty e2, (hd.mono g1).now S1 (.bl b) q⟩⟩
end
end DL

/-! DLR: star parameters, classes made, class methods, f-strings, enumerate, a try that runs through, comprehensions over a dict. -/
namespace DL
open PySem PySem.Spec PyProof.Rows L2
/-! ### def f(self, *v) -/
/-- the arguments behind the first one as a tuple -/
def varS (S : DSp) : DSp := fun ds μ Q E => ∃ d xs, ds = d :: xs ∧ xs.length ≤ sizeLine ∧ S [d, .tup xs] μ Q E
def varS0 (S : DSp) : DSp := fun ds μ Q E => ds.length ≤ sizeLine ∧ S [.tup ds] μ Q E
section
variable {P : Program} {w : World} {K : PySem.W.Frag} {mg : Str → Option Value} {base : Heap}
theorem fn_okV {x qual p1 pv : Str} {st : Stmt} {f : Addr} {fd : FuncData} {N : List Str} {k : Nat} {S : DSp} (F : Fun K x qual st f fd) (SC : FnScope N [p1, pv] (defScope st))
    (h0 : ∀ (kV doc pm : Value) (an : Option Addr) (cdv ct : Value) (a : Value), bindArgs (PySem.W.fnOf x qual (defArgs st) (defBody st) (defScope st) .none kV doc pm an cdv ct) ⟨[a], []⟩ = (newTuple [] >>= fun t => pure [(p1, a), (pv, t)]))
    (h1 : ∀ (kV doc pm : Value) (an : Option Addr) (cdv ct : Value) (a r : Value) (rs : List Value), bindArgs (PySem.W.fnOf x qual (defArgs st) (defBody st) (defScope st) .none kV doc pm an cdv ct) ⟨a :: r :: rs, []⟩ = (newTuple (r :: rs) >>= fun t => pure [(p1, a), (pv, t)]))
    (len : ∀ ds μ Q E, S ds μ Q E → ds.length = 2)
    (hb : ∀ (B : Gh) (cdv : Value) (A : Around) (outer : List Env) (s : Shared) (H : Hp) (E : XK), Room k (A.deeper (envOfC qual (defScope st) s.heap.objs.size f cdv)) →
      ∃ t T, DSs (cxOf CX0 P w K mg base N qual (defScope st) f cdv A outer s H E).nox B (defBody st) t T ∧ ∀ ds μ Q EE, S ds μ Q EE → T { nx := fun _ μ' => Fg (Q .non) μ', rt := fun d μ' => Fg (Q d) μ' } (startD N ds) μ) : FnR P w K mg base CX0 (k + 1) f (toSp K (varS S)) := by
  obtain ⟨oc, od, kV, doc, pm, an, cdv, ct, osl, rfl, lk, hcd⟩ := F.ex
  have A1 := StX.fn_star (P := P) (w := w) (mg := mg) (base := base) (k := k) (ps := [p1]) (pv := pv) (sp := toSp K S) lk hcd SC StX.cxUp_none (StX.bind_star1 (B := fun us => bindArgs _ ⟨us, []⟩) (h0 kV doc pm an cdv ct) (h1 kV doc pm an cdv ct)) fun A outer s H vs Q E hr ⟨G, ds, μ, QQ, EE, hh, r, sp, q, _⟩ => by
    obtain ⟨t, T, h, b⟩ := hb G cdv A outer s H E hr
    refine ⟨t, h.pss.nox, h.ref (startD N ds) μ (start N vs) H G _ _ ⟨hh, envr_start N r (Gle.refl G)⟩ (b ds μ QQ EE sp) ⟨?_, ?_, ?_, ?_⟩⟩
    · exact fun ρ' μ' σ' H' G' g S' ⟨μ0, s0, z⟩ => q .non μ0 .non H' G' g (S'.hold.sub s0) .non z
    · exact fun d μ' v H' G' g S' rv ⟨μ0, s0, z⟩ => q d μ0 v H' G' g (S'.sub s0) rv z
    · exact fun _ _ _ _ _ _ _ z => z.elim
    · exact fun _ _ _ _ _ _ _ z => z.elim
  refine A1.imp fun vs H Q E ⟨G, ds, μ, QQ, EE, hh, r, ⟨d, xs, ed, l, sp⟩, q, qe⟩ => ?_
  subst ed
  obtain ⟨v, ws, rfl, rv, rw'⟩ := r.cons_inv
  refine ⟨[v], ws, rfl, rfl, by rw [rw'.1]; exact l, fun p hp => ?_⟩
  have hn := hh.free hp
  have g : Gle G (G.frz p (.tup ws)) := Gle.frz hn.1
  exact ⟨G.frz p (.tup ws), [d, .tup xs], μ, QQ, EE, hh.new hp, Reps.cons (rv.mono g) (Reps.one (.tup (.inl (.inl (show upd G.fr p (.tup ws) p = some (.tup ws) from upd_same))) rw'.1 fun i v d a b => (rw'.2 i v d a b).mono g)), sp,
    fun d μ' v H' G' g' => q d μ' v H' G' (g.trans g'), fun cls fs μ' od H' G' g' => qe cls fs μ' od H' G' (g.trans g')⟩
end
/-- C(..) whose __init__ has a star parameter -/
def MadeR (P : Program) (w : World) (K : PySem.W.Frag) (mg : Str → Option Value) (base : Heap) (k : Nat) (C : Addr) (S : DSp) : Prop :=
  ∃ f, Mk K C f ∧ FnR P w K mg base CX0 k f (toSp K (varS S))
/-- what is wanted of the new object -/
def mkO (C : Addr) (S : DSp) (ds : List D) (μ : Mu) (Q : QD) : Prop := ds.length ≤ sizeLine ∧ ∀ x, μ x = none → S [.ptr x, .tup ds] (mup μ x (.ins C [])) (fun v μ2 => v = .non ∧ Q (.ptr x) μ2) noX
theorem mkO_go {K : PySem.W.Frag} {C : Addr} {S : DSp} {ds : List D} {vs : List V} {μ : Mu} {Q : QD} {Qn : VK} {B G : Gh} {ρ : DR} {σ : St} {H : Hp} (h : mkO C S ds μ Q) (S1 : Sat K B G ρ μ σ H) (r : Reps K G vs ds) (hd : Hand K B G ρ σ Q Qn) :
    ∀ x dx, H x = none → H dx = none → dx ≠ x → toSp K (varS S) (V.ref x :: vs) (upd (upd H dx (.own x)) x (.ins C dx [])) (fun v H2 => v = .non ∧ Qn (.ref x) H2) E0 := by
  intro x dx nx ndx ne
  have nx2 : (upd H dx (.own x)) x = none := by rw [upd_ne (Ne.symm ne)]; exact nx
  have h2 : Hold K G (mup μ x (.ins C [])) (upd (upd H dx (.own x)) x (.ins C dx [])) := (S1.hold.ext (Ext.new ndx)).cellNew nx2 (show CellR K G (.ins C dx []) (.ins C []) from ⟨rfl, FReps.nil⟩)
  exact ⟨G, .ptr x :: ds, _, fun v μ2 => v = .non ∧ Q (.ptr x) μ2, noX, h2, Reps.cons (.ptr x) r, ⟨_, ds, rfl, h.1, h.2 x (S1.hold.free nx).2.1⟩, fun d' μ' v' H' G' g' h' r' ⟨e, q'⟩ => by subst e; exact ⟨r'.ofNon, hd (.ptr x) μ' (.ref x) H' G' g' ⟨h', S1.env.mono g'⟩ (.ptr x) q'⟩, fun _ _ _ _ _ _ _ _ _ z => z.elim⟩
section
variable {X : Cx} {pos : Pos} {C f g : Addr} {k : Nat} {S : DSp} {x : Str} {p : Pos} {e : Expr} {es : List Expr} {t : TA} {T : TDA} {te : TE} {Te : TDE}
@[simp ↓] theorem mkO_p {ds : List D} {μ : Mu} {Q : QD} : mkO C S ds μ Q = (ds.length ≤ sizeLine ∧ ∀ x, μ x = none → S [.ptr x, .tup ds] (mup μ x (.ins C [])) (fun v μ2 => v = .non ∧ Q (.ptr x) μ2) noX) := id rfl
def dMakeR (C : Addr) (S : DSp) (T : TDA) : TDE := fun ρ μ Q => T ρ μ fun ds μ1 => mkO C S ds μ1 Q
@[simp ↓] theorem dMakeR_p {ρ} {μ} {Q} : dMakeR C S T ρ μ Q = (T ρ μ fun ds μ1 => mkO C S ds μ1 Q) := id rfl
theorem ref_makeR {K : PySem.W.Frag} (ha : RefA K B T t) : RefE K B (dMakeR C S T) (StX.tMakeR C (toSp K (varS S)) E0 t) := fun ρ μ σ H G Q Qn S0 q hd => ha ρ μ σ H G _ _ S0 q fun ds μ1 vs H1 G1 g1 S1 r1 q1 => mkO_go q1 S1 r1 (hd.mono g1)
theorem de_makeR (M : Mk X.K C f) (F : FnR X.prog X.w X.K X.mg X.base CX0 k f (toSp X.K (varS S))) (hr : Room (k + 1) X.A) (hm : X.mg x = some (.ref C)) (ha : DA X B (e :: es) t T) (hg : Gl X x := by rfl)
    (hdb : (x == ("__debug__" : Str)) = false := by decide) (he : starEach (e :: es) X.env = (false, eval e X.env) :: starEach es X.env := by rfl) (hpl : (backTo pos (starEach es X.env)).any (·.1) = false := by rfl) :
    DE X B (.Call (.Name x p) (e :: es) [] pos) (StX.tMakeR C (toSp X.K (varS S)) E0 t) (dMakeR C S T) := ⟨StX.pe_makeR M F hr hg hm pass0 ha.pa hdb he hpl, ref_makeR ha.ref⟩
theorem de_makeR0 (M : Mk X.K C f) (F : FnR X.prog X.w X.K X.mg X.base CX0 k f (toSp X.K (varS S))) (hr : Room (k + 1) X.A) (hm : X.mg x = some (.ref C)) (hg : Gl X x := by rfl) (hdb : (x == ("__debug__" : Str)) = false := by decide) :
    DE X B (.Call (.Name x p) [] [] pos) (StX.tMakeR C (toSp X.K (varS S)) E0 tNil) (dMakeR C S dNil) := ⟨⟨fun pins s σ H Q I h =>
      wpAny_Call_Name_kw (ld_glob I hg hm (PySem.W.callWith_K0 I.kIn M.kp (StX.run_makeR (us := []) M F hr pass0 I .nil h)) hdb)⟩, ref_makeR da_nil.ref⟩
/-- cls(), cls a local -/
def dMakeV (i : Nat) (C : Addr) (S : DSp) : TDE := fun ρ μ Q => ρ[i]? = some (some (.ptr C)) ∧ mkO C S [] μ Q
@[simp ↓] theorem dMakeV_p {i : Nat} {ρ} {μ} {Q} : dMakeV i C S ρ μ Q = (ρ[i]? = some (some (.ptr C)) ∧ mkO C S [] μ Q) := id rfl
def tMakeV (i : Nat) (C : Addr) (sp : Sp) : TE := fun σ H Q => σ[i]? = some (some (.ref C)) ∧ StX.tMakeR C sp E0 tNil σ H Q
theorem de_makeV (i : Nat) (M : Mk X.K C f) (F : FnR X.prog X.w X.K X.mg X.base CX0 k f (toSp X.K (varS S))) (hr : Room (k + 1) X.A) (hN : X.N[i]? = some x := by rfl) (hv : Vis X.env.scope x := by first | exact Or.inl rfl | exact Or.inr (Or.inl rfl) | exact Or.inr (Or.inr rfl)) (hdb : (x == ("__debug__" : Str)) = false := by decide) (hcd : (x == ("__classdict__" : Str)) = false := by decide) :
    DE X B (.Call (.Name x p) [] [] pos) (tMakeV i C (toSp X.K (varS S))) (dMakeV i C S) := ⟨⟨fun pins s σ H Q I h => by
      obtain ⟨hs, h⟩ := h
      refine wpAny_Call_Name_kw (thn ((pe_var (pos := p) (i := i) hN hv hdb hcd).run pins s σ H (fun v H1 => v = .ref C ∧ H1 = H) I ⟨.ref C, hs, rfl, rfl⟩) fun u s1 ⟨v, H1, I1, r1, ev, eH⟩ => ?_)
      subst ev; subst eH
      cases r1
      exact PySem.W.callWith_K0 I1.kIn M.kp (StX.run_makeR (us := []) M F hr pass0 I1 .nil h)⟩,
    fun ρ μ σ H G Q Qn S0 ⟨e, q⟩ hd => by
      obtain ⟨v, ev, rv⟩ := S0.env.2 i _ e
      cases rv
      exact ⟨ev, ref_makeR da_nil.ref ρ μ σ H G Q Qn S0 q hd⟩⟩
/-- C(*e), e a list or a tuple -/
def seqS (v : D) (P : List D → Prop) : Prop := match v with | .lst xs => P xs | .tup xs => P xs | _ => False
@[simp ↓] theorem seqS_l {xs : List D} {P : List D → Prop} : seqS (.lst xs) P = P xs := id rfl
@[simp ↓] theorem seqS_t {xs : List D} {P : List D → Prop} : seqS (.tup xs) P = P xs := id rfl
theorem seqS_go {K : PySem.W.Frag} {G : Gh} {μ : Mu} {H : Hp} {v : V} {d : D} {P : List D → Prop} (h : seqS (vw μ d) P) (S : Hold K G μ H) (r : Rep K G v d) : ∃ a vs xs, v = .ref a ∧ (SqT K H a vs ∨ SqL K H a vs) ∧ Reps K G vs xs ∧ P xs := by
  cases e : vw μ d with
  | lst xs => rw [e] at h; obtain ⟨a, vs, rfl, h1, rr⟩ := S.lst r e; exact ⟨a, vs, xs, rfl, .inr (SqL.of h1), rr, h⟩
  | tup xs => rw [e] at h; obtain ⟨a, vs, rfl, h1, rr⟩ := S.tup r e; exact ⟨a, vs, xs, rfl, .inl h1, rr, h⟩
  | _ => rw [e] at h; exact False.elim h
def dMakeS (C : Addr) (S : DSp) (T : TDE) : TDE := fun ρ μ Q => T ρ μ fun d μ1 => seqS (vw μ1 d) fun xs => mkO C S xs μ1 Q
@[simp ↓] theorem dMakeS_p {ρ} {μ} {Q} : dMakeS C S Te ρ μ Q = (Te ρ μ fun d μ1 => seqS (vw μ1 d) fun xs => mkO C S xs μ1 Q) := id rfl
def tMakeS (K : PySem.W.Frag) (C : Addr) (sp : Sp) (te : TE) : TE := fun σ H Q => te σ H fun y H1 => ∃ a xs, y = V.ref a ∧ (SqT K H1 a xs ∨ SqL K H1 a xs) ∧ ∀ x dx, H1 x = none → H1 dx = none → dx ≠ x → sp (V.ref x :: xs) (upd (upd H1 dx (.own x)) x (.ins C dx [])) (fun v H2 => v = .non ∧ Q (.ref x) H2) E0
theorem de_makeS {sp_ : Pos} (M : Mk X.K C f) (F : FnR X.prog X.w X.K X.mg X.base CX0 k f (toSp X.K (varS S))) (hr : Room (k + 1) X.A) (hm : X.mg x = some (.ref C)) (he : DE X B e te Te) (hg : Gl X x := by rfl) (hdb : (x == ("__debug__" : Str)) = false := by decide)
    (hst : starEach [.Starred e sp_] X.env = [(true, eval e X.env)] := by rfl) : DE X B (.Call (.Name x p) [.Starred e sp_] [] pos) (tMakeS X.K C (toSp X.K (varS S)) te) (dMakeS C S Te) :=
  ⟨⟨fun pins s σ H Q I h => wpAny_Call_Name_kw (ld_glob I hg hm (PySem.W.callWith_S (h₀ := X.base) I.ok.mod.kin M.kp (thn (he.pe.run pins s σ H _ I h) fun v s1 ⟨y, H1, I1, ry, a, xs, ey, hxs, q⟩ => by
      subst ey
      cases (show v = Value.ref a from ry)
      exact StX.star_any I1 hxs fun us s2 I2 rv => ⟨I2.kIn, StX.run_makeR M F hr pass0 I2 rv q⟩) hst) hdb)⟩,
    fun ρ μ σ H G Q Qn S0 h hd => he.ref ρ μ σ H G _ _ S0 h fun d μ1 v H1 G1 g1 S1 r1 q1 => by
      obtain ⟨a, vs, xs, rfl, h1, rr, q⟩ := seqS_go q1 S1.hold r1
      exact ⟨a, vs, rfl, h1, mkO_go q S1 rr (hd.mono g1)⟩⟩
/-! C.m(..), a classmethod -/
structure CMeth (K : PySem.W.Frag) (C : Addr) (m : Str) (g : Addr) : Prop where
  ex : ∃ mc p, ClX.CRead K C mc ∧ ClX.CMet K C mc m p g
def CalledC (P : Program) (w : World) (K : PySem.W.Frag) (mg : Str → Option Value) (base : Heap) (k : Nat) (C : Addr) (m : Str) (ps : List Str) (S : DSp) : Prop :=
  ∃ f fd, CMeth K C m f ∧ Binds K fd ps [] ∧ FnOk P w K mg base CX0 k f fd ps (toSp K S)
def dCMeth (C : Addr) (S : DSp) (T : TDA) : TDE := fun ρ μ Q => T ρ μ fun ds μ1 => S (.ptr C :: ds) μ1 Q noX
@[simp ↓] theorem dCMeth_p {ρ} {μ} {Q} : dCMeth C S T ρ μ Q = (T ρ μ fun ds μ1 => S (.ptr C :: ds) μ1 Q noX) := id rfl
theorem de_cmeth {m : Str} {apos : Pos} {pl : Sem Bool} (c : CMeth X.K C m g) (F : FnR X.prog X.w X.K X.mg X.base CX0 k g (toSp X.K S)) (hr : Room k X.A) (hm : X.mg x = some (.ref C)) (ha : DA X B (e :: es) t T) (hg : Gl X x := by rfl) (hdb : (x == ("__debug__" : Str)) = false := by decide)
    (hst : starEach (e :: es) X.env = (false, eval e X.env) :: starEach es X.env := by rfl) (hpl : (backTo pos (starEach es X.env)).any (·.1) = false := by rfl)
    (ht : eval (.Call (.Attribute (.Name x p) m apos) (e :: es) [] pos) X.env = (do
      let ov ← eval (.Name x p) X.env
      standAt apos.atName
      let (f, first) ← holding [ov] (getMethod ov m pl)
      callWith pos f first (backTo pos (starEach (e :: es) X.env)) (backToKw pos (keywordEach [] X.env))) := by rfl) :
    DE X B (.Call (.Attribute (.Name x p) m apos) (e :: es) [] pos) (ClX.tCMeth C (toSp X.K S) E0 (tC (.ref C)) t) (dCMeth C S T) := by
  obtain ⟨mc, p', r, cm⟩ := c.ex
  exact ⟨ClX.pe_cmeth (pe_glob hg hm rfl hdb) r cm F hr pass0 ha.pa hst hpl ht, fun ρ μ σ H G Q Qn S0 h hd => ⟨rfl, ha.ref ρ μ σ H G _ _ S0 h fun ds μ1 vs H1 G1 g1 S1 r1 q1 => sp_to S1 (Reps.cons (.ptr C) r1) q1 (hd.mono g1)⟩⟩
/-! properties -/
def Got (P : Program) (w : World) (K : PySem.W.Frag) (mg : Str → Option Value) (base : Heap) (k : Nat) (C : Addr) (m : Str) (ps : List Str) (S : DSp) : Prop :=
  ∃ r f fd, PropOf K C m r f ∧ Binds K fd ps [] ∧ FnOk P w K mg base CX0 k f fd ps (toSp K S)
/-! a try whose body does not raise -/
theorem ds_try_thru {h0 : ExceptHandler} {hs : List ExceptHandler} {body : List Stmt} {t' : TS} {T' : TDS} (hb : DSs X.nox B body t' T') : DS X B (.Try body (h0 :: hs) [] [] pos) t' T' := ⟨ps_try_thru0 hb.pss, hb.ref⟩
/-! enumerate -/
def enumD : Nat → List D → List D
  | _, [] => []
  | n, x :: r => .tup [.int (n : Int), x] :: enumD (n + 1) r
theorem enumD_len : ∀ {n : Nat} {xs : List D}, (enumD n xs).length = xs.length
  | _, [] => rfl
  | n, x :: r => by simp [enumD, enumD_len]
theorem enumD_get : ∀ {n i : Nat} {xs : List D} {y : D}, (enumD n xs)[i]? = some y → ∃ x, xs[i]? = some x ∧ y = .tup [.int ((n + i : Nat) : Int), x]
  | n, i, [], y, h => by simp [enumD] at h
  | n, 0, x :: r, y, h => by simp [enumD] at h; exact ⟨x, rfl, by rw [← h]; rfl⟩
  | n, i + 1, x :: r, y, h => by
    have h' : (enumD (n + 1) r)[i]? = some y := by simpa [enumD] using h
    obtain ⟨z, a, b⟩ := enumD_get h'
    exact ⟨z, by simpa using a, by rw [b]; congr 3; omega⟩
def iEnumD (T : TDA) : TDI := fun ρ μ Q => T ρ μ fun ds μ1 => match ds with | [.lst xs] => Q (enumD 0 xs) μ1 | _ => False
@[simp ↓] theorem iEnumD_p {ρ} {μ} {Q : List D → Mu → Prop} : iEnumD T ρ μ Q = (T ρ μ fun ds μ1 => match ds with | [.lst xs] => Q (enumD 0 xs) μ1 | _ => False) := id rfl
theorem di_enum {tpos : Pos} {elts : List Expr} {kk : Nat} {ta : TA} {T : TDA} (hg : Gl X "enumerate") (hm : X.mg "enumerate" = none) (ha : DA X B [e] ta T) (hs : starEach [e] X.env = [(false, eval e X.env)] := by rfl) : DI X B (.Tuple elts kk tpos) (.Call (.Name "enumerate" p) [e] [] pos) (iEnum X.K ta) (iEnumD T) :=
  ⟨pi_enum hg hm ha.pa hs, fun ρ μ σ H G Q R S0 q hd => ha.ref ρ μ σ H G _ _ S0 q fun ds μ1 vs H1 G1 g1 S1 r1 q1 => by
    split at q1
    · next xs =>
      obtain ⟨v, rfl, rv⟩ := reps1 r1
      cases rv with
      | lst hh l r =>
        rename_i a vs
        have at' : ∀ {H' : Hp} {G' : Gh} {μ' : Mu}, Gle G1 G' → Hold X.K G' μ' H' → H' a = some (.lst vs) := fun g hh' => hh'.fr _ _ (g.fr _ _ hh)
        refine ⟨a, vs, rfl, SqL.of (at' (Gle.refl _) S1.hold), hd _ μ1 _ H1 G1 g1 S1 q1 (fun n H' G' μ' g h' => ⟨fun hn => ?_, fun hn => ?_⟩) fun n x w H' H2 G' μ' g h' ex y => ?_⟩
        · rw [enumD_len] at hn
          exact ⟨vs, vs[n]'(by rw [l]; exact hn), SqL.of (at' g h'), List.getElem?_eq_getElem _⟩
        · rw [enumD_len] at hn
          exact ⟨vs, SqL.of (at' g h'), by rw [l]; exact hn⟩
        · obtain ⟨z, ez, rfl⟩ := enumD_get ex
          obtain ⟨T', u, rfl, hn, rfl, y⟩ := y
          have e1 := y vs (SqL.of (at' g h'))
          have g2 : Gle G' (G'.frz T' (.tup [.int (n : Nat), u])) := Gle.frz (h'.free hn).1
          refine ⟨_, g2, h'.new hn, .tup (.inl (.inl (show upd G'.fr T' _ T' = _ from upd_same))) rfl fun i v d a b => ?_⟩
          match i, a, b with
          | 0, a, b => simp at a b; subst a; subst b; exact .int _
          | 1, a, b => simp at a b; subst a; subst b; exact ((r n u z e1 ez).mono g).mono g2
    · exact q1.elim⟩
end
/-! ### f-strings -/
inductive DJ (X : Cx) (B : Gh) : List Expr → List TE → List TDE → Prop where
  | nil : DJ X B [] [] []
  | cons {e : Expr} {t : TE} {T : TDE} {es : List Expr} {ts : List TE} {Ts : List TDE} (h : DE X B e t T) (r : DJ X B es ts Ts) : DJ X B (e :: es) (t :: ts) (T :: Ts)
theorem DJ.pj {X : Cx} {B : Gh} {es : List Expr} {ts : List TE} {Ts : List TDE} (h : DJ X B es ts Ts) : PJ X es ts := by
  induction h with
  | nil => exact .nil
  | cons h _ ih => exact .cons h.pe ih
def dJs : List TDE → Str → DR → Mu → (Str → Mu → Prop) → Prop
  | [], acc, _, μ, Q => Q acc μ
  | T :: Ts, acc, ρ, μ, Q => T ρ μ fun d μ1 => sS d fun y => (acc ++ y).length ≤ sizeLine ∧ dJs Ts (acc ++ y) ρ μ1 Q
@[simp ↓] theorem dJs_n {acc : Str} {ρ} {μ} {Q} : dJs [] acc ρ μ Q = Q acc μ := id rfl
@[simp ↓] theorem dJs_c {T : TDE} {Ts : List TDE} {acc : Str} {ρ} {μ} {Q} : dJs (T :: Ts) acc ρ μ Q = (T ρ μ fun d μ1 => sS d fun y => (acc ++ y).length ≤ sizeLine ∧ dJs Ts (acc ++ y) ρ μ1 Q) := id rfl
def dJoined (Ts : List TDE) : TDE := fun ρ μ Q => dJs Ts Str.empty ρ μ fun s μ1 => Q (.str s) μ1
@[simp ↓] theorem dJoined_p {Ts : List TDE} {ρ} {μ} {Q} : dJoined Ts ρ μ Q = dJs Ts Str.empty ρ μ fun s μ1 => Q (.str s) μ1 := id rfl
section
variable {X : Cx} {pos : Pos}
theorem DJ.ref {es : List Expr} {ts : List TE} {Ts : List TDE} (h : DJ X B es ts Ts) : ∀ (acc : Str) ρ μ σ H G (Q : Str → Mu → Prop) (Qn : Str → Hp → Prop), Sat X.K B G ρ μ σ H → dJs Ts acc ρ μ Q → (∀ s μ' H' G', Gle G G' → Sat X.K B G' ρ μ' σ H' → Q s μ' → Qn s H') → tJs ts acc σ H Qn := by
  induction h with
  | nil => exact fun acc ρ μ σ H G Q Qn S q hd => hd acc μ H G (Gle.refl G) S q
  | cons h _ ih =>
    intro acc ρ μ σ H G Q Qn S q hd
    refine h.ref ρ μ σ H G _ _ S q fun d μ1 v H1 G1 g1 S1 r1 q1 => ?_
    cases d with
    | str y => exact ⟨y, r1.ofStr, q1.1, ih _ ρ μ1 σ H1 G1 Q Qn S1 q1.2 fun s μ' H' G' g' => hd s μ' H' G' (g1.trans g')⟩
    | _ => exact False.elim q1
theorem de_joined {v1 v2 : Expr} {rest : List Expr} {ts : List TE} {Ts : List TDE} (h : DJ X B (v1 :: v2 :: rest) ts Ts) : DE X B (.JoinedStr (v1 :: v2 :: rest) pos) (fun σ H Q => tJs ts Str.empty σ H fun out H1 => Q (.str out) H1) (dJoined Ts) :=
  ⟨pe_joined h.pj, fun ρ μ σ H G Q Qn S q hd => h.ref Str.empty ρ μ σ H G _ _ S q fun s μ' H' G' g' S' q' => hd (.str s) μ' _ H' G' g' S' (.str s) q'⟩
theorem de_joined1 {e : Expr} {te : TE} {T : TDE} (h : DE X B e te T) : DE X B (.JoinedStr [e] pos) te T := ⟨pe_joined1 h.pe, h.ref⟩
/-- {x}, a text or an int -/
def dFmt (T : TDE) : TDE := fun ρ μ Q => T ρ μ fun d μ1 => match d with
  | .str y => y.length ≤ sizeLine ∧ Q (.str y) μ1
  | .int i => i.natAbs.log2 < 1920 ∧ Q (.str (toString i)) μ1
  | _ => False
@[simp ↓] theorem dFmt_p {T : TDE} {ρ} {μ} {Q} : dFmt T ρ μ Q = (T ρ μ fun d μ1 => match d with
  | .str y => y.length ≤ sizeLine ∧ Q (.str y) μ1
  | .int i => i.natAbs.log2 < 1920 ∧ Q (.str (toString i)) μ1
  | _ => False) := id rfl
theorem de_fmt {e : Expr} {te : TE} {T : TDE} (h : DE X B e te T) : DE X B (.FormattedValue e (-1) none pos) (tFmt te) (dFmt T) :=
  ⟨pe_fmt h.pe, fun ρ μ σ H G Q Qn S q hd => h.ref ρ μ σ H G _ _ S q fun d μ1 v H1 G1 g1 S1 r1 q1 => by
    cases d with
    | str y => exact .inl ⟨y, r1.ofStr, q1.1, (hd.mono g1).now S1 (.str _) q1.2⟩
    | int i => exact .inr ⟨i, r1.ofInt, q1.1, (hd.mono g1).now S1 (.str _) q1.2⟩
    | _ => exact False.elim q1⟩
end
end DL

/-! DLS: comprehensions of three fors: the layer's rule. -/
namespace DL
open PySem PySem.Spec PyProof.Rows L2
/-- the tests of a clause -/
abbrev testsOf (ifs : List Expr) (env : Env) : Sem Bool := forIn ifs true fun c r => if r = true then do let ok ← isTrue c env (eval c env); pure (ForInStep.yield ok) else pure (ForInStep.yield r)
/-- a turn that starts the next clause; one that appends -/
def DeepTurn (E : Expr) (k : Nat) (t i i' : Expr) (ifs : List Expr) : Prop := ∀ it acc env, compTurn E k it acc env = (do
      standAt i.pos
      match ← pyNext it with
      | none => pure (.done .next)
      | some v =>
        letOwnedTupleGo t it v
        assign t env v
        let mut ok := true
        for c in ifs do
          if ok then ok ← isTrue c env (eval c env)
        if ok then
          let x ← eval i' env
          standAt i'.pos
          let x ← foldedSetIterable i' env x
          let _ ← runOwn (.compStart E (k + 1) (← holding [x] (pyIter x)) acc env) env
        again (.compLoop E k it acc env))
def LastTurn (E : Expr) (k : Nat) (t i elt : Expr) (ifs : List Expr) : Prop := ∀ it acc env, compTurn E k it acc env = (do
      standAt i.pos
      match ← pyNext it with
      | none => pure (.done .next)
      | some v =>
        letOwnedTupleGo t it v
        assign t env v
        let mut ok := true
        for c in ifs do
          if ok then ok ← isTrue c env (eval c env)
        if ok then
          (do let _ ← call (.builtin "list.append") [acc, ← eval elt env])
        again (.compLoop E k it acc env))
section
variable {prog : Program} {w : World} {A : Around} {R : Result → Shared → Prop} {s : Shared} {E t i i' elt : Expr} {ifs : List Expr} {it acc : Value} {env : Env} {k : Nat}
/-- what a turn is to do, up to the clause's body -/
def TurnTo (prog : Program) (w : World) (A : Around) (env : Env) (t : Expr) (ifs : List Expr) (it : Value) (F : Value → Shared → Prop) (Fin : Shared → Prop) (Body : Shared → (Shared → Prop) → Prop) (Nx : Shared → Prop) (s : Shared) : Prop :=
  wpAny (model prog w) A (pyNext it) (fun r s1 => match r with
    | none => Fin s1
    | some v => wpAny (model prog w) A (letOwnedTupleGo t it v) (fun _ s2 => wpAny (model prog w) A (assign t env v) (fun _ s3 =>
        wpAny (model prog w) A (testsOf ifs env) (fun ok s4 => if ok = true then Body s4 Nx else Nx s4) F s3) F s2) F s1) F s
abbrev noteR (prog : Program) (w : World) (A : Around) (env : Env) (R : Result → Shared → Prop) : Value → Shared → Prop := notedBy (model prog w) A env fun e s' => R (.error e) s'
def bodyDeep (prog : Program) (w : World) (A : Around) (env : Env) (E i' : Expr) (k : Nat) (acc : Value) (F : Value → Shared → Prop) (s : Shared) (Nx : Shared → Prop) : Prop :=
  wpAny (model prog w) A (eval i' env) (fun x s4 => wpAny (model prog w) A (pyIter x) (fun it1 s5 => codeAny (model prog w) A (.compStart E (k + 1) it1 acc env) (fun r s' => match r with
    | .ok _ => Nx s'
    | .error _ => False) s5) F s4) F s
def bodyLast (prog : Program) (w : World) (A : Around) (env : Env) (elt : Expr) (acc : Value) (F : Value → Shared → Prop) (s : Shared) (Nx : Shared → Prop) : Prop :=
  wpAny (model prog w) A (eval elt env) (fun x s4 => wpAny (model prog w) A (call (.builtin "list.append") [acc, x]) (fun _ s5 => Nx s5) F s4) F s
theorem loop_deep {gs : List Comprehension} {scope : Scope} {pos : Pos} (hE : E = .ListComp elt gs scope pos) (hT : DeepTurn E k t i i' ifs) (hs : ∀ x, foldedSetIterable i' env x = pure x) (I : Nat → Shared → Prop)
    (turn : ∀ n s, I n s → TurnTo prog w A env t ifs it (noteR prog w A env R) (R (.ok .next)) (bodyDeep prog w A env E i' k acc (noteR prog w A env R)) (fun s' => ∃ m, m < n ∧ I m s') s) (n : Nat) (h : I n s) :
    codeAny (model prog w) A (.compLoop E k it acc env) R s := by
  subst hE
  refine codeAny_loop rfl I (fun n s hI => ?_) n h
  show wpAny _ A ((compTurn (.ListComp _ gs scope pos) k it acc env).onRaise (fun x => do noteFrame x env; theTreesLotGoes x)) _ _ s
  refine wpAny_noted ?_
  rw [hT]
  refine wpAny_bind (wpAny_standAt (wpAny_bind (wpAny_mono (turn n s hI) (fun r s1 h1 => ?_) fun _ _ z => z)))
  cases r with
  | none => exact wpAny_pure h1
  | some v =>
    refine wpAny_bind (wpAny_mono h1 (fun _ s2 h2 => ?_) fun _ _ z => z)
    refine wpAny_bind (wpAny_mono h2 (fun _ s3 h3 => wpAny_bind (wpAny_mono h3 (fun ok s4 h4 => ?_) fun _ _ z => z)) fun _ _ z => z)
    cases ok with
    | false => exact wpAny_pure ⟨rfl, h4⟩
    | true =>
      refine wpAny_bind (wpAny_mono h4 (fun x s5 h5 => ?_) fun _ _ z => z)
      refine wpAny_bind (wpAny_standAt (wpAny_bind (wpAny_of_eq (hs x) (wpAny_bind (wpAny_holding (wpAny_mono h5 (fun it1 s6 h6 => ?_) fun _ _ z => z))))))
      refine wpAny_bind (wpAny_runOwn ?_)
      rw [Around.mark_none]
      refine codeAny_mono h6 fun r s' hr => ?_
      cases r with
      | ok f =>
        first
          | exact wpAny_pure ⟨rfl, hr⟩
          | exact wpAny_bind (wpAny_pure (wpAny_pure ⟨rfl, hr⟩))
      | error e => exact hr.elim
theorem loop_last {gs : List Comprehension} {scope : Scope} {pos : Pos} {elt' : Expr} (hE : E = .ListComp elt' gs scope pos) (hT : LastTurn E k t i elt ifs) (I : Nat → Shared → Prop)
    (turn : ∀ n s, I n s → TurnTo prog w A env t ifs it (noteR prog w A env R) (R (.ok .next)) (bodyLast prog w A env elt acc (noteR prog w A env R)) (fun s' => ∃ m, m < n ∧ I m s') s) (n : Nat) (h : I n s) :
    codeAny (model prog w) A (.compLoop E k it acc env) R s := by
  subst hE
  refine codeAny_loop rfl I (fun n s hI => ?_) n h
  show wpAny _ A ((compTurn (.ListComp _ gs scope pos) k it acc env).onRaise (fun x => do noteFrame x env; theTreesLotGoes x)) _ _ s
  refine wpAny_noted ?_
  rw [hT]
  refine wpAny_bind (wpAny_standAt (wpAny_bind (wpAny_mono (turn n s hI) (fun r s1 h1 => ?_) fun _ _ z => z)))
  cases r with
  | none => exact wpAny_pure h1
  | some v =>
    refine wpAny_bind (wpAny_mono h1 (fun _ s2 h2 => ?_) fun _ _ z => z)
    refine wpAny_bind (wpAny_mono h2 (fun _ s3 h3 => wpAny_bind (wpAny_mono h3 (fun ok s4 h4 => ?_) fun _ _ z => z)) fun _ _ z => z)
    cases ok with
    | false => exact wpAny_pure ⟨rfl, h4⟩
    | true => exact wpAny_bind (wpAny_bind (wpAny_mono h4 (fun x s5 h5 => wpAny_bind (wpAny_mono h5 (fun _ s6 h6 => wpAny_pure (wpAny_pure ⟨rfl, h6⟩)) fun _ _ z => z)) fun _ _ z => z))
end
/-- the start of a clause behind the first -/
def StartOk (E : Expr) (k : Nat) : Prop := ∀ (prog : Program) (w : World) (A : Around) (R : Result → Shared → Prop) (s : Shared) (it acc : Value) (env : Env), codeAny (model prog w) A (.compLoop E k it acc env) R s →
  wpAny (model prog w) A (pyIter it) (fun it' s' => codeAny (model prog w) A (.compLoop E k it' acc env) R s') (noteR prog w A env R) s → codeAny (model prog w) A (.compStart E k it acc env) R s
abbrev lc3 (elt t0 i0 t1 i1 t2 i2 : Expr) (f0 f1 f2 : List Expr) (scope : Scope) (pos : Pos) : Expr := .ListComp elt [⟨t0, i0, f0, 0⟩, ⟨t1, i1, f1, 0⟩, ⟨t2, i2, f2, 0⟩] scope pos
section
variable {elt t0 i0 t1 i1 t2 i2 : Expr} {f0 f1 f2 : List Expr} {scope : Scope} {pos : Pos}
theorem turn3_0 : DeepTurn (lc3 elt t0 i0 t1 i1 t2 i2 f0 f1 f2 scope pos) 0 t0 i0 i1 f0 := fun it acc env => by rfl
theorem turn3_1 : DeepTurn (lc3 elt t0 i0 t1 i1 t2 i2 f0 f1 f2 scope pos) 1 t1 i1 i2 f1 := fun it acc env => by rfl
theorem turn3_2 : LastTurn (lc3 elt t0 i0 t1 i1 t2 i2 f0 f1 f2 scope pos) 2 t2 i2 elt f2 := fun it acc env => by rfl
theorem start3_1 : StartOk (lc3 elt t0 i0 t1 i1 t2 i2 f0 f1 f2 scope pos) 1 := by
  intro prog w A R s it acc env h0 h
  refine codeAny_of_tree ?_
  show wpAny _ _ ((compStart (lc3 elt t0 i0 t1 i1 t2 i2 f0 f1 f2 scope pos) 1 it acc env).onRaise (fun x => do noteFrame x env; standAt theWindowsPlace)) _ _ s
  refine wpAny_notedAt ?_
  unfold compStart
  show wpAny _ _ (ask >>= _) _ _ s
  refine wpAny_bind (wpAny_askSetting (wpAny_ite ?_))
  split
  · first
      | exact wpAny_bind (wpAny_pure (wpAny_pure (And.intro rfl h0)))
      | exact wpAny_pure (And.intro rfl h0)
  · refine wpAny_bind (wpAny_rule ?_)
    show wpAny _ _ (standAt i1.pos >>= _) _ _ s
    exact wpAny_bind (wpAny_standAt (wpAny_bind (wpAny_mono h (fun it' s' h' => wpAny_pure (And.intro rfl h')) fun _ _ x => x)))
theorem start3_2 : StartOk (lc3 elt t0 i0 t1 i1 t2 i2 f0 f1 f2 scope pos) 2 := by
  intro prog w A R s it acc env h0 h
  refine codeAny_of_tree ?_
  show wpAny _ _ ((compStart (lc3 elt t0 i0 t1 i1 t2 i2 f0 f1 f2 scope pos) 2 it acc env).onRaise (fun x => do noteFrame x env; standAt theWindowsPlace)) _ _ s
  refine wpAny_notedAt ?_
  unfold compStart
  show wpAny _ _ (ask >>= _) _ _ s
  refine wpAny_bind (wpAny_askSetting (wpAny_ite ?_))
  split
  · first
      | exact wpAny_bind (wpAny_pure (wpAny_pure (And.intro rfl h0)))
      | exact wpAny_pure (And.intro rfl h0)
  · refine wpAny_bind (wpAny_rule ?_)
    show wpAny _ _ (standAt i2.pos >>= _) _ _ s
    exact wpAny_bind (wpAny_standAt (wpAny_bind (wpAny_mono h (fun it' s' h' => wpAny_pure (And.intro rfl h')) fun _ _ x => x)))
end
end DL

/-! DLT: comprehensions of three fors: their clauses over the layer. -/
namespace DL
open PySem PySem.Spec PyProof.Rows L2
/-- a clause's body: slots, heap, what is to be reached -/
abbrev CB := St → Hp → (Hp → Prop) → Prop
/-- all that σ knows τ knows -/
def Knows (σ τ : St) : Prop := σ.length = τ.length ∧ ∀ (j : Nat) v, σ[j]? = some (some v) → τ[j]? = some (some v)
theorem Knows.wipe {σ τ : St} {vs : List Nat} (h : L2.wipe τ vs = L2.wipe σ vs) : Knows (L2.wipe σ vs) τ := by
  rw [← h]; exact ⟨wipe_length _ _, fun j v e => (wipe_some e).1⟩
theorem Knows.in_ {σ τ : St} {vs ws : List Nat} (h : L2.wipe τ vs = L2.wipe σ vs) (hv : ∀ i ∈ ws, i ∈ vs) : Knows (L2.wipe σ vs) (L2.wipe τ ws) := by
  rw [← h]
  refine ⟨by rw [wipe_length, wipe_length], fun j v e => ?_⟩
  obtain ⟨e1, e2⟩ := wipe_some e
  rw [wipe_out fun z => e2 (hv j z)]
  exact e1
/-- one clause: what its walk is to do -/
def ClauseW (J : It) (g : TG) (tt : TT) (c : CB) (vs : List Nat) (σ : St) (Nx : Hp → Prop) (W : Nat → Nat → Hp → Prop) : Prop := ∀ j k H, W j k H →
  (J.stop j H ∧ Nx H) ∨ (J.go j H ∧ ∃ Nx1 : Hp → Prop, (∀ H', Nx1 H' → ∃ k', k' < k ∧ W (j + 1) k' H') ∧ ∀ x H', J.yld j H x H' → g x (L2.wipe σ vs) H' fun σ3 H5 => L2.wipe σ3 vs = L2.wipe σ vs ∧ tt σ3 H5 fun b H6 => if b = true then c σ3 H6 Nx1 else Nx1 H6)
section
variable {X : Cx} {pins : List (Addr × Obj)} {σ : St} {tg : Expr} {ifs : List Expr} {J : It} {fp : List Addr} {it : Addr} {tn : Nat → Heap → Prop} {g : TG} {tt : TT} {c : CB} {vs : List Nat} {W : Nat → Nat → Hp → Prop} {Nx : Hp → Prop} {Fin : Shared → Prop}
/-- what holds between two turns of a clause -/
def ClauseI (X : Cx) (pins : List (Addr × Obj)) (τ : St) (tn : Nat → Heap → Prop) (fp : List Addr) (W : Nat → Nat → Hp → Prop) (k : Nat) (s' : Shared) : Prop := ∃ j H', Inv X pins τ H' s' ∧ tn j s'.heap ∧ (∀ b ∈ fp, H' b = none) ∧ W j k H'
theorem clause_run (hc : X.calm = true) (hx : ∀ e s, ¬ X.xe e s) (T : Turn X.prog X.w X.K tg J fp it tn) (pg : PG X tg g) (pt : PTs X ifs tt) (stat : ∀ σ' H' s', Inv X pins σ' H' s' → (∀ b ∈ fp, H' b = none) → ∀ b ∈ fp, FpOk X pins H' b)
    (turn : ClauseW J g tt c vs σ Nx W) (fin : ∀ s' H', Inv X pins (L2.wipe σ vs) H' s' → Nx H' → Fin s') {Body : Shared → (Shared → Prop) → Prop} {F : Value → Shared → Prop}
    (body : ∀ pins' σ3 H6 s6 (Nx1 : Hp → Prop) (Z : Shared → Prop), Inv X pins' σ3 H6 s6 → L2.wipe σ3 vs = L2.wipe σ vs → c σ3 H6 Nx1 → (∀ σ' H' s', Inv X pins' σ' H' s' → Knows (L2.wipe σ vs) σ' → Nx1 H' → Z s') → Body s6 Z) :
    ∀ k s, ClauseI X pins (L2.wipe σ vs) tn fp W k s → TurnTo X.prog X.w X.A X.env tg ifs (.ref it) F Fin Body (fun s' => ∃ m, m < k ∧ ClauseI X pins (L2.wipe σ vs) tn fp W m s') s := by
  have nof : ∀ {α : Type} {t : Sem α} {Q Q' : α → Shared → Prop} {s : Shared}, wpAny (model X.prog X.w) X.A t Q X.xe s → (∀ a s, Q a s → Q' a s) → wpAny (model X.prog X.w) X.A t Q' F s := fun h hQ => wpAny_mono h hQ fun e s z => (hx e s z).elim
  rintro k s ⟨j, H, I, st, hn, w⟩
  unfold TurnTo
  rcases turn j k H w with ⟨stop, nx⟩ | ⟨go, Nx1, hNx, step⟩
  · refine thnF (T.done X rfl rfl rfl hc j pins s _ H (fun _ _ => False) I (stat _ _ _ I hn) st stop) fun r s1 ⟨hr, I1⟩ => ?_
    subst hr
    exact fin s1 H I1 nx
  · refine thnF (T.item X rfl rfl rfl hc j pins s _ H (fun _ _ => False) I (stat _ _ _ I hn) st go) fun r s1 ⟨u, hr, h1⟩ => ?_
    subst hr
    refine thnF h1 fun _ s2 ⟨x, H2, I2, r2, y2, st2, n2⟩ => ?_
    have I2' := I2.pinned (stat _ _ _ I2 n2) (T.obj _ _ st2)
    refine nof (pg.run _ s2 _ H2 x u _ I2' r2 (step x H2 y2)) fun _ s3 ⟨σ3, H3, I3, hw3, q3⟩ => ?_
    refine nof (pt.run _ s3 σ3 H3 _ I3 q3) fun b s4 ⟨H4, I4, q4⟩ => ?_
    have back : ∀ σ' H' s', Inv X (pins ++ pinsAt fp s2.heap) σ' H' s' → Knows (L2.wipe σ vs) σ' → Nx1 H' → ∃ m, m < k ∧ ClauseI X pins (L2.wipe σ vs) tn fp W m s' := fun σ' H' s' I' kn nx => by
      obtain ⟨m', hm, w'⟩ := hNx H' nx
      have pin' : ∀ b ∈ fp, ∀ o, s2.heap.get? b = some o → s'.heap.get? b = some o ∧ H' b = none := fun b hb o e =>
        let z := I'.pin (b, o) (List.mem_append_right _ (List.mem_append_right _ (mem_pinsAt hb e)))
        ⟨z.1, z.2.1⟩
      refine ⟨m', hm, j + 1, H', (I'.unpinned (pins := pins)).weak kn.1 kn.2, T.keep _ _ _ st2 fun b hb o e => (pin' b hb o e).1, fun b hb => ?_, w'⟩
      obtain ⟨o, e, _⟩ := T.obj _ _ st2 b hb
      exact (pin' b hb o e).2
    cases b with
    | false =>
      simp only [Bool.false_eq_true, if_false] at q4 ⊢
      exact back σ3 H4 s4 I4 (Knows.wipe hw3) q4
    | true =>
      simp only [if_true] at q4 ⊢
      exact body _ σ3 H4 s4 Nx1 _ I4 hw3 q4 back
end
/-- the last clause's body: the item is put behind the list at D -/
def cApp (D : Addr) (te : TE) : CB := fun σ H Nx => te σ H fun y H1 => ∃ acc, H1 D = some (.lst acc) ∧ acc.length < sizeLine ∧ Nx (upd H1 D (.lst (acc ++ [y])))
/-- a further clause -/
def cFor (wi : TI) (g : TG) (tt : TT) (vs : List Nat) (c : CB) : CB := fun σ H Nx => wi σ H fun J H1 => ∃ W : Nat → Nat → Hp → Prop, (∃ m, W 0 m H1) ∧ ClauseW J g tt c vs σ Nx W
/-- a clause's start, done in a block's frame -/
def RunsIn (X : Cx) (E i : Expr) (k : Nat) (D : Addr) (vs : List Nat) (c : CB) : Prop := ∀ pins σ H s (Nx : Hp → Prop) (Z : Shared → Prop), Inv X pins σ H s → c σ H Nx → (∀ s' H', Inv X pins (L2.wipe σ vs) H' s' → Nx H' → Z s') → bodyDeep X.prog X.w X.A X.env E i k (.ref D) X.xe s Z
section
variable {X : Cx} {elt i tg i2 : Expr} {ifs : List Expr} {gs : List Comprehension} {scope : Scope} {pos : Pos} {wi : TI} {g : TG} {tt : TT} {vs ws : List Nat} {c : CB} {D : Addr} {k : Nat} {te : TE}
theorem runs_last (hc : X.calm = true) (hx : ∀ e s, ¬ X.xe e s) (hT : LastTurn (.ListComp elt gs scope pos) (k + 1) tg i elt ifs) (hS : StartOk (.ListComp elt gs scope pos) (k + 1)) (pi : PI X tg i wi) (pg : PG X tg g) (pt : PTs X ifs tt) (pe : PE X elt te) : RunsIn X (.ListComp elt gs scope pos) i k D vs (cFor wi g tt vs (cApp D te)) := by
  intro pins σ H s Nx Z I q fin
  unfold bodyDeep
  refine thn (pi.run pins s σ H _ I q) fun xv s1 hx1 => thn hx1 fun itv s2 h2 => ?_
  obtain ⟨it, fp, tn, J, H2, rfl, I2, T, st2, f2, W, ⟨m0, w0⟩, turn⟩ := h2
  have stat : ∀ σ' H' s', Inv X pins σ' H' s' → (∀ b ∈ fp, H' b = none) → ∀ b ∈ fp, FpOk X pins H' b := fun σ' H' s' _ hn b hb => ⟨hn b hb, (f2 b hb).2⟩
  have loop : codeAny (model X.prog X.w) X.A (.compLoop (.ListComp elt gs scope pos) (k + 1) (.ref it) (.ref D) X.env) (fun r s' => match r with | .ok _ => Z s' | .error _ => False) s2 :=
    loop_last rfl hT (ClauseI X pins (L2.wipe σ vs) tn fp W) (clause_run hc hx T pg pt stat turn fin fun pins' σ3 H6 s6 Nx1 Z' I6 hw6 q6 back => by
      unfold bodyLast
      refine wpAny_mono (pe.run _ s6 σ3 H6 _ I6 q6) (fun z s7 ⟨yv, H7, I7, r7, acc, hD7, hz7, nx⟩ => ?_) fun e s z => (hx e s z).elim
      exact app_ok I7 hD7 hz7 r7 fun s8 I8 => back σ3 _ s8 I8 (Knows.wipe hw6) nx) m0 ⟨0, H2, I2.weak (wipe_length _ _) (fun j v e => (wipe_some e).1), st2, fun b hb => (f2 b hb).1, w0⟩
  exact hS _ _ _ _ _ _ _ _ loop (T.self X.A 0 _ _ _ st2 loop)
theorem runs_mid (hc : X.calm = true) (hx : ∀ e s, ¬ X.xe e s) (hT : DeepTurn (.ListComp elt gs scope pos) (k + 1) tg i i2 ifs) (hS : StartOk (.ListComp elt gs scope pos) (k + 1)) (hs : ∀ x, foldedSetIterable i2 X.env x = pure x) (pi : PI X tg i wi) (pg : PG X tg g) (pt : PTs X ifs tt) (hv : ∀ i ∈ ws, i ∈ vs)
    (R : RunsIn X (.ListComp elt gs scope pos) i2 (k + 1) D ws c) : RunsIn X (.ListComp elt gs scope pos) i k D vs (cFor wi g tt vs c) := by
  intro pins σ H s Nx Z I q fin
  unfold bodyDeep
  refine thn (pi.run pins s σ H _ I q) fun xv s1 hx1 => thn hx1 fun itv s2 h2 => ?_
  obtain ⟨it, fp, tn, J, H2, rfl, I2, T, st2, f2, W, ⟨m0, w0⟩, turn⟩ := h2
  have stat : ∀ σ' H' s', Inv X pins σ' H' s' → (∀ b ∈ fp, H' b = none) → ∀ b ∈ fp, FpOk X pins H' b := fun σ' H' s' _ hn b hb => ⟨hn b hb, (f2 b hb).2⟩
  have noF : ∀ {F : Value → Shared → Prop} {s6 : Shared} {Z' : Shared → Prop}, bodyDeep X.prog X.w X.A X.env (.ListComp elt gs scope pos) i2 (k + 1) (.ref D) X.xe s6 Z' → bodyDeep X.prog X.w X.A X.env (.ListComp elt gs scope pos) i2 (k + 1) (.ref D) F s6 Z' := fun h => by
    unfold bodyDeep at h ⊢
    exact wpAny_mono h (fun x s h => wpAny_mono h (fun _ _ z => z) fun e s z => (hx e s z).elim) fun e s z => (hx e s z).elim
  have loop : codeAny (model X.prog X.w) X.A (.compLoop (.ListComp elt gs scope pos) (k + 1) (.ref it) (.ref D) X.env) (fun r s' => match r with | .ok _ => Z s' | .error _ => False) s2 :=
    loop_deep rfl hT hs (ClauseI X pins (L2.wipe σ vs) tn fp W) (clause_run hc hx T pg pt stat turn fin fun pins' σ3 H6 s6 Nx1 Z' I6 hw6 q6 back =>
      noF (R pins' σ3 H6 s6 Nx1 Z' I6 q6 fun s' H' I' nx => back _ H' s' I' (Knows.in_ hw6 hv) nx)) m0 ⟨0, H2, I2.weak (wipe_length _ _) (fun j v e => (wipe_some e).1), st2, fun b hb => (f2 b hb).1, w0⟩
  exact hS _ _ _ _ _ _ _ _ loop (T.self X.A 0 _ _ _ st2 loop)
end
end DL

/-! DLU: comprehensions of three fors: the first clause, the whole; over data. -/
namespace DL
open PySem PySem.Spec PyProof.Rows L2
/-- [.. for tg in iter if .. <further clauses>]: D the new list, c what a turn does behind the tests -/
def tLcD (wi : TI) (g : TG) (tt : TT) (c : Addr → CB) (vs : List Nat) : TE := fun σ H Q => wi σ H fun J H1 => ∀ D, H1 D = none → ∃ W : Nat → Nat → Hp → Prop, (∃ m, W 0 m (upd H1 D (.lst []))) ∧ ClauseW J g tt (c D) vs σ (fun H' => Q (.ref D) H') W
theorem blk_xe {X : Cx} {s : Shared} {H : Hp} {scope : Scope} {ce : Env} {fp : List Addr} : ∀ e s', ¬ (X.blk s H scope ce fp).xe e s' := fun _ _ z => z
section
variable {X : Cx}
theorem pe_lcD {elt tg iter i2 : Expr} {ifs : List Expr} {rest : List Comprehension} {scope : Scope} {own : List (Str × Nat)} {ws : List Nat} {pos : Pos} {wi : TI} {g : TG} {tt : TT} {c : Addr → CB} (hc : X.calm = true) (hN : X.N.Nodup) (hi : PI X tg iter wi) (ok : BlkOk X.N X.env.scope scope own) (hv : ∀ i ∈ ws, i ∈ own.map (·.2))
    (hT : DeepTurn (.ListComp elt (⟨tg, iter, ifs, 0⟩ :: rest) scope pos) 0 tg iter i2 ifs) (hs2 : ∀ env x, foldedSetIterable i2 env x = pure x)
    (hg : ∀ (s : Shared) (H : Hp) (C : Addr) (cl : List (Str × Addr)) (fp : List Addr), PG (X.blk s H scope (compEnvC scope cl C X.env) fp) tg g) (ht : ∀ (s : Shared) (H : Hp) (C : Addr) (cl : List (Str × Addr)) (fp : List Addr), PTs (X.blk s H scope (compEnvC scope cl C X.env) fp) ifs tt)
    (hr : ∀ (s : Shared) (H : Hp) (C : Addr) (cl : List (Str × Addr)) (fp : List Addr) (D : Addr), RunsIn (X.blk s H scope (compEnvC scope cl C X.env) fp) (.ListComp elt (⟨tg, iter, ifs, 0⟩ :: rest) scope pos) i2 0 D ws (c D)) (hs : ∀ x, foldedSetIterable iter X.env x = pure x := by intro _; rfl) :
    PE X (.ListComp elt (⟨tg, iter, ifs, 0⟩ :: rest) scope pos) (tLcD wi g tt c (own.map (·.2))) := by
  refine ⟨fun pins s σ H Q I h => ?_⟩
  rw [eval_ListComp]
  have hfree : ∀ y ∈ scope.names, y.2 = .free → ∃ c, X.env.cells.lookup y.1 = some c := fun y hy e => by
    rcases ok.free y hy e with k | k
    · exact I.ok.has _ (.inl k)
    · exact I.ok.has _ (.inr k)
  refine wpAny_comprehension_free (use := none) rfl hs (closure_ok hfree) ok.kind (fun y hy e => by rw [ok.uniq y hy, e])
    (thn (hi.run pins s σ H _ I h) fun xv s1 hx => thn hx fun itv s2 h2 => ?_)
  obtain ⟨it, fp, tn, J, H2, e, I2, T, st2, f2, q⟩ := h2
  subst e
  refine wpAny_newObj_type (newEnv_comp ?_) (by show 0 ≤ sizeLine; decide)
  generalize hD : s2.heap.objs.size = D
  have hDn : H2 D = none := I2.hok.fresh (Nat.le_of_eq hD)
  obtain ⟨W, ⟨m0, w0⟩, turn⟩ := q D hDn
  generalize hs3 : ({ s2 with heap := s2.heap.push { cls := .type "list", data := .seq ([] : List Value).toArray } } : Shared) = s3
  have I3 : Inv X pins σ (upd H2 D (.lst [])) s3 := by
    rw [← hs3]
    refine I2.laid (t' := s2.toks) (fun b o e => Heap.get?_push_of_some _ e) (Nat.le_of_eq hD) ⟨Nat.zero_le _, [], 0, .nil, ?_⟩
    rw [← hD]
    exact Heap.get?_push_size _ rfl
  have h3 : s3.heap = s2.heap.push { cls := .type "list", data := .seq ([] : List Value).toArray } := by rw [← hs3]
  have f3 : ∀ b ∈ fp, FpOk X pins (upd H2 D (.lst [])) b ∧ b < s3.heap.objs.size := fun b hb => by
    obtain ⟨o, e, _⟩ := T.obj _ _ st2 b hb
    have hlt : b < s2.heap.objs.size := Heap.lt_size e
    refine ⟨⟨?_, (f2 b hb).2⟩, by rw [h3, Heap.size_push]; exact Nat.lt_succ_of_lt hlt⟩
    rw [upd_ne (by rw [← hD]; exact Nat.ne_of_lt hlt)]
    exact (f2 b hb).1
  have st3 : tn 0 s3.heap := T.keep _ _ _ st2 fun b _ o e => by rw [h3]; exact Heap.get?_push_of_some _ e
  have I4 := block_start I3 ok hN f3
  have pg := hg s3 (upd H2 D (.lst [])) s3.heap.objs.size (cellsFrom (s3.heap.objs.size + 1) scope.names (cloFrom X.env.cells scope.names [])) fp
  have pt := ht s3 (upd H2 D (.lst [])) s3.heap.objs.size (cellsFrom (s3.heap.objs.size + 1) scope.names (cloFrom X.env.cells scope.names [])) fp
  have pr := hr s3 (upd H2 D (.lst [])) s3.heap.objs.size (cellsFrom (s3.heap.objs.size + 1) scope.names (cloFrom X.env.cells scope.names [])) fp D
  show codeAny _ _ (.compStart (.ListComp elt (⟨tg, iter, ifs, 0⟩ :: rest) scope pos) 0 (.ref it) (.ref D) (compEnvC scope (cellsFrom (s3.heap.objs.size + 1) scope.names (cloFrom X.env.cells scope.names [])) s3.heap.objs.size X.env)) (compPost (model X.prog X.w) X.A X.xe none (EP X pins σ Q) (.ref D) s3.heap.objs.size) { s3 with heap := pushCells (s3.heap.push { cls := .type "dict", data := .dict #[] }) scope.names }
  have nfp : ∀ b ∈ fp, (upd H2 D (.lst [])) b = none := fun b hb => (f3 b hb).1.1
  generalize hce : compEnvC scope (cellsFrom (s3.heap.objs.size + 1) scope.names (cloFrom X.env.cells scope.names [])) s3.heap.objs.size X.env = ce at I4 pg pt pr ⊢
  have cL : ce.locals = s3.heap.objs.size := by subst hce; rfl
  generalize hH3 : upd H2 D (.lst []) = H3 at I3 I4 pg pt pr w0 nfp f3
  generalize hs4 : ({ s3 with heap := pushCells (s3.heap.push { cls := .type "dict", data := .dict #[] }) scope.names } : Shared) = s4 at I4 ⊢
  have st4 : tn 0 s4.heap := T.keep _ _ _ st3 fun b _ o e => by rw [← hs4]; exact pushCells_keeps _ _ _ _ (Heap.get?_push_of_some _ e)
  have stat : ∀ σ' H' s', Inv (X.blk s3 H3 scope ce fp) [] σ' H' s' → (∀ b ∈ fp, H' b = none) → ∀ b ∈ fp, FpOk (X.blk s3 H3 scope ce fp) [] H' b := fun σ' H' s' I' hn b hb =>
    ⟨hn b hb, (I'.ok.exf b hb).1, I'.ok.exfs b hb, .inl hb, fun x c e => (I'.ok.exf b hb).2 x c e, fun p hp => absurd (show p ∈ ([] : List (Addr × Obj)) ++ [] from hp) (by simp)⟩
  have loop : codeAny (model X.prog X.w) X.A (.compLoop (.ListComp elt (⟨tg, iter, ifs, 0⟩ :: rest) scope pos) 0 (.ref it) (.ref D) ce) (compPost (model X.prog X.w) X.A X.xe none (EP X pins σ Q) (.ref D) s3.heap.objs.size) s4 := by
    refine loop_deep rfl hT (hs2 ce) (ClauseI (X.blk s3 H3 scope ce fp) [] (L2.wipe σ (own.map (·.2))) tn fp W) (clause_run (X := X.blk s3 H3 scope ce fp) hc blk_xe T pg pt stat turn (fun s6 H5 I6 qq => ?_) fun pins' σ3 H6 s6 Nx1 Z' I6 hw6 q6 back => ?_) m0 ⟨0, H3, I4, st4, nfp, w0⟩
    · have I7 : Inv X pins σ H5 s6 := I3.call' (ch := fp) I6.os I6.base I6.hok I6.bare fun b hb => ⟨(f3 b hb).1.2.2.2.1, (f3 b hb).1.2.1, (f3 b hb).1.2.2.2.2.1, (f3 b hb).1.2.2.2.2.2⟩
      have nC : H5 s3.heap.objs.size = none := by
        have z : H5 ce.locals = none := I6.free
        rw [cL] at z
        exact z
      obtain ⟨m, hn, _⟩ := I6.loc
      have hn : s6.heap.Ns ce.locals m := hn
      rw [cL] at hn
      refine ⟨m, hn, fun h'' sb => ?_⟩
      obtain ⟨f0, f1, f2, f3, f4, f5⟩ := I3.fpOk (Nat.le_refl _) nC
      exact ⟨.ref D, H5, I7.turned (t' := s6.toks) (fun b o hb e => (sb.2 b hb).trans e) f0 f1 f3 f4 f5, rfl, qq⟩
    · have := pr pins' σ3 H6 s6 Nx1 Z' I6 q6 fun s' H' I' nx => back _ H' s' I' (Knows.in_ hw6 hv) nx
      unfold bodyDeep at this ⊢
      exact wpAny_mono this (fun x s h => wpAny_mono h (fun _ _ z => z) fun e s z => z.elim) fun e s z => z.elim
  exact codeAny_compStart_list loop (T.self X.A 0 _ _ _ st4 loop)
/-- [elt for t0 in i0 if f0 for t1 in i1 if f1 for t2 in i2 if f2] -/
theorem pe_lc3 {elt t0 i0 t1 i1 t2 i2 : Expr} {f0 f1 f2 : List Expr} {scope : Scope} {own : List (Str × Nat)} {vs1 vs2 : List Nat} {pos : Pos} {w0 w1 w2 : TI} {g0 g1 g2 : TG} {tt0 tt1 tt2 : TT} {te : TE} (hc : X.calm = true) (hN : X.N.Nodup) (hi : PI X t0 i0 w0) (ok : BlkOk X.N X.env.scope scope own) (hv1 : ∀ i ∈ vs1, i ∈ own.map (·.2)) (hv2 : ∀ i ∈ vs2, i ∈ vs1)
    (hg0 : ∀ (s : Shared) (H : Hp) (C : Addr) (cl : List (Str × Addr)) (fp : List Addr), PG (X.blk s H scope (compEnvC scope cl C X.env) fp) t0 g0) (ht0 : ∀ (s : Shared) (H : Hp) (C : Addr) (cl : List (Str × Addr)) (fp : List Addr), PTs (X.blk s H scope (compEnvC scope cl C X.env) fp) f0 tt0)
    (hi1 : ∀ (s : Shared) (H : Hp) (C : Addr) (cl : List (Str × Addr)) (fp : List Addr), PI (X.blk s H scope (compEnvC scope cl C X.env) fp) t1 i1 w1)
    (hg1 : ∀ (s : Shared) (H : Hp) (C : Addr) (cl : List (Str × Addr)) (fp : List Addr), PG (X.blk s H scope (compEnvC scope cl C X.env) fp) t1 g1) (ht1 : ∀ (s : Shared) (H : Hp) (C : Addr) (cl : List (Str × Addr)) (fp : List Addr), PTs (X.blk s H scope (compEnvC scope cl C X.env) fp) f1 tt1)
    (hi2 : ∀ (s : Shared) (H : Hp) (C : Addr) (cl : List (Str × Addr)) (fp : List Addr), PI (X.blk s H scope (compEnvC scope cl C X.env) fp) t2 i2 w2)
    (hg2 : ∀ (s : Shared) (H : Hp) (C : Addr) (cl : List (Str × Addr)) (fp : List Addr), PG (X.blk s H scope (compEnvC scope cl C X.env) fp) t2 g2) (ht2 : ∀ (s : Shared) (H : Hp) (C : Addr) (cl : List (Str × Addr)) (fp : List Addr), PTs (X.blk s H scope (compEnvC scope cl C X.env) fp) f2 tt2)
    (he : ∀ (s : Shared) (H : Hp) (C : Addr) (cl : List (Str × Addr)) (fp : List Addr), PE (X.blk s H scope (compEnvC scope cl C X.env) fp) elt te) (hs0 : ∀ x, foldedSetIterable i0 X.env x = pure x := by intro _; rfl) (hs1 : ∀ env x, foldedSetIterable i1 env x = pure x := by intro _ _; rfl) (hs2 : ∀ env x, foldedSetIterable i2 env x = pure x := by intro _ _; rfl) :
    PE X (lc3 elt t0 i0 t1 i1 t2 i2 f0 f1 f2 scope pos) (tLcD w0 g0 tt0 (fun D => cFor w1 g1 tt1 vs1 (cFor w2 g2 tt2 vs2 (cApp D te))) (own.map (·.2))) :=
  pe_lcD hc hN hi ok hv1 turn3_0 hs1 hg0 ht0 (fun s H C cl fp D => runs_mid hc blk_xe turn3_1 start3_1 (hs2 _) (hi1 s H C cl fp) (hg1 s H C cl fp) (ht1 s H C cl fp) hv2 (runs_last hc blk_xe turn3_2 start3_2 (hi2 s H C cl fp) (hg2 s H C cl fp) (ht2 s H C cl fp) (he s H C cl fp))) hs0
end
end DL

/-! DLV: comprehensions of three fors over data; comprehensions over a dict's keys; pop(i), index, upper. -/
namespace DL
open PySem PySem.Spec PyProof.Rows L2
abbrev DCB := DR → Mu → (Mu → Prop) → Prop
def RefCB (K : PySem.W.Frag) (B : Gh) (T : DCB) (t : CB) : Prop := ∀ ρ μ σ H G (N : Mu → Prop) (Nx : Hp → Prop), Sat K B G ρ μ σ H → T ρ μ N → (∀ μ' H' G', Gle G G' → Hold K G' μ' H' → N μ' → Nx H') → t σ H Nx
def dApp (p : Addr) (te : TDE) : DCB := fun ρ μ N => te ρ μ fun d μ1 => cS (μ1 p) fun acc => acc.length < sizeLine ∧ N (mup μ1 p (.lst (acc ++ [d])))
@[simp ↓] theorem dApp_p {p : Addr} {te : TDE} {ρ} {μ} {N : Mu → Prop} : dApp p te ρ μ N = (te ρ μ fun d μ1 => cS (μ1 p) fun acc => acc.length < sizeLine ∧ N (mup μ1 p (.lst (acc ++ [d])))) := id rfl
def cmpL (g : TDG) (tt : TDT) (c : DCB) (ρ0 : DR) (N : Mu → Prop) : List D → Mu → Prop
  | [], μ => N μ
  | x :: r, μ => g x ρ0 μ fun ρ2 μ2 => tt ρ2 μ2 fun b μ3 => if b = true then c ρ2 μ3 (cmpL g tt c ρ0 N r) else cmpL g tt c ρ0 N r μ3
@[simp ↓] theorem cmpL_n {g : TDG} {tt : TDT} {c : DCB} {ρ0 : DR} {N : Mu → Prop} {μ : Mu} : cmpL g tt c ρ0 N [] μ = N μ := id rfl
@[simp ↓] theorem cmpL_c {g : TDG} {tt : TDT} {c : DCB} {ρ0 : DR} {N : Mu → Prop} {x : D} {r : List D} {μ : Mu} : cmpL g tt c ρ0 N (x :: r) μ = (g x ρ0 μ fun ρ2 μ2 => tt ρ2 μ2 fun b μ3 => if b = true then c ρ2 μ3 (cmpL g tt c ρ0 N r) else cmpL g tt c ρ0 N r μ3) := id rfl
def dForC (I : TDI) (g : TDG) (tt : TDT) (vs : List Nat) (c : DCB) : DCB := fun ρ μ N => I ρ μ fun xs μ1 => cmpL g tt c (wipeD ρ vs) N xs μ1
@[simp ↓] theorem dForC_p {I : TDI} {g : TDG} {tt : TDT} {vs : List Nat} {c : DCB} {ρ} {μ} {N : Mu → Prop} : dForC I g tt vs c ρ μ N = (I ρ μ fun xs μ1 => cmpL g tt c (wipeD ρ vs) N xs μ1) := id rfl
def dLcD (k : Bool) (I : TDI) (g : TDG) (tt : TDT) (c : Addr → DCB) (vs : List Nat) : TDE := fun ρ μ Q => I ρ μ fun xs μ1 => ∀ p, μ1 p = none → cmpL g tt (c p) (wipeD ρ vs) (fun μ2 => endL k p μ2 Q) xs (mup μ1 p (.lst []))
@[simp ↓] theorem dLcD_p {k : Bool} {I : TDI} {g : TDG} {tt : TDT} {c : Addr → DCB} {vs : List Nat} {ρ} {μ} {Q} : dLcD k I g tt c vs ρ μ Q = (I ρ μ fun xs μ1 => ∀ p, μ1 p = none → cmpL g tt (c p) (wipeD ρ vs) (fun μ2 => endL k p μ2 Q) xs (mup μ1 p (.lst []))) := id rfl
section
variable {K : PySem.W.Frag} {B : Gh} {I : TDI} {i : TI} {g : TDG} {gn : TG} {tt : TDT} {ttn : TT} {te : TDE} {ten : TE} {vs : List Nat} {c : DCB} {cn : CB} {p : Addr}
theorem ref_app (he : RefE K B te ten) : RefCB K B (dApp p te) (cApp p ten) := fun ρ μ σ H G N Nx S h hd => he ρ μ σ H G _ _ S h fun d μ1 v H1 G1 g1 S1 r1 q1 => by
  rw [cS_eq] at q1
  obtain ⟨acc, e, l, q⟩ := q1
  obtain ⟨ws, h1, rr⟩ := S1.hold.lstAt e
  exact ⟨ws, h1, by rw [rr.1]; exact l, hd _ _ G1 g1 (S1.hold.cellSet e (show CellR K G1 (.lst (ws ++ [v])) (.lst (acc ++ [d])) from rr.append (Reps.one r1))) q⟩
/-- a clause's walk from its reading -/
theorem clauseW_of {ρ : DR} {σ : St} {G1 : Gh} {J : It} {xs : List D} {N : Mu → Prop} {Nx : Hp → Prop} (hg : RefG K B g gn) (hk : KeepG gn vs) (ht : RefT K B tt ttn) (hc : RefCB K B c cn) (env : Envr K B G1 σ ρ)
    (hgo : ∀ n H' G' μ', Gle G1 G' → Hold K G' μ' H' → (n < xs.length → J.go n H') ∧ (xs.length ≤ n → J.stop n H'))
    (hy : ∀ n x v H' H2 G' μ', Gle G1 G' → Hold K G' μ' H' → xs[n]? = some x → J.yld n H' v H2 → ∃ G2, Gle G' G2 ∧ Hold K G2 μ' H2 ∧ Rep K G2 v x)
    (hd : ∀ μ' H' G', Gle G1 G' → Hold K G' μ' H' → N μ' → Nx H') :
    ClauseW J gn ttn cn vs σ Nx (fun n m H' => m = xs.length - n ∧ n ≤ xs.length ∧ ∃ G' μ', Gle G1 G' ∧ Hold K G' μ' H' ∧ cmpL g tt c (wipeD ρ vs) N (xs.drop n) μ') := by
  rintro n m H' ⟨rfl, hn, G', μ', g2, S2, q3⟩
  by_cases hlt : n < xs.length
  · refine .inr ⟨(hgo n H' G' μ' g2 S2).1 hlt, fun H3 => ∃ G3 μ3, Gle G1 G3 ∧ Hold K G3 μ3 H3 ∧ cmpL g tt c (wipeD ρ vs) N (xs.drop (n + 1)) μ3, ?_, ?_⟩
    · rintro H3 ⟨G3, μ3, g3, S3, q4⟩
      exact ⟨xs.length - (n + 1), by omega, rfl, hlt, G3, μ3, g3, S3, q4⟩
    · intro v H2 yv
      obtain ⟨G2, g3, h2, rv⟩ := hy n xs[n] v H' H2 G' μ' g2 S2 (List.getElem?_eq_getElem hlt) yv
      rw [List.drop_eq_getElem_cons hlt] at q3
      have S3 : Sat K B G2 (wipeD ρ vs) μ' (L2.wipe σ vs) H2 := ⟨h2, (((env.mono g2).mono g3).wipe vs)⟩
      have q4 := hg xs[n] v (wipeD ρ vs) μ' (L2.wipe σ vs) H2 G2 _ (fun σ2 H3 => ttn σ2 H3 fun b H3 => if b = true then cn σ2 H3 (fun H3 => ∃ G3 μ3, Gle G1 G3 ∧ Hold K G3 μ3 H3 ∧ cmpL g tt c (wipeD ρ vs) N (xs.drop (n + 1)) μ3) else ∃ G3 μ3, Gle G1 G3 ∧ Hold K G3 μ3 H3 ∧ cmpL g tt c (wipeD ρ vs) N (xs.drop (n + 1)) μ3) S3 rv q3 fun ρ4 μ4 σ4 H4 G4 g4 S4 q4 => by
        refine ht ρ4 μ4 σ4 H4 G4 _ _ S4 q4 fun b μ5 H5 G5 g5 S5 q5 => ?_
        cases b with
        | true => exact hc ρ4 μ5 σ4 H5 G5 _ _ S5 q5 fun μ6 H6 G6 g6 S6 q6 => ⟨G6, μ6, (((g2.trans g3).trans g4).trans g5).trans g6, S6, q6⟩
        | false => exact ⟨G5, μ5, ((g2.trans g3).trans g4).trans g5, S5.hold, q5⟩
      have q5 := hk v (L2.wipe σ vs) H2 _ q4
      rw [wipe_wipe] at q5
      exact q5
  · have e : n = xs.length := by omega
    subst e
    rw [List.drop_length] at q3
    exact .inl ⟨(hgo _ H' G' μ' g2 S2).2 (Nat.le_refl _), hd μ' H' G' g2 S2 q3⟩
theorem ref_forC (hi : RefI K B I i) (hg : RefG K B g gn) (hk : KeepG gn vs) (ht : RefT K B tt ttn) (hc : RefCB K B c cn) : RefCB K B (dForC I g tt vs c) (cFor i gn ttn vs cn) := fun ρ μ σ H G N Nx S h hd => by
  refine hi ρ μ σ H G _ _ S h fun xs μ1 J H1 G1 g1 S1 q1 hgo hy => ?_
  exact ⟨_, ⟨xs.length, by simp, Nat.zero_le _, G1, μ1, Gle.refl _, S1.hold, by simpa using q1⟩, clauseW_of hg hk ht hc S1.env hgo hy fun μ' H' G' g' => hd μ' H' G' (g1.trans g')⟩
theorem ref_lcD {k : Bool} {c : Addr → DCB} {cn : Addr → CB} (hi : RefI K B I i) (hg : RefG K B g gn) (hk : KeepG gn vs) (ht : RefT K B tt ttn) (hc : ∀ p, RefCB K B (c p) (cn p)) : RefE K B (dLcD k I g tt c vs) (tLcD i gn ttn cn vs) := fun ρ μ σ H G Q Qn S h hd => by
  refine hi ρ μ σ H G _ _ S h fun xs μ1 J H1 G1 g1 S1 q1 hgo hy => ?_
  intro p np
  have hc1 : Hold K G1 (mup μ1 p (.lst [])) (upd H1 p (.lst [])) := S1.hold.cellNew np (show CellR K G1 (.lst []) (.lst []) from Reps.nil)
  have q2 := q1 p (S1.hold.free np).2.1
  exact ⟨_, ⟨xs.length, by simp, Nat.zero_le _, G1, _, Gle.refl _, hc1, by simpa using q2⟩, clauseW_of hg hk ht (hc p) S1.env hgo hy fun μ' H' G' g' S' q' => endL_go q' ⟨S', S1.env.mono g'⟩ (hd.mono (g1.trans g'))⟩
end
section
variable {X : Cx}
theorem de_lc3A (k : Bool) {elt t0 i0 t1 i1 t2 i2 : Expr} {f0 f1 f2 : List Expr} {scope : Scope} {own : List (Str × Nat)} {vs1 vs2 : List Nat} {pos : Pos} {w0 w1 w2 : TI} {w1' w2' : Fam TI} {I0 I1 I2 : TDI} {g0 g1 g2 : TG} {U0 U1 U2 : TDG} {tt0 tt1 tt2 : TT} {tt0' tt1' tt2' : Fam TT} {T0 T1 T2 : TDT} {te : TE} {te' : Fam TE} {Te : TDE} (hc : X.calm = true) (hN : X.N.Nodup) (hi : DI X B t0 i0 w0 I0) (ok : BlkOk X.N X.env.scope scope own) (hv1 : ∀ i ∈ vs1, i ∈ own.map (·.2)) (hv2 : ∀ i ∈ vs2, i ∈ vs1)
    (hg0 : ∀ (s : Shared) (H : Hp) (C : Addr) (cl : List (Str × Addr)) (fp : List Addr), DG (X.blk s H scope (compEnvC scope cl C X.env) fp) B t0 g0 U0) (hk0 : KeepG g0 (own.map (·.2))) (ht0 : ∀ (s : Shared) (H : Hp) (C : Addr) (cl : List (Str × Addr)) (fp : List Addr), DTs (X.blk s H scope (compEnvC scope cl C X.env) fp) B f0 (tt0' s H C cl fp) T0)
    (hi1 : ∀ (s : Shared) (H : Hp) (C : Addr) (cl : List (Str × Addr)) (fp : List Addr), DI (X.blk s H scope (compEnvC scope cl C X.env) fp) B t1 i1 (w1' s H C cl fp) I1)
    (hg1 : ∀ (s : Shared) (H : Hp) (C : Addr) (cl : List (Str × Addr)) (fp : List Addr), DG (X.blk s H scope (compEnvC scope cl C X.env) fp) B t1 g1 U1) (hk1 : KeepG g1 vs1) (ht1 : ∀ (s : Shared) (H : Hp) (C : Addr) (cl : List (Str × Addr)) (fp : List Addr), DTs (X.blk s H scope (compEnvC scope cl C X.env) fp) B f1 (tt1' s H C cl fp) T1)
    (hi2 : ∀ (s : Shared) (H : Hp) (C : Addr) (cl : List (Str × Addr)) (fp : List Addr), DI (X.blk s H scope (compEnvC scope cl C X.env) fp) B t2 i2 (w2' s H C cl fp) I2)
    (hg2 : ∀ (s : Shared) (H : Hp) (C : Addr) (cl : List (Str × Addr)) (fp : List Addr), DG (X.blk s H scope (compEnvC scope cl C X.env) fp) B t2 g2 U2) (hk2 : KeepG g2 vs2) (ht2 : ∀ (s : Shared) (H : Hp) (C : Addr) (cl : List (Str × Addr)) (fp : List Addr), DTs (X.blk s H scope (compEnvC scope cl C X.env) fp) B f2 (tt2' s H C cl fp) T2)
    (he : ∀ (s : Shared) (H : Hp) (C : Addr) (cl : List (Str × Addr)) (fp : List Addr), DE (X.blk s H scope (compEnvC scope cl C X.env) fp) B elt (te' s H C cl fp) Te)
    (e0 : tt0' = fun _ _ _ _ _ => tt0 := by (first | rfl | (simp only [Cx.blk]; rfl))) (e1 : w1' = fun _ _ _ _ _ => w1 := by (first | rfl | (simp only [Cx.blk]; rfl))) (e2 : tt1' = fun _ _ _ _ _ => tt1 := by (first | rfl | (simp only [Cx.blk]; rfl))) (e3 : w2' = fun _ _ _ _ _ => w2 := by (first | rfl | (simp only [Cx.blk]; rfl))) (e4 : tt2' = fun _ _ _ _ _ => tt2 := by (first | rfl | (simp only [Cx.blk]; rfl))) (e5 : te' = fun _ _ _ _ _ => te := by (first | rfl | (simp only [Cx.blk]; rfl)))
    (hs0 : ∀ x, foldedSetIterable i0 X.env x = pure x := by intro _; rfl) (hs1 : ∀ env x, foldedSetIterable i1 env x = pure x := by intro _ _; rfl) (hs2 : ∀ env x, foldedSetIterable i2 env x = pure x := by intro _ _; rfl) :
    DE X B (lc3 elt t0 i0 t1 i1 t2 i2 f0 f1 f2 scope pos) (tLcD w0 g0 tt0 (fun D => cFor w1 g1 tt1 vs1 (cFor w2 g2 tt2 vs2 (cApp D te))) (own.map (·.2))) (dLcD k I0 U0 T0 (fun p => dForC I1 U1 T1 vs1 (dForC I2 U2 T2 vs2 (dApp p Te))) (own.map (·.2))) := by
  subst e0; subst e1; subst e2; subst e3; subst e4; subst e5
  exact ⟨pe_lc3 hc hN hi.pi ok hv1 hv2 (fun s H C cl fp => (hg0 s H C cl fp).pg) (fun s H C cl fp => (ht0 s H C cl fp).pts) (fun s H C cl fp => (hi1 s H C cl fp).pi) (fun s H C cl fp => (hg1 s H C cl fp).pg) (fun s H C cl fp => (ht1 s H C cl fp).pts) (fun s H C cl fp => (hi2 s H C cl fp).pi) (fun s H C cl fp => (hg2 s H C cl fp).pg) (fun s H C cl fp => (ht2 s H C cl fp).pts) (fun s H C cl fp => (he s H C cl fp).pe) hs0 hs1 hs2,
    ref_lcD hi.ref (hg0 X.s_0 X.H_0 0 [] []).ref hk0 (ht0 X.s_0 X.H_0 0 [] []).ref fun p => ref_forC (hi1 X.s_0 X.H_0 0 [] []).ref (hg1 X.s_0 X.H_0 0 [] []).ref hk1 (ht1 X.s_0 X.H_0 0 [] []).ref (ref_forC (hi2 X.s_0 X.H_0 0 [] []).ref (hg2 X.s_0 X.H_0 0 [] []).ref hk2 (ht2 X.s_0 X.H_0 0 [] []).ref (ref_app (he X.s_0 X.H_0 0 [] []).ref))⟩
/-! ### over a dict's keys -/
/-- as compL; Kp holds at each turn -/
def compLK (g : TDG) (tt : TDT) (te : TDE) (p : Addr) (ρ0 : DR) (Kp : Mu → Prop) (Q : Mu → Prop) : List D → Mu → Prop
  | [], μ => Kp μ ∧ Q μ
  | x :: r, μ => Kp μ ∧ g x ρ0 μ fun ρ2 μ2 => tt ρ2 μ2 fun b μ3 => if b = true then te ρ2 μ3 fun d μ4 => ∃ acc, μ4 p = some (.lst acc) ∧ acc.length < sizeLine ∧ compLK g tt te p ρ0 Kp Q r (mup μ4 p (.lst (acc ++ [d]))) else compLK g tt te p ρ0 Kp Q r μ3
theorem compLK_kp {g : TDG} {tt : TDT} {te : TDE} {p : Addr} {ρ0 : DR} {Kp Q : Mu → Prop} {xs : List D} {μ : Mu} (h : compLK g tt te p ρ0 Kp Q xs μ) : Kp μ := by
  cases xs with
  | nil => exact h.1
  | cons x r => exact h.1
def dLcK (k : Bool) (I : TDIK) (g : TDG) (tt : TDT) (te : TDE) (vs : List Nat) : TDE := fun ρ μ Q => I ρ μ fun xs Kp μ1 => ∀ p, μ1 p = none → compLK g tt te p (wipeD ρ vs) Kp (fun μ2 => endL k p μ2 Q) xs (mup μ1 p (.lst []))
@[simp ↓] theorem dLcK_p {k : Bool} {I : TDIK} {g : TDG} {tt : TDT} {te : TDE} {vs : List Nat} {ρ} {μ} {Q} : dLcK k I g tt te vs ρ μ Q = (I ρ μ fun xs Kp μ1 => ∀ p, μ1 p = none → compLK g tt te p (wipeD ρ vs) Kp (fun μ2 => endL k p μ2 Q) xs (mup μ1 p (.lst []))) := id rfl
theorem ref_lcK {K : PySem.W.Frag} {k : Bool} {I : TDIK} {i : TI} {g : TDG} {gn : TG} {tt : TDT} {ttn : TT} {te : TDE} {ten : TE} {vs : List Nat} (hi : RefIK K B I i) (hg : RefG K B g gn) (hk : KeepG gn vs) (ht : RefT K B tt ttn) (he : RefE K B te ten) : RefE K B (dLcK k I g tt te vs) (tLc i gn ttn ten vs) := fun ρ μ σ H G Q Qn S h hd => by
  refine hi ρ μ σ H G _ _ S h fun xs Kp μ1 J H1 G1 g1 S1 q1 hgo hy => ?_
  intro p np
  have hc1 : Hold K G1 (mup μ1 p (.lst [])) (upd H1 p (.lst [])) := S1.hold.cellNew np (show CellR K G1 (.lst []) (.lst []) from Reps.nil)
  have q2 := q1 p (S1.hold.free np).2.1
  let Z : Nat → Hp → Prop := fun n H' => ∃ G' μ', Gle G1 G' ∧ Hold K G' μ' H' ∧ compLK g tt te p (wipeD ρ vs) Kp (fun μ2 => endL k p μ2 Q) (xs.drop n) μ'
  refine ⟨fun n m H' => m = xs.length - n ∧ n ≤ xs.length ∧ Z n H', ⟨xs.length, by simp, Nat.zero_le _, G1, _, Gle.refl _, hc1, by simpa using q2⟩, ?_⟩
  rintro n m H' ⟨rfl, hn, G', μ', g2, S2, q3⟩
  have kp := compLK_kp q3
  by_cases hlt : n < xs.length
  · refine .inr ⟨(hgo n H' G' μ' g2 S2 kp).1 hlt, Z (n + 1), fun H3 z => ⟨xs.length - (n + 1), by omega, rfl, hlt, z⟩, ?_⟩
    intro v H2 yv
    obtain ⟨G2, g3, h2, rv⟩ := hy n xs[n] v H' H2 G' μ' g2 S2 kp (List.getElem?_eq_getElem hlt) yv
    rw [List.drop_eq_getElem_cons hlt] at q3
    have S3 : Sat K B G2 (wipeD ρ vs) μ' (L2.wipe σ vs) H2 := ⟨h2, (((S1.env.mono g2).mono g3).wipe vs)⟩
    have q4 := hg xs[n] v (wipeD ρ vs) μ' (L2.wipe σ vs) H2 G2 _ (fun σ2 H3 => ttn σ2 H3 fun b H3 => if b = true then ten σ2 H3 fun y H4 => ∃ acc, H4 p = some (.lst acc) ∧ acc.length < sizeLine ∧ Z (n + 1) (upd H4 p (.lst (acc ++ [y]))) else Z (n + 1) H3) S3 rv q3.2 fun ρ4 μ4 σ4 H4 G4 g4 S4 q4 => by
      refine ht ρ4 μ4 σ4 H4 G4 _ _ S4 q4 fun b μ5 H5 G5 g5 S5 q5 => ?_
      cases b with
      | true =>
        refine he ρ4 μ5 σ4 H5 G5 _ _ S5 q5 fun d μ6 v6 H6 G6 g6 S6 r6 q6 => ?_
        obtain ⟨acc, e, l, q6⟩ := q6
        obtain ⟨ws, h1, rr⟩ := S6.hold.lstAt e
        exact ⟨ws, h1, by rw [rr.1]; exact l, G6, _, (((g2.trans g3).trans g4).trans g5).trans g6, S6.hold.cellSet e (show CellR K G6 (.lst (ws ++ [v6])) (.lst (acc ++ [d])) from rr.append (Reps.one r6)), q6⟩
      | false => exact ⟨G5, μ5, ((g2.trans g3).trans g4).trans g5, S5.hold, q5⟩
    have q5 := hk v (L2.wipe σ vs) H2 _ q4
    rw [wipe_wipe] at q5
    exact q5
  · have e : n = xs.length := by omega
    subst e
    rw [List.drop_length] at q3
    exact .inl ⟨(hgo _ H' G' μ' g2 S2 kp).2 (Nat.le_refl _), endL_go q3.2 ⟨S2, S1.env.mono g2⟩ (hd.mono (g1.trans g2))⟩
theorem de_lcK (k : Bool) {elt tg iter : Expr} {ifs : List Expr} {scope : Scope} {own : List (Str × Nat)} {pos : Pos} {wi : TI} {I : TDIK} {g : TG} {U : TDG} {tt : TT} {tt' : Fam TT} {Tt : TDT} {te : TE} {te' : Fam TE} {Te : TDE} (hc : X.calm = true) (hN : X.N.Nodup) (hi : DIK X B tg iter wi I) (ok : BlkOk X.N X.env.scope scope own)
    (hg : ∀ (s : Shared) (H : Hp) (C : Addr) (cl : List (Str × Addr)) (fp : List Addr), DG (X.blk s H scope (compEnvC scope cl C X.env) fp) B tg g U) (hk : KeepG g (own.map (·.2))) (ht : ∀ (s : Shared) (H : Hp) (C : Addr) (cl : List (Str × Addr)) (fp : List Addr), DTs (X.blk s H scope (compEnvC scope cl C X.env) fp) B ifs (tt' s H C cl fp) Tt)
    (he : ∀ (s : Shared) (H : Hp) (C : Addr) (cl : List (Str × Addr)) (fp : List Addr), DE (X.blk s H scope (compEnvC scope cl C X.env) fp) B elt (te' s H C cl fp) Te)
    (et : tt' = fun _ _ _ _ _ => tt := by (first | rfl | (simp only [Cx.blk]; rfl))) (ee : te' = fun _ _ _ _ _ => te := by (first | rfl | (simp only [Cx.blk]; rfl))) (hs : ∀ x, foldedSetIterable iter X.env x = pure x := by intro _; rfl) :
    DE X B (.ListComp elt [⟨tg, iter, ifs, 0⟩] scope pos) (tLc wi g tt te (own.map (·.2))) (dLcK k I U Tt Te (own.map (·.2))) := by
  subst et; subst ee
  exact ⟨pe_lc hc hN hi.pi ok (fun s H C cl fp => (hg s H C cl fp).pg) (fun s H C cl fp => (ht s H C cl fp).pts) (fun s H C cl fp => (he s H C cl fp).pe) hs, ref_lcK hi.ref (hg X.s_0 X.H_0 0 [] []).ref hk (ht X.s_0 X.H_0 0 [] []).ref (he X.s_0 X.H_0 0 [] []).ref⟩
/-! ### methods more -/
def mPopAt : RMD := fun x ds μ Q => match x, ds with
  | .ptr a, [.int i] => cS (μ a) fun xs => (0 ≤ i ∧ i < xs.length ∧ i < 2 ^ 63) ∧ oS xs[i.toNat]? fun d => Q d (mup μ a (.lst (xs.eraseIdx i.toNat)))
  | _, _ => False
@[simp ↓] theorem mPopAt_p {a : Addr} {i : Int} {μ : Mu} {Q : QD} : mPopAt (.ptr a) [.int i] μ Q = (cS (μ a) fun xs => (0 ≤ i ∧ i < xs.length ∧ i < 2 ^ 63) ∧ oS xs[i.toNat]? fun d => Q d (mup μ a (.lst (xs.eraseIdx i.toNat)))) := id rfl
theorem dm_popAt : MtR X "list.pop" rPopAt ∧ RefM X.K B "list" mPopAt rPopAt := by
  refine ⟨mt_popAt, ?_⟩
  intro ρ μ σ H G x dx vs ds Q Qn S r1 r2 h hd
  unfold mPopAt at h
  split at h
  · next a i =>
    cases r1
    obtain ⟨v, rfl, rv⟩ := reps1 r2
    cases rv
    rw [cS_eq] at h
    obtain ⟨xs, e, ⟨h0, h1, h2⟩, h⟩ := h
    rw [oS_eq] at h
    obtain ⟨d, ed, q⟩ := h
    obtain ⟨ws, hw, rr⟩ := S.hold.lstAt e
    obtain ⟨u, eu, ru⟩ := rr.get ed
    refine ⟨a, ws, i, i.toNat, u, rfl, rfl, hw, by omega, h2, ?_, eu, ?_⟩
    · unfold seqIndex?
      have l := rr.1
      simp only
      split <;> (try omega)
      all_goals first
        | rfl
        | (split <;> first | rfl | omega)
        | simp_all
        | omega
    · exact hd.now (S.cellSet e (show CellR X.K G (.lst (ws.eraseIdx i.toNat)) (.lst (xs.eraseIdx i.toNat)) from rr.eraseIdx _)) ru q
  · exact h.elim
/-- the place of a text among texts -/
def ixS (s : Str) (ss : List Str) : Option Nat := ss.findIdx? (fun t => decide (t = s))
def mIndex : RMD := fun x ds μ Q => match ds with
  | [.str s] => lS (vw μ x) fun xs => oS (strsOf xs) fun ss => oS (ixS s ss) fun j => Q (.int (j : Nat)) μ
  | _ => False
@[simp ↓] theorem mIndex_p {x : D} {s : Str} {μ : Mu} {Q : QD} : mIndex x [.str s] μ Q = (lS (vw μ x) fun xs => oS (strsOf xs) fun ss => oS (ixS s ss) fun j => Q (.int (j : Nat)) μ) := id rfl
theorem ixS_get {s : Str} {ss : List Str} {j : Nat} (h : ixS s ss = some j) : ss[j]? = some s ∧ ∀ m, m < j → ss[m]? ≠ some s := by
  unfold ixS at h
  rw [List.findIdx?_eq_some_iff_getElem] at h
  obtain ⟨hj, e, ne⟩ := h
  refine ⟨by rw [List.getElem?_eq_getElem hj]; exact congrArg some (of_decide_eq_true e), fun m hm q => ?_⟩
  have := ne m hm
  rw [List.getElem?_eq_getElem (by omega)] at q
  cases q
  simp at this
theorem dm_index : MtR X "list.index" (rIndex X.K) ∧ RefM X.K B "list" mIndex (rIndex X.K) := by
  refine ⟨mt_index, ?_⟩
  intro ρ μ σ H G x dx vs ds Q Qn S r1 r2 h hd
  unfold mIndex at h
  split at h
  · next s =>
    obtain ⟨v, rfl, rv⟩ := reps1 r2
    cases rv
    rw [lS_eq] at h
    obtain ⟨xs, e, h⟩ := h
    rw [oS_eq] at h
    obtain ⟨ss, es, h⟩ := h
    rw [oS_eq] at h
    obtain ⟨j, ej, q⟩ := h
    obtain ⟨a, ws, rfl, h1, rr⟩ := S.hold.lst r1 e
    have e2 := strsOf_eq es
    subst e2
    have e3 := rr.strs
    subst e3
    obtain ⟨g1, g2⟩ := ixS_get ej
    refine ⟨a, ss.map .str, .str s, j, .str s, rfl, rfl, SqL.of h1, rfl, flat_strs ss, by rw [List.getElem?_map, g1]; rfl, ?_, fun m z' hm hz => ?_, hd.now S (.int _) q⟩
    · show (s == s) = true
      simp
    · rw [List.getElem?_map] at hz
      cases q2 : ss[m]? with
      | none => rw [q2] at hz; cases hz
      | some t =>
        rw [q2] at hz
        cases hz
        show (t == s) = false
        have : t ≠ s := fun e => g2 m hm (by rw [q2, e])
        simpa using this
  · exact h.elim
def mUpper : RMD := fun x ds μ Q => match x, ds with
  | .str s, [] => s.length ≤ 5592405 ∧ Q (.str (Txt.upper s)) μ
  | _, _ => False
@[simp ↓] theorem mUpper_p {s : Str} {μ : Mu} {Q : QD} : mUpper (.str s) [] μ Q = (s.length ≤ 5592405 ∧ Q (.str (Txt.upper s)) μ) := id rfl
theorem dm_upper : MtR X "str.upper" (fun x xs H Q => ∃ a, x = .str a ∧ xs = [] ∧ a.length ≤ 5592405 ∧ Q (.str (Txt.upper a)) H) ∧ RefM X.K B "str" mUpper (fun x xs H Q => ∃ a, x = .str a ∧ xs = [] ∧ a.length ≤ 5592405 ∧ Q (.str (Txt.upper a)) H) := by
  refine ⟨mt_upper, ?_⟩
  intro ρ μ σ H G x dx vs ds Q Qn S r1 r2 h hd
  unfold mUpper at h
  split at h
  · next s =>
    cases r1
    exact ⟨s, rfl, r2.nil_inv, h.1, hd.now S (.str _) h.2⟩
  · exact h.elim
end
end DL

/-! DLW: list(o) and len(o) by a field; rows that are lists or tuples; sets of texts as dicts. -/
namespace DL
open PySem PySem.Spec PyProof.Rows L2
/-- list(o) goes over the list that is the field f -/
def ListOf (P : Program) (w : World) (K : PySem.W.Frag) (mg : Str → Option Value) (base : Heap) (k : Nat) (C : Addr) (f : Str) : Prop :=
  ∃ gl gi, OpAt K C "__len__" gl ∧ OpAt K C "__iter__" gi ∧ FnR P w K mg base CX0 k gl (spLenF K C f) ∧ FnR P w K mg base CX0 k gi (spIterF K C f)
def sp_lenF (C : Addr) (f : Str) : DSp := fun ds μ Q _ => ∃ d fs v xs, ds = [d] ∧ vw μ d = .obj C fs ∧ fget fs f = some v ∧ vw μ v = .lst xs ∧ Q (.int xs.length) μ
theorem lenF_sp {P : Program} {w : World} {K : PySem.W.Frag} {mg : Str → Option Value} {base : Heap} {k : Nat} {C g : Addr} {f : Str} {fd : FuncData} {ps : List Str} (F : FnOk P w K mg base CX0 k g fd ps (spLenF K C f)) : FnOk P w K mg base CX0 k g fd ps (toSp K (sp_lenF C f)) :=
  F.imp fun vs H Q E ⟨G, ds, μ, QQ, EE, hh, r, ⟨d, fs, v, xs, e1, e2, e3, e4, q⟩, hq, _⟩ => by
    subst e1
    obtain ⟨u, rfl, ru⟩ := reps1 r
    obtain ⟨a, dx, ws, rfl, h1, rr⟩ := hh.obj ru e2
    obtain ⟨y, ly, ry⟩ := (rr.fget f).1 v e3
    obtain ⟨b, us, rfl, h2, r2⟩ := hh.lst ry e4
    exact ⟨a, dx, ws, b, us, rfl, h1, ly, SqL.of h2, by rw [r2.1]; exact hq _ μ _ H G (Gle.refl G) hh (.int _) q⟩
theorem pi_or {X : Cx} {tg e : Expr} {i j : TI} (h1 : PI X tg e i) (h2 : PI X tg e j) : PI X tg e (fun σ H R => i σ H R ∨ j σ H R) := ⟨fun pins s σ H R I q => q.elim (h1.run pins s σ H R I) (h2.run pins s σ H R I)⟩
/-- a name that holds a list or a tuple, frozen -/
def iSeqV (i : Nat) : TDI := fun ρ μ Q => match ρ[i]? with | some (some d) => seqS d fun xs => Q xs μ | _ => False
@[simp ↓] theorem iSeqV_p {i : Nat} {ρ} {μ} {Q : List D → Mu → Prop} : iSeqV i ρ μ Q = (match ρ[i]? with | some (some d) => seqS d fun xs => Q xs μ | _ => False) := id rfl
theorem di_seqV {X : Cx} {tg : Expr} (i : Nat) {x : Str} {pos : Pos} (hN : X.N[i]? = some x := by rfl) (hv : Vis X.env.scope x := by first | exact Or.inl rfl | exact Or.inr (Or.inl rfl) | exact Or.inr (Or.inr rfl)) (hd : (x == ("__debug__" : Str)) = false := by decide)
    (hcd : (x == ("__classdict__" : Str)) = false := by decide) : DI X B tg (.Name x pos) (fun σ H R => iList X.K (tVar i) σ H R ∨ iTup X.K (tVar i) σ H R) (iSeqV i) :=
  ⟨pi_or (di_list (B := B) (tg := tg) (dv (pos := pos) i hN hv hd hcd)).pi (di_tup (B := B) (tg := tg) (dv (pos := pos) i hN hv hd hcd)).pi, fun ρ μ σ H G Q R S q hR => by
    unfold iSeqV at q
    split at q
    · next d e =>
      cases d with
      | lst xs => exact .inl ((di_list (B := B) (tg := tg) (dv (pos := pos) i hN hv hd hcd)).ref ρ μ σ H G Q R S (by unfold iLst dVar; rw [e]; exact q) hR)
      | tup xs => exact .inr ((di_tup (B := B) (tg := tg) (dv (pos := pos) i hN hv hd hcd)).ref ρ μ σ H G Q R S (by unfold iTupD dVar; rw [e]; exact q) hR)
      | _ => exact False.elim q
    · exact q.elim⟩
/-! defs of classes by name: with a star parameter, class methods, properties -/
structure MethV (K : PySem.W.Frag) (C : Addr) (m q : Str) (st : Stmt) (f : Addr) (fd : FuncData) : Prop where
  F : Fun K m q st f fd
  M : Meth K C m f
structure ClsAt (K : PySem.W.Frag) (C : Addr) (m q : Str) (st : Stmt) (ps : List Str) (f : Addr) (fd : FuncData) : Prop where
  F : Fun K m q st f fd
  M : CMeth K C m f
  b : Binds K fd ps []
structure PropAt (K : PySem.W.Frag) (C : Addr) (m q : Str) (st : Stmt) (ps : List Str) (f : Addr) (fd : FuncData) : Prop where
  F : Fun K m q st f fd
  M : ∃ r, PropOf K C m r f
  b : Binds K fd ps []
section
variable {P : Program} {w : World} {K : PySem.W.Frag} {mg : Str → Option Value} {base : Heap} {k : Nat} {C : Addr} {m q : Str} {st : Stmt} {ps : List Str} {f : Addr} {fd : FuncData} {S : DSp}
theorem ClsAt.called (D : ClsAt K C m q st ps f fd) (F : FnOk P w K mg base CX0 k f fd ps (toSp K S)) : CalledC P w K mg base k C m ps S := ⟨f, fd, D.M, D.b, F⟩
theorem PropAt.called (D : PropAt K C m q st ps f fd) (F : FnOk P w K mg base CX0 k f fd ps (toSp K S)) : Got P w K mg base k C m ps S := let ⟨r, h⟩ := D.M; ⟨r, f, fd, h, D.b, F⟩
theorem MethAt.op (D : MethAt K C m q st ps f fd) : OpAt K C m f := ⟨D.M.at_, D.M.fn⟩
theorem all7 {p : String → Prop} (h1 : p "NoneType") (h2 : p "bool") (h3 : p "int") (h4 : p "str") (h5 : p "list") (h6 : p "tuple") (h7 : p "dict") : ∀ T ∈ tyNames, p T := by
  intro T h
  simp only [tyNames, List.mem_cons, List.not_mem_nil, or_false] at h
  rcases h with rfl | rfl | rfl | rfl | rfl | rfl | rfl <;> assumption
end
/-- a tuple of texts of the written part -/
theorem rep_tupK {K : PySem.W.Frag} {t : Addr} {dd : Option Addr} {its : List Value} {n : Nat} {sl : Array (Option Value)} {ss : List Str} (l : K.lookup t = some ⟨.type "tuple", dd, .seq its.toArray n, sl⟩) (r : Vals (ss.map V.str) its) (hz : its.length ≤ 1000 := by decide) : ∀ G, Rep K G (.ref t) (.tup (ss.map .str)) :=
  fun G => .tup (vs := ss.map V.str) (.inr ⟨_, its.toArray, n, l, rfl, rfl, by rw [List.size_toArray]; exact sz_le (by omega), by simpa using r⟩) (by simp) fun i v d a b => (Reps.ofStrs ss).2 i v d a b
/-! sets of texts -/
def sSet (ks : List Str) : List (Key × D) := ks.map fun s => (.inr s, .bl true)
def addS (ks : List Str) (s : Str) : List Str := if s ∈ ks then ks else ks ++ [s]
theorem mem_addS {ks : List Str} {s t : Str} : t ∈ addS ks s ↔ t ∈ ks ∨ t = s := by
  unfold addS
  split
  · next h => constructor
              · exact .inl
              · rintro (h1 | rfl)
                · exact h1
                · exact h
  · simp
theorem addS_len {ks : List Str} {s : Str} : (addS ks s).length ≤ ks.length + 1 := by unfold addS; split <;> simp
theorem valD_sSet {ks : List Str} {s : Str} : (valD (sSet ks) (.inr s)).isSome = decide (s ∈ ks) := by
  unfold valD sSet
  rw [Option.isSome_map]
  induction ks with
  | nil => rfl
  | cons k r ih =>
    rw [List.map_cons, List.find?_cons]
    by_cases h : k = s
    · subst h; simp
    · have e : decide ((Sum.inr k : Key) = .inr s) = false := by simpa using h
      simp only [e]
      rw [ih]
      simp [Ne.symm h]
theorem put_sSet {ks : List Str} {s : Str} : putD (sSet ks) (.inr s) (.bl true) = sSet (addS ks s) := by
  unfold putD addS
  have e : ((sSet ks).any fun kv => decide (kv.1 = (Sum.inr s : Key))) = decide (s ∈ ks) := by
    unfold sSet
    rw [List.any_map]
    induction ks with
    | nil => rfl
    | cons k r ih => simp [Function.comp_def, eq_comm] at ih ⊢; rw [ih]
  rw [e]
  by_cases h : s ∈ ks
  · rw [if_pos (by simpa using h), if_pos h]
    unfold sSet
    rw [List.map_map]
    apply List.map_congr_left
    intro k _
    simp only [Function.comp]
    split
    · next h2 => cases h2; rfl
    · rfl
  · rw [if_neg (by simpa using h), if_neg h]
    unfold sSet
    rw [List.map_append]; rfl
theorem sSet_len {ks : List Str} : (sSet ks).length = ks.length := by simp [sSet]
/-- the keys that a row leaves -/
def keysS (ls : List Str) : List Str := ls.foldl addS []
theorem mem_foldS : ∀ {ls ks : List Str} {t : Str}, t ∈ ls.foldl addS ks ↔ t ∈ ks ∨ t ∈ ls
  | [], ks, t => by simp
  | s :: r, ks, t => by
    rw [List.foldl_cons, mem_foldS, mem_addS]
    simp [or_assoc]
@[simp] theorem mem_keysS {ls : List Str} {t : Str} : t ∈ keysS ls ↔ t ∈ ls := by unfold keysS; rw [mem_foldS]; simp
theorem foldS_len : ∀ {ls ks : List Str}, (ls.foldl addS ks).length ≤ ks.length + ls.length
  | [], ks => by simp
  | s :: r, ks => by
    rw [List.foldl_cons]
    have h1 := foldS_len (ls := r) (ks := addS ks s)
    have h2 := addS_len (ks := ks) (s := s)
    simp only [List.length_cons]
    omega
theorem keysS_len {ls : List Str} : (keysS ls).length ≤ ls.length := by have := foldS_len (ls := ls) (ks := []); simpa [keysS] using this
theorem foldS_nodup : ∀ {ls ks : List Str}, (ks ++ ls).Nodup → ls.foldl addS ks = ks ++ ls
  | [], ks, _ => by simp
  | s :: r, ks, h => by
    rw [List.foldl_cons]
    have hs : s ∉ ks := fun hm => by
      rw [List.nodup_append] at h
      exact h.2.2 s hm s (by simp) rfl
    have e : addS ks s = ks ++ [s] := by unfold addS; rw [if_neg hs]
    rw [e, foldS_nodup (by simpa using h)]
    simp
theorem keysS_nodup {ls : List Str} (h : ls.Nodup) : keysS ls = ls := by unfold keysS; rw [foldS_nodup (by simpa using h)]; rfl
theorem unkey_sSet {ks : List Str} : (sSet ks).map (fun kv => unkey kv.1) = ks.map .str := by unfold sSet; rw [List.map_map]; rfl
end DL

/-! DLX: comprehensions whose turns leave the store alone. -/
namespace DL
open PySem PySem.Spec PyProof.Rows L2
theorem comp_fm {g : TDG} {tt : TDT} {te : TDE} {p : Addr} {ρ0 : DR} {Q : Mu → Prop} (f : D → Option D) {μ : Mu} : ∀ {xs acc : List D}, (hl : acc.length + xs.length ≤ 16000000) →
    (hc : ∀ x ∈ xs, ∀ (acc : List D) (N : Mu → Prop), acc.length ≤ 16000000 → (match f x with | some d => N (mup μ p (.lst (acc ++ [d]))) | none => N (mup μ p (.lst acc))) →
      g x ρ0 (mup μ p (.lst acc)) fun ρ2 μ2 => tt ρ2 μ2 fun b μ3 => if b = true then te ρ2 μ3 fun d μ4 => ∃ acc, μ4 p = some (.lst acc) ∧ acc.length < sizeLine ∧ N (mup μ4 p (.lst (acc ++ [d]))) else N μ3) →
    Q (mup μ p (.lst (acc ++ xs.filterMap f))) → compL g tt te p ρ0 Q xs (mup μ p (.lst acc))
  | [], acc, _, _, q => by simpa using q
  | x :: r, acc, hl, hc, q => by
    simp only [List.length_cons] at hl
    rw [compL_cons]
    refine hc x (by simp) acc _ (by omega) ?_
    cases e : f x with
    | some d =>
      rw [List.filterMap_cons_some e] at q
      exact comp_fm f (by simp; omega) (fun y hy => hc y (List.mem_cons_of_mem _ hy)) (by simpa using q)
    | none =>
      rw [List.filterMap_cons_none e] at q
      exact comp_fm f (by omega) (fun y hy => hc y (List.mem_cons_of_mem _ hy)) q
/-- over a dict's keys -/
theorem compK_fm {g : TDG} {tt : TDT} {te : TDE} {p : Addr} {ρ0 : DR} {Kp Q : Mu → Prop} (f : D → Option D) {μ : Mu} (hk : ∀ acc, Kp (mup μ p (.lst acc))) : ∀ {xs acc : List D}, (hl : acc.length + xs.length ≤ 16000000) →
    (hc : ∀ x ∈ xs, ∀ (acc : List D) (N : Mu → Prop), acc.length ≤ 16000000 → (match f x with | some d => N (mup μ p (.lst (acc ++ [d]))) | none => N (mup μ p (.lst acc))) →
      g x ρ0 (mup μ p (.lst acc)) fun ρ2 μ2 => tt ρ2 μ2 fun b μ3 => if b = true then te ρ2 μ3 fun d μ4 => ∃ acc, μ4 p = some (.lst acc) ∧ acc.length < sizeLine ∧ N (mup μ4 p (.lst (acc ++ [d]))) else N μ3) →
    Q (mup μ p (.lst (acc ++ xs.filterMap f))) → compLK g tt te p ρ0 Kp Q xs (mup μ p (.lst acc))
  | [], acc, _, _, q => ⟨hk _, by simpa using q⟩
  | x :: r, acc, hl, hc, q => by
    simp only [List.length_cons] at hl
    refine ⟨hk _, hc x (by simp) acc _ (by omega) ?_⟩
    cases e : f x with
    | some d =>
      rw [List.filterMap_cons_some e] at q
      exact compK_fm f hk (by simp; omega) (fun y hy => hc y (List.mem_cons_of_mem _ hy)) (by simpa using q)
    | none =>
      rw [List.filterMap_cons_none e] at q
      exact compK_fm f hk (by omega) (fun y hy => hc y (List.mem_cons_of_mem _ hy)) q
theorem filterMap_str (ls : List Str) (q : Str → Bool) : (ls.map D.str).filterMap (fun d => match d with | .str s => if q s = true then some (.str s) else none | _ => none) = (ls.filter q).map D.str := by
  induction ls with
  | nil => rfl
  | cons s r ih =>
    rw [List.map_cons]
    by_cases h : q s = true
    · rw [List.filterMap_cons_some (b := .str s) (by simp [h]), List.filter_cons_of_pos h, List.map_cons, ih]
    · rw [List.filterMap_cons_none (by simp [h]), List.filter_cons_of_neg h, ih]
/-- texts that pass a test -/
def fmS (q : Str → Bool) : D → Option D := fun d => match d with | .str s => if q s = true then some (.str s) else none | _ => none
theorem comp_strs {g : TDG} {tt : TDT} {te : TDE} {p : Addr} {ρ0 : DR} {Q : Mu → Prop} (q : Str → Bool) {μ : Mu} {ls : List Str} (hl : ls.length ≤ 1000000)
    (hc : ∀ s ∈ ls, ∀ (acc : List D) (N : Mu → Prop), acc.length ≤ 16000000 → (if q s = true then N (mup μ p (.lst (acc ++ [.str s]))) else N (mup μ p (.lst acc))) →
      g (.str s) ρ0 (mup μ p (.lst acc)) fun ρ2 μ2 => tt ρ2 μ2 fun b μ3 => if b = true then te ρ2 μ3 fun d μ4 => ∃ acc, μ4 p = some (.lst acc) ∧ acc.length < sizeLine ∧ N (mup μ4 p (.lst (acc ++ [d]))) else N μ3)
    (h : Q (mup μ p (.lst ((ls.filter q).map .str)))) : compL g tt te p ρ0 Q (ls.map .str) (mup μ p (.lst [])) := by
  refine comp_fm (fmS q) (by simp; omega) (fun x hx acc N ha hN => ?_) ?_
  · obtain ⟨s, hs, rfl⟩ := List.mem_map.mp hx
    refine hc s hs acc N ha ?_
    unfold fmS at hN
    simp only at hN
    split
    · next e => rw [if_pos e] at hN; exact hN
    · next e => rw [if_neg e] at hN; exact hN
  · show Q (mup μ p (.lst ([] ++ (ls.map D.str).filterMap (fmS q))))
    unfold fmS
    rw [filterMap_str]; simpa using h
theorem compK_strs {g : TDG} {tt : TDT} {te : TDE} {p : Addr} {ρ0 : DR} {Kp Q : Mu → Prop} (q : Str → Bool) {μ : Mu} {ls : List Str} (hk : ∀ acc, Kp (mup μ p (.lst acc))) (hl : ls.length ≤ 1000000)
    (hc : ∀ s ∈ ls, ∀ (acc : List D) (N : Mu → Prop), acc.length ≤ 16000000 → (if q s = true then N (mup μ p (.lst (acc ++ [.str s]))) else N (mup μ p (.lst acc))) →
      g (.str s) ρ0 (mup μ p (.lst acc)) fun ρ2 μ2 => tt ρ2 μ2 fun b μ3 => if b = true then te ρ2 μ3 fun d μ4 => ∃ acc, μ4 p = some (.lst acc) ∧ acc.length < sizeLine ∧ N (mup μ4 p (.lst (acc ++ [d]))) else N μ3)
    (h : Q (mup μ p (.lst ((ls.filter q).map .str)))) : compLK g tt te p ρ0 Kp Q (ls.map .str) (mup μ p (.lst [])) := by
  refine compK_fm (fmS q) hk (by simp; omega) (fun x hx acc N ha hN => ?_) ?_
  · obtain ⟨s, hs, rfl⟩ := List.mem_map.mp hx
    refine hc s hs acc N ha ?_
    unfold fmS at hN
    simp only at hN
    split
    · next e => rw [if_pos e] at hN; exact hN
    · next e => rw [if_neg e] at hN; exact hN
  · show Q (mup μ p (.lst ([] ++ (ls.map D.str).filterMap (fmS q))))
    unfold fmS
    rw [filterMap_str]; simpa using h
/-- a dict of texts, each of them True -/
theorem dc_strs {g : TDG} {tt : TDT} {tk tv : TDE} {p : Addr} {ρ0 : DR} {Q : Mu → Prop} {μ : Mu} : ∀ {ls ks : List Str}, (hl : ks.length + ls.length ≤ 1000000) →
    (hc : ∀ s ∈ ls, ∀ (ks : List Str) (N : Mu → Prop), ks.length ≤ 1000000 → N (mup μ p (.dic (sSet (addS ks s)))) →
      g (.str s) ρ0 (mup μ p (.dic (sSet ks))) fun ρ2 μ2 => tt ρ2 μ2 fun b μ3 => if b = true then tk ρ2 μ3 fun y μ4 => tv ρ2 μ4 fun z μ5 => ∃ kvs k, keyD y = some k ∧ μ5 p = some (.dic kvs) ∧ kvs.length < sizeLine ∧ N (mup μ5 p (.dic (putD kvs k z))) else N μ3) →
    Q (mup μ p (.dic (sSet (ls.foldl addS ks)))) → dcL g tt tk tv p ρ0 Q (ls.map .str) (mup μ p (.dic (sSet ks)))
  | [], ks, _, _, q => q
  | s :: r, ks, hl, hc, q => by
    simp only [List.length_cons] at hl
    show g (.str s) ρ0 (mup μ p (.dic (sSet ks))) _
    refine hc s (by simp) ks _ (by omega) ?_
    have := addS_len (ks := ks) (s := s)
    exact dc_strs (by omega) (fun y hy => hc y (List.mem_cons_of_mem _ hy)) q
/-- what a turn of such a dict asks, answered -/
theorem dc_put {μ : Mu} {p : Addr} {ks : List Str} {s : Str} {N : Mu → Prop} (hl : ks.length ≤ 1000000) (h : N (mup μ p (.dic (sSet (addS ks s))))) :
    ∃ kvs k, keyD (.str s) = some k ∧ (mup μ p (.dic (sSet ks))) p = some (.dic kvs) ∧ kvs.length < sizeLine ∧ N (mup (mup μ p (.dic (sSet ks))) p (.dic (putD kvs k (.bl true)))) :=
  ⟨sSet ks, .inr s, rfl, mup_same, sz_lt (by rw [sSet_len]; omega), by rw [mup_mup, put_sSet]; exact h⟩
/-- three rows -/
theorem cmp_app {g : TDG} {tt : TDT} {c : DCB} {ρ0 : DR} {N : Mu → Prop} {p : Addr} {μ : Mu} (f : D → List D) : ∀ {xs acc : List D},
    (hc : ∀ x ∈ xs, ∀ (acc : List D) (N1 : Mu → Prop), N1 (mup μ p (.lst (acc ++ f x))) → acc.length + (f x).length ≤ 16000000 → g x ρ0 (mup μ p (.lst acc)) fun ρ2 μ2 => tt ρ2 μ2 fun b μ3 => if b = true then c ρ2 μ3 N1 else N1 μ3) →
    (hl : acc.length + (xs.flatMap f).length ≤ 16000000) → N (mup μ p (.lst (acc ++ xs.flatMap f))) → cmpL g tt c ρ0 N xs (mup μ p (.lst acc))
  | [], acc, _, _, q => by simpa using q
  | x :: r, acc, hc, hl, q => by
    rw [List.flatMap_cons, List.length_append] at hl
    rw [cmpL_c]
    refine hc x (by simp) acc _ ?_ (by omega)
    refine cmp_app f (fun y hy => hc y (List.mem_cons_of_mem _ hy)) (by rw [List.length_append]; omega) ?_
    rw [List.flatMap_cons, ← List.append_assoc] at q
    exact q
end DL

/-! DLY: a, b, .. = a list. -/
namespace DL
open PySem PySem.Spec PyProof.Rows L2
section
variable {X : Cx} {B : Gh} {pos : Pos}
def dgLst (n : Nat) (U : TDGs) : TDG := fun d ρ μ Q => ∃ xs, vw μ d = .lst xs ∧ xs.length = n ∧ U xs ρ μ Q
theorem dg_lst {es : List Expr} {k : Nat} {t : TGs} {U : TDGs} {n : Nat} (hc : X.calm = true) (h : DGs X B es t U) (hn : (assignEach es X.env).length = n := by rfl) (hst : (assignEach es X.env).findIdx? (·.1) = none := by rfl) : DG X B (.Tuple es k pos) (gLst X.K n t) (dgLst n U) :=
  ⟨pg_lst hc h.pgs hn hst, fun d v ρ μ σ H G Q Qn S r ⟨xs, e, l, q⟩ hd => by
    obtain ⟨a, vs, rfl, h1, rr⟩ := S.hold.lst r e
    exact ⟨a, vs, rfl, SqL.of h1, by rw [rr.1]; exact l, h.ref xs vs ρ μ σ H G Q Qn S rr q hd⟩⟩
@[simp ↓] theorem dgLst_p {n : Nat} {U : TDGs} {d} {ρ} {μ} {Q} : dgLst n U d ρ μ Q = (lS (vw μ d) fun xs => xs.length = n ∧ U xs ρ μ Q) := by
  simp only [lS_eq]; rfl
end
end DL

/-! DLZ: a row of bools made; picks by place. -/
namespace DL
open PySem PySem.Spec PyProof.Rows L2
theorem comp_bools {g : TDG} {te : TDE} {p : Addr} {ρ0 : DR} {Q : Mu → Prop} {μ : Mu} : ∀ {xs : List D} {b0 : List Bool}, (hl : b0.length + xs.length ≤ 16000000) →
    (hc : ∀ x ∈ xs, ∀ (acc : List D) (N : Mu → Prop), acc.length ≤ 16000000 → (∀ b : Bool, N (mup μ p (.lst (acc ++ [.bl b])))) →
      g x ρ0 (mup μ p (.lst acc)) fun ρ2 μ2 => te ρ2 μ2 fun d μ4 => ∃ acc, μ4 p = some (.lst acc) ∧ acc.length < sizeLine ∧ N (mup μ4 p (.lst (acc ++ [d])))) →
    (∀ bs : List Bool, bs.length = b0.length + xs.length → Q (mup μ p (.lst (bs.map .bl)))) → compL g dYes te p ρ0 Q xs (mup μ p (.lst (b0.map .bl)))
  | [], b0, _, _, q => q b0 (by simp)
  | x :: r, b0, hl, hc, q => by
    simp only [List.length_cons] at hl
    rw [compL_cons]
    simp only [dYes_p, if_true]
    refine hc x (by simp) _ _ (by simp; omega) fun b => ?_
    have := comp_bools (xs := r) (b0 := b0 ++ [b]) (Q := Q) (by simp; omega) (fun y hy => hc y (List.mem_cons_of_mem _ hy)) (fun bs h => q bs (by simp at h ⊢; omega))
    simpa using this
theorem Sub.none {μ μ' : Mu} {p : Addr} (h : Sub μ μ') (n : μ' p = Option.none) : μ p = Option.none := by
  cases e : μ p with
  | none => rfl
  | some c => rw [h p c e] at n; cases n
/-- a loop that keeps a fact -/
theorem loop_any {g : TDG} {T : TDS} {E : DEnds} (I : DR → Mu → Prop) {xs : List D} {ρ : DR} {μ : Mu} (h : I ρ μ) (hn : ∀ ρ μ, I ρ μ → E.nx ρ μ)
    (hc : ∀ x ∈ xs, ∀ ρ μ (N : DR → Mu → Prop), I ρ μ → (∀ ρ' μ', I ρ' μ' → N ρ' μ') → g x ρ μ fun ρ2 μ2 => T (lpE E N) ρ2 μ2) : loopL g T E xs ρ μ := by
  induction xs generalizing ρ μ with
  | nil => exact hn ρ μ h
  | cons x r ih => exact hc x (by simp) ρ μ _ h fun ρ' μ' h' => ih h' fun y hy => hc y (List.mem_cons_of_mem _ hy)
theorem fm_congr {α β : Type} {f g : α → Option β} : ∀ {l : List α}, (∀ x ∈ l, f x = g x) → l.filterMap f = l.filterMap g
  | [], _ => rfl
  | x :: r, h => by
    rw [List.filterMap_cons, List.filterMap_cons, h x (by simp), fm_congr fun y hy => h y (List.mem_cons_of_mem _ hy)]
theorem range_pick {α : Type} {f : Nat → Bool} : ∀ {l : List α} {o : Nat}, ((List.range' o l.length).filterMap fun k => if f k = true then l[k - o]? else none).Sublist l
  | [], o => by simp
  | x :: r, o => by
    rw [List.length_cons, List.range'_succ]
    have ih := range_pick (f := f) (l := r) (o := o + 1)
    have e : ((List.range' (o + 1) r.length).filterMap fun k => if f k = true then (x :: r)[k - o]? else none) = ((List.range' (o + 1) r.length).filterMap fun k => if f k = true then r[k - (o + 1)]? else none) := by
      refine fm_congr fun k hk => ?_
      have := (List.mem_range'_1.mp hk).1
      rw [show k - o = (k - (o + 1)) + 1 by omega, List.getElem?_cons_succ]
    by_cases h : f o = true
    · rw [List.filterMap_cons_some (b := x) (by simp [h]), e]
      exact ih.cons₂ x
    · rw [List.filterMap_cons_none (by simp [h]), e]
      exact ih.cons x
theorem rng_pick {l : List Str} {b : Nat → Bool} {F : D → Option D} (hF : ∀ k, k < l.length → F (.int (k : Int)) = if b k = true then (l[k]?).map .str else none) : ∃ s : List Str, s.Sublist l ∧ (rngD 0 (l.length : Int)).filterMap F = s.map .str := by
  refine ⟨_, range_pick (f := b) (l := l) (o := 0), ?_⟩
  unfold rngD
  rw [List.filterMap_map, show ((l.length : Int) - 0).toNat = l.length by omega, List.range_eq_range', List.map_filterMap]
  refine fm_congr fun k hk => ?_
  have := (List.mem_range'_1.mp hk).2
  show F (.int (0 + (k : Int))) = _
  rw [Int.zero_add, hF k (by omega)]
  split <;> simp
theorem sub_filter {α : Type} [DecidableEq α] {l s : List α} (h : s.Sublist l) (nd : l.Nodup) : l.filter (fun x => decide (x ∈ s)) = s := by
  induction h with
  | slnil => rfl
  | @cons s l x hs ih =>
    rw [List.nodup_cons] at nd
    rw [List.filter_cons_of_neg (by simpa using fun h => nd.1 (hs.subset h))]
    exact ih nd.2
  | @cons_cons s l x hs ih =>
    rw [List.nodup_cons] at nd
    rw [List.filter_cons_of_pos (by simp)]
    congr 1
    rw [← ih nd.2]
    apply List.filter_congr
    intro y hy
    rw [ih nd.2]
    have : y ≠ x := fun e => nd.1 (e ▸ hy)
    simp [this]
end DL
/-! ### name = {..} on one line -/
namespace L2
open PySem PySem.Spec PyProof.Rows
section
variable {X : Cx}
theorem ps_setDc {i : Nat} {y : Str} {py : Pos} {kx vx tg iter : Expr} {ifs : List Expr} {scope : Scope} {own : List (Str × Nat)} {pos spos : Pos} {wi : TI} {g : TG} {tt : TT} {tk tv : TE} (hc : X.calm = true) (hN : X.N.Nodup) (hy : X.N[i]? = some y) (hyl : X.env.scope.names.lookup y = some .local)
    (hsw : swapsWith (.DictComp kx vx [⟨tg, iter, ifs, 0⟩] scope pos) (some (.Name y py)) spos.line X.env = pure true) (hi : PI X tg iter wi) (ok : BlkOk X.N X.env.scope scope own)
    (hg : ∀ (s : Shared) (H : Hp) (C : Addr) (cl : List (Str × Addr)) (fp : List Addr), PG (X.blk s H scope (compEnvC scope cl C X.env) fp) tg g) (ht : ∀ (s : Shared) (H : Hp) (C : Addr) (cl : List (Str × Addr)) (fp : List Addr), PTs (X.blk s H scope (compEnvC scope cl C X.env) fp) ifs tt)
    (hk : ∀ (s : Shared) (H : Hp) (C : Addr) (cl : List (Str × Addr)) (fp : List Addr), PE (X.blk s H scope (compEnvC scope cl C X.env) fp) kx tk)
    (he : ∀ (s : Shared) (H : Hp) (C : Addr) (cl : List (Str × Addr)) (fp : List Addr), PE (X.blk s H scope (compEnvC scope cl C X.env) fp) vx tv) (hs : ∀ x, foldedSetIterable iter X.env x = pure x := by intro _; rfl) :
    PS X (.Assign [.Name y py] (.DictComp kx vx [⟨tg, iter, ifs, 0⟩] scope pos) spos) (tAsg (tDc wi g tt tk tv (own.map (·.2))) (gName i)) := by
  refine ⟨fun pins s σ H D I h => ?_⟩
  rw [exec_Assign_Name_used _ _ _ _ hsw]
  refine wpAny_bind (wpAny_standAt (wpAny_bind ?_))
  show wpAny _ X.A (do let _ ← comprehension (.DictComp kx vx [⟨tg, iter, ifs, 0⟩] scope pos) scope X.env (firstIterPos [⟨tg, iter, ifs, 0⟩] pos) newDict false (eval iter X.env) (some (assign (.Name y py) X.env))) _ _ s
  have h : tDc wi g tt tk tv (own.map (·.2)) σ H (fun x H1 => gName i x σ H1 D.nx) := h
  refine wpAny_bind (thn (dc_core (Qf := fun _ s' => SP X pins D .next s') hc hN I hi ok hg ht hk he hs h fun L C s' m H' I' q hn f => ?_) fun _ s' hq => wpAny_pure (wpAny_pure hq))
  show wpAny _ _ (assign (.Name y py) X.env (.ref L)) _ _ _
  refine wpAny_assign_Name (store_ok2 (v := V.ref L) I' hN hy (.inl hyl) rfl (fun s2 I2 ⟨a, sb, ha⟩ => ?_) (.inr hyl))
  obtain ⟨f0, f1, f2, f3, f4, f5⟩ := f
  have haC : C ≠ a := by
    rcases ha with z | z
    · rw [z]; exact f1
    · exact fun e => f4 y a z e.symm
  refine ⟨m, hn.sameBut sb haC, fun h3 sb3 => ?_⟩
  exact ⟨_, H', I2.turned (t' := s2.toks) (fun b o hb e => (sb3.2 b hb).trans e) f0 f1 f3 f4 f5, q⟩
theorem sw_trueD {kx vx : Expr} {gs : List Comprehension} {scope : Scope} {pos py : Pos} {y : Str} {l : Nat} {env : Env} (hk : env.scope.kind = .function) (hy : env.scope.names.lookup y = some .local) (hl : (py.line == pos.line) = true)
    (ha : (scope.names.any fun (n, k) => n == y && (k == .local || k == .cell)) = false) : swapsWith (.DictComp kx vx gs scope pos) (some (.Name y py)) l env = pure true := by
  have ky : env.kindOf y = some .local := hy
  have hb : env.blockKind = .function := by unfold Env.blockKind; rw [hk]; rfl
  unfold swapsWith
  simp only [hb, ky, ha, Expr.pos, hl]
  rfl
end
end L2
namespace DL
open PySem PySem.Spec PyProof.Rows L2
section
variable {X : Cx} {B : Gh} {pos : Pos}
theorem ds_setDcA (c : Bool) (i : Nat) {y : Str} {py : Pos} {kx vx tg iter : Expr} {ifs : List Expr} {scope : Scope} {own : List (Str × Nat)} {spos : Pos} {wi : TI} {I : TDI} {g : TG} {U : TDG} {tt : TT} {tt' : Fam TT} {Tt : TDT} {tk tv : TE} {tk' tv' : Fam TE} {Tk Tv : TDE} (hc : X.calm = true) (hN : X.N.Nodup) (hyi : X.N[i]? = some y) (hyl : X.env.scope.names.lookup y = some .local)
    (hsw : swapsWith (.DictComp kx vx [⟨tg, iter, ifs, 0⟩] scope pos) (some (.Name y py)) spos.line X.env = pure true) (hi : DI X B tg iter wi I) (ok : BlkOk X.N X.env.scope scope own)
    (hg : ∀ (s : Shared) (H : Hp) (C : Addr) (cl : List (Str × Addr)) (fp : List Addr), DG (X.blk s H scope (compEnvC scope cl C X.env) fp) B tg g U) (hk : KeepG g (own.map (·.2))) (ht : ∀ (s : Shared) (H : Hp) (C : Addr) (cl : List (Str × Addr)) (fp : List Addr), DTs (X.blk s H scope (compEnvC scope cl C X.env) fp) B ifs (tt' s H C cl fp) Tt)
    (hy : ∀ (s : Shared) (H : Hp) (C : Addr) (cl : List (Str × Addr)) (fp : List Addr), DE (X.blk s H scope (compEnvC scope cl C X.env) fp) B kx (tk' s H C cl fp) Tk)
    (hv : ∀ (s : Shared) (H : Hp) (C : Addr) (cl : List (Str × Addr)) (fp : List Addr), DE (X.blk s H scope (compEnvC scope cl C X.env) fp) B vx (tv' s H C cl fp) Tv)
    (e0 : tt' = fun _ _ _ _ _ => tt := by (first | rfl | (simp only [Cx.blk]; rfl))) (e1 : tk' = fun _ _ _ _ _ => tk := by (first | rfl | (simp only [Cx.blk]; rfl))) (e2 : tv' = fun _ _ _ _ _ => tv := by (first | rfl | (simp only [Cx.blk]; rfl))) (hs : ∀ x, foldedSetIterable iter X.env x = pure x := by intro _; rfl) :
    DS X B (.Assign [.Name y py] (.DictComp kx vx [⟨tg, iter, ifs, 0⟩] scope pos) spos) (tAsg (tDc wi g tt tk tv (own.map (·.2))) (gName i)) (dAsg (dDc c I U Tt Tk Tv (own.map (·.2))) (dgName i)) := by
  subst e0; subst e1; subst e2
  exact ⟨ps_setDc hc hN hyi hyl hsw hi.pi ok (fun s H C cl fp => (hg s H C cl fp).pg) (fun s H C cl fp => (ht s H C cl fp).pts) (fun s H C cl fp => (hy s H C cl fp).pe) (fun s H C cl fp => (hv s H C cl fp).pe) hs,
    ref_asg (ref_dc hi.ref (hg X.s_0 X.H_0 0 [] []).ref hk (ht X.s_0 X.H_0 0 [] []).ref (hy X.s_0 X.H_0 0 [] []).ref (hv X.s_0 X.H_0 0 [] []).ref) (fun d v ρ μ σ H G Q Qn S r h hd => hd _ μ _ H G (Gle.refl G) ⟨S.hold, S.env.set r i⟩ h)⟩
end
end DL
namespace DL
open PySem PySem.Spec PyProof.Rows L2
/-- a row of texts, closed to simp -/
def tupV (ss : List Str) : List D := ss.map .str
@[simp] theorem strs_tupV {ss : List Str} : strsOf (tupV ss) = some ss := strsOf_map ss
@[simp] theorem tupV_len {ss : List Str} : (tupV ss).length = ss.length := by simp [tupV]
def GlobTV (K : PySem.W.Frag) (ss : List Str) (x : Str) (mg : Str → Option Value) : Prop := ∃ a, mg x = some (.ref a) ∧ ∀ G, Rep K G (.ref a) (.tup (tupV ss))
end DL
namespace DL
open PySem PySem.Spec PyProof.Rows L2
section
variable {X : Cx} {B : Gh} {pos : Pos}
/-- iter(l): at the values' level only -/
theorem dc_iter : CallR X (.builtin "iter") (rIter X.K) ∧ RefC X.K B (fun _ _ _ => False) (rIter X.K) := ⟨call_iterL, fun _ _ _ _ _ _ _ _ _ _ _ h _ => h.elim⟩
end
/-- self.f, self's field a list -/
theorem fld_at {K : PySem.W.Frag} {C a dx : Addr} {fs : List (Str × V)} {f : Str} {v : V} {H : Hp} {σ : St} {Q : VK} (hC : Cls K C) (hn : NoAttr K C f) (h0 : σ[0]? = some (some (.ref a))) (ha : H a = some (.ins C dx fs)) (hf : fs.lookup f = some v) (q : Q v H) : tFld K (tVar 0) f σ H Q :=
  ⟨_, h0, a, C, dx, fs, v, rfl, ha, hC, hn, hf, q⟩
end DL

/-! PR: texts cut at a sign and joined by it. -/
namespace DL
open PySem PySem.Spec PyProof.Rows L2
/-- a text's codes -/
def cd (s : Str) : List Nat := s.cps.toList
@[simp] theorem cd_mk (l : List Nat) : cd (mk l) = l := mk_cps l
@[simp] theorem mk_cd (s : Str) : mk (cd s) = s := mk_of s
@[simp] theorem cd_app (a b : Str) : cd (a ++ b) = cd a ++ cd b := by
  rw [← mk_cd a, ← mk_cd b, mk_append, cd_mk, cd_mk, cd_mk]
theorem cd_inj {a b : Str} (h : cd a = cd b) : a = b := by rw [← mk_cd a, ← mk_cd b, h]
theorem cd_len (s : Str) : (cd s).length = s.length := by rw [← mk_cd s, cd_mk, mk_length]
@[simp] theorem empty_app (s : Str) : Str.empty ++ s = s := cd_inj (by rw [cd_app]; rfl)
theorem app_assoc (a b c : Str) : a ++ b ++ c = a ++ (b ++ c) := cd_inj (by simp)
theorem app_len (a b : Str) : (a ++ b).length = a.length + b.length := by rw [← cd_len, ← cd_len, ← cd_len, cd_app, List.length_append]
def posn (c : Nat) : Nat → List Nat → List Nat
  | _, [] => []
  | i, x :: r => if x = c then i :: posn c (i + 1) r else posn c (i + 1) r
def splA (c : Nat) : List Nat → List Nat → List (List Nat)
  | acc, [] => [acc]
  | acc, x :: r => if x = c then acc :: splA c [] r else splA c (acc ++ [x]) r
abbrev spl (c : Nat) (l : List Nat) : List (List Nat) := splA c [] l
theorem subAt_one {l : List Nat} {c i : Nat} : Builtin.Str.subAt (mk l) (mk [c]) i = decide (l[i]? = some c) := by
  rw [PySem.StrLaws.subAt_eq]
  simp only [mk_length, mk_cps, List.length_singleton]
  rw [Bool.eq_iff_iff, beq_iff_eq, decide_eq_true_eq]
  by_cases h : i < l.length
  · rw [List.getElem?_eq_getElem h, List.drop_eq_getElem_cons h]
    show List.take (0 + 1) (l[i] :: List.drop (i + 1) l) = [c] ↔ _
    rw [List.take_succ_cons, List.take_zero]
    constructor
    · intro e; cases e; rfl
    · intro e; cases e; rfl
  · rw [List.getElem?_eq_none (by omega), List.drop_eq_nil_of_le (by omega)]
    simp
theorem occ_posn {l : List Nat} {c : Nat} : ∀ (r : List Nat) (a : Nat) (arr : Array Nat) (free : Nat), l.drop a = r → a + r.length = l.length → free ≤ a → arr.size ≤ a →
    (forIn (List.range' a (r.length + 1)) (arr, free) (PySem.StrLaws.occBody (mk l) (mk [c]) l.length (l.length + 1))).run.fst.toList = arr.toList ++ posn c a r
  | [], a, arr, free, hd, hl, hf, hs => by
    simp only [List.length_nil, Nat.add_zero] at hl
    have hn : ¬ (((arr.size < l.length + 1 ∧ free ≤ a) ∧ a + (mk [c]).length ≤ l.length) ∧ Builtin.Str.subAt (mk l) (mk [c]) a = true) := by
      rintro ⟨⟨_, h⟩, _⟩
      simp at h
      omega
    rw [List.length_nil, List.range'_succ, List.forIn_cons]
    unfold PySem.StrLaws.occBody
    rw [if_neg hn]
    simp [posn]
  | x :: r, a, arr, free, hd, hl, hf, hs => by
    simp only [List.length_cons] at hl
    have hx : l[a]? = some x := by
      have : (l.drop a)[0]? = some x := by rw [hd]; rfl
      simpa using this
    have hd' : l.drop (a + 1) = r := by rw [← List.drop_drop, hd]; rfl
    rw [List.length_cons, List.range'_succ, List.forIn_cons]
    by_cases h : x = c
    · subst h
      have hy : ((arr.size < l.length + 1 ∧ free ≤ a) ∧ a + (mk [x]).length ≤ l.length) ∧ Builtin.Str.subAt (mk l) (mk [x]) a = true := by
        refine ⟨⟨⟨by omega, hf⟩, by simp; omega⟩, ?_⟩
        rw [subAt_one, hx]
        simp
      have ih := occ_posn (l := l) (c := x) r (a + 1) (arr.push a) (a + (mk [x]).length) hd' (by omega) (by simp) (by simp; omega)
      rw [show PySem.StrLaws.occBody (mk l) (mk [x]) l.length (l.length + 1) a (arr, free) = pure (ForInStep.yield (arr.push a, a + (mk [x]).length)) from by unfold PySem.StrLaws.occBody; rw [if_pos hy]]
      simp only [pure_bind]
      rw [ih]
      simp [posn]
    · have hn : ¬ (((arr.size < l.length + 1 ∧ free ≤ a) ∧ a + (mk [c]).length ≤ l.length) ∧ Builtin.Str.subAt (mk l) (mk [c]) a = true) := by
        rintro ⟨_, h2⟩
        rw [subAt_one, hx] at h2
        simp at h2
        exact h h2
      have ih := occ_posn (l := l) (c := c) r (a + 1) arr free hd' (by omega) (by omega) (by omega)
      rw [show PySem.StrLaws.occBody (mk l) (mk [c]) l.length (l.length + 1) a (arr, free) = pure (ForInStep.yield (arr, free)) from by unfold PySem.StrLaws.occBody; rw [if_neg hn]]
      simp only [pure_bind]
      rw [ih]
      simp [posn, h]
theorem parts_splA {l : List Nat} {c : Nat} : ∀ (r : List Nat) (a b : Nat), l.drop a = r → a + r.length = l.length → b ≤ a → PySem.StrLaws.partsFrom (mk l) 1 b (posn c a r) = (splA c ((l.drop b).take (a - b)) r).map mk
  | [], a, b, hd, hl, hb => by
    simp only [List.length_nil, Nat.add_zero] at hl
    show [Builtin.Str.strSub (mk l) b (mk l).length] = [mk _]
    congr 1
    apply cd_inj
    show (Builtin.Str.strSub (mk l) b (mk l).length).cps.toList = _
    rw [PySem.StrLaws.strSub_toList, cd_mk, mk_cps, mk_length, hl]
  | x :: r, a, b, hd, hl, hb => by
    simp only [List.length_cons] at hl
    have hd' : l.drop (a + 1) = r := by rw [← List.drop_drop, hd]; rfl
    by_cases h : x = c
    · subst h
      have ih := parts_splA (l := l) (c := x) r (a + 1) (a + 1) hd' (by omega) (Nat.le_refl _)
      simp only [posn, splA, if_true, List.map_cons]
      show Builtin.Str.strSub (mk l) b a :: PySem.StrLaws.partsFrom (mk l) 1 (a + 1) (posn x (a + 1) r) = _
      rw [ih, Nat.sub_self, List.take_zero]
      congr 1
      apply cd_inj
      show (Builtin.Str.strSub (mk l) b a).cps.toList = _
      rw [PySem.StrLaws.strSub_toList, cd_mk, mk_cps]
    · have ih := parts_splA (l := l) (c := c) r (a + 1) b hd' (by omega) (by omega)
      simp only [posn, splA, if_neg h]
      rw [ih]
      have e : (l.drop b).take (a + 1 - b) = (l.drop b).take (a - b) ++ [x] := by
        rw [show a + 1 - b = (a - b) + 1 by omega, List.take_add_one]
        congr 1
        rw [List.getElem?_drop, show b + (a - b) = a by omega]
        have : (l.drop a)[0]? = some x := by rw [hd]; rfl
        rw [show l[a]? = some x by simpa using this]
        rfl
      rw [e]
theorem strKind_one {c : Nat} (h : c < 256) (s : Str) : ¬ (Builtin.Str.strKind s < Builtin.Str.strKind (mk [c])) := by
  have e : Builtin.Str.strKind (mk [c]) = 1 := by unfold Builtin.Str.strKind; simp [h]
  rw [e]
  unfold Builtin.Str.strKind
  split
  · omega
  · split <;> omega
/-- t.split(one sign) -/
theorem split_one {c : Nat} (h : c < 256) (s : Str) : Txt.split s (mk [c]) = (spl c (cd s)).map mk := by
  rw [← mk_cd s, cd_mk]
  generalize cd s = l
  unfold Txt.split
  by_cases h0 : l = []
  · subst h0
    rw [if_pos (by simp)]
    rfl
  · have hl : 0 < l.length := List.length_pos_iff.mpr h0
    rw [if_neg (by
      simp only [Bool.or_eq_true, decide_eq_true_eq, mk_length, List.length_singleton]
      rintro (h1 | h1)
      · omega
      · exact strKind_one h _ h1)]
    have e : Builtin.Str.occurrences (mk l) (mk [c]) 0 (mk l).length ((mk l).length + 1) = posn c 0 l := by
      rw [PySem.StrLaws.occ_eq]
      have := occ_posn (l := l) (c := c) l 0 #[] 0 rfl (by simp) (Nat.le_refl _) (by simp)
      simpa using this
    rw [e]
    have p := parts_splA (l := l) (c := c) l 0 0 rfl (by simp) (Nat.le_refl _)
    simp only [List.drop_zero, Nat.sub_zero, List.take_zero] at p
    by_cases h1 : (posn c 0 l).isEmpty = true
    · rw [if_pos h1]
      have h2 : posn c 0 l = [] := by simpa using h1
      rw [h2] at p
      have q : PySem.StrLaws.partsFrom (mk l) 1 0 [] = [mk l] := by
        show [Builtin.Str.strSub (mk l) 0 (mk l).length] = _
        rw [PySem.StrLaws.sub_whole]
      rw [q] at p
      exact p
    · rw [if_neg h1, PySem.StrLaws.partsBetween_eq]
      simpa using p
theorem splA_no {c : Nat} : ∀ {p acc : List Nat}, c ∉ p → splA c acc p = [acc ++ p]
  | [], acc, _ => by simp [splA]
  | x :: r, acc, h => by
    simp at h
    rw [splA, if_neg (fun e => h.1 e.symm), splA_no h.2]
    simp
theorem splA_cut {c : Nat} : ∀ {p acc r : List Nat}, c ∉ p → splA c acc (p ++ c :: r) = (acc ++ p) :: splA c [] r
  | [], acc, r, _ => by simp [splA]
  | x :: p, acc, r, h => by
    simp at h
    rw [List.cons_append, splA, if_neg (fun e => h.1 e.symm), splA_cut h.2]
    simp
/-- joined by one sign -/
def joinL (c : Nat) : List (List Nat) → List Nat
  | [] => []
  | [p] => p
  | p :: q :: r => p ++ c :: joinL c (q :: r)
theorem spl_join {c : Nat} : ∀ {ps : List (List Nat)}, ps ≠ [] → (∀ p ∈ ps, c ∉ p) → spl c (joinL c ps) = ps
  | [], h, _ => (h rfl).elim
  | [p], _, h => by
    show splA c [] p = [p]
    rw [splA_no (h p (by simp))]
    rfl
  | p :: q :: r, _, h => by
    show splA c [] (p ++ c :: joinL c (q :: r)) = _
    rw [splA_cut (h p (by simp))]
    congr 1
    exact spl_join (by simp) fun x hx => h x (List.mem_cons_of_mem _ hx)
theorem joinS {c : Nat} (ps : List Str) : Txt.join (mk [c]) ps = mk (joinL c (ps.map cd)) := by
  show Builtin.Str.glued (mk [c]) ps = _
  rw [PySem.StrLaws.glued_eq_join]
  induction ps with
  | nil => rfl
  | cons p r ih =>
    cases r with
    | nil => show p = mk (cd p); rw [mk_cd]
    | cons q r =>
      show p ++ mk [c] ++ Str.join (mk [c]) (q :: r) = _
      rw [ih]
      apply cd_inj
      simp [joinL]
theorem split_join {c : Nat} (h : c < 256) {ps : List Str} (hp : ps ≠ []) (hc : ∀ p ∈ ps, c ∉ cd p) : Txt.split (Txt.join (mk [c]) ps) (mk [c]) = ps := by
  rw [split_one h, joinS, cd_mk, spl_join (by simpa using hp) (fun p hp => by
    obtain ⟨q, hq, rfl⟩ := List.mem_map.mp hp
    exact hc q hq), List.map_map]
  simp [Function.comp_def]
theorem joinL_nil {c : Nat} : ∀ {ps : List (List Nat)}, joinL c ps = [] → ps = [] ∨ ps = [[]]
  | [], _ => .inl rfl
  | [p], h => .inr (by have h' : p = [] := h; rw [h'])
  | p :: q :: r, h => by simp [joinL] at h
end DL

/-! PS: entries, patterns, the lines of a rule: plain. -/
namespace DL
open PySem PySem.Spec PyProof.Rows L2
abbrev stdL : List Str := ["look", "peek", "reserved"]
abbrev deedL : List Str := ["see", "lend", "reserve", "mark", "fill", "pack", "work"]
abbrev relL : List Str := ["same", "over", "overbox", "under", "underbox"]
abbrev strongL : List Str := ["mark", "fill", "pack", "work"]
def entOf (s d w : Str) : Str := s ++ " " ++ d ++ " " ++ w
/-- all of three rows -/
def wrE (S D W : List Str) : List Str := S.flatMap fun s => D.flatMap fun d => W.map fun w => entOf s d w
def allE : List Str := wrE stdL deedL relL
theorem mem_wrE {S D W : List Str} {e : Str} : e ∈ wrE S D W ↔ ∃ s ∈ S, ∃ d ∈ D, ∃ w ∈ W, e = entOf s d w := by
  unfold wrE
  simp only [List.mem_flatMap, List.mem_map]
  constructor
  · rintro ⟨s, hs, d, hd, w, hw, rfl⟩; exact ⟨s, hs, d, hd, w, hw, rfl⟩
  · rintro ⟨s, hs, d, hd, w, hw, rfl⟩; exact ⟨s, hs, d, hd, w, hw, rfl⟩
theorem flatMap_len {α β : Type} {f : α → List β} {n : Nat} : ∀ {l : List α}, (∀ x ∈ l, (f x).length = n) → (l.flatMap f).length = l.length * n
  | [], _ => by simp
  | x :: r, h => by
    rw [List.flatMap_cons, List.length_append, h x (by simp), flatMap_len fun y hy => h y (List.mem_cons_of_mem _ hy), List.length_cons, Nat.add_mul]
    omega
theorem wrE_len {S D W : List Str} : (wrE S D W).length = S.length * (D.length * W.length) := by
  unfold wrE
  exact flatMap_len fun s _ => flatMap_len fun d _ => by simp
theorem allE_len : allE.length = 105 := by
  unfold allE; rw [wrE_len]; rfl
/-- a word: no blank, comma, newline; short -/
def Wd (s : Str) : Prop := 32 ∉ cd s ∧ 44 ∉ cd s ∧ 10 ∉ cd s ∧ s ≠ "*" ∧ s ≠ "" ∧ s.length ≤ 8
instance (s : Str) : Decidable (Wd s) := by unfold Wd; infer_instance
theorem wd_std : ∀ s ∈ stdL, Wd s := by decide +kernel
theorem wd_deed : ∀ s ∈ deedL, Wd s := by decide +kernel
theorem wd_rel : ∀ s ∈ relL, Wd s := by decide +kernel
theorem sp_lit : (" " : Str) = mk [32] := by decide +kernel
theorem cm_lit : ("," : Str) = mk [44] := by decide +kernel
theorem nl_lit : ("\n" : Str) = mk [10] := by decide +kernel
theorem st_lit : ("*" : Str) = mk [42] := by decide +kernel
theorem em_lit : ("" : Str) = mk [] := by decide +kernel
theorem cd_ent (s d w : Str) : cd (entOf s d w) = joinL 32 [cd s, cd d, cd w] := by
  unfold entOf
  rw [sp_lit]
  simp [joinL]
theorem split3 {s d w : Str} (hs : 32 ∉ cd s) (hd : 32 ∉ cd d) (hw : 32 ∉ cd w) : Txt.split (entOf s d w) " " = [s, d, w] := by
  rw [sp_lit, split_one (by decide), cd_ent, spl_join (by simp) (by simp [hs, hd, hw])]
  simp
theorem ent_inj {s d w s' d' w' : Str} (hs : 32 ∉ cd s) (hd : 32 ∉ cd d) (hw : 32 ∉ cd w) (hs' : 32 ∉ cd s') (hd' : 32 ∉ cd d') (hw' : 32 ∉ cd w') (h : entOf s d w = entOf s' d' w') : s = s' ∧ d = d' ∧ w = w' := by
  have := split3 hs hd hw
  rw [h, split3 hs' hd' hw'] at this
  simp at this
  exact ⟨this.1.symm, this.2.1.symm, this.2.2.symm⟩
theorem ent_len (s d w : Str) : (entOf s d w).length = s.length + d.length + w.length + 2 := by
  unfold entOf; simp only [app_len]; have : (" " : Str).length = 1 := by decide +kernel
  omega
/-- the three words of an entry -/
theorem ent_of {e : Str} (h : e ∈ allE) : ∃ s ∈ stdL, ∃ d ∈ deedL, ∃ w ∈ relL, e = entOf s d w := mem_wrE.mp h
theorem ent_in {s d w : Str} (hs : s ∈ stdL) (hd : d ∈ deedL) (hw : w ∈ relL) : entOf s d w ∈ allE := mem_wrE.mpr ⟨s, hs, d, hd, w, hw, rfl⟩
theorem ent_split {e : Str} (h : e ∈ allE) : ∃ s ∈ stdL, ∃ d ∈ deedL, ∃ w ∈ relL, e = entOf s d w ∧ Txt.split e " " = [s, d, w] := by
  obtain ⟨s, hs, d, hd, w, hw, rfl⟩ := ent_of h
  exact ⟨s, hs, d, hd, w, hw, rfl, split3 (wd_std s hs).1 (wd_deed d hd).1 (wd_rel w hw).1⟩
theorem ent_mem {s d w : Str} (hs : 32 ∉ cd s) (hd : 32 ∉ cd d) (hw : 32 ∉ cd w) {S D W : List Str} (hS : ∀ x ∈ S, 32 ∉ cd x) (hD : ∀ x ∈ D, 32 ∉ cd x) (hW : ∀ x ∈ W, 32 ∉ cd x) : entOf s d w ∈ wrE S D W ↔ s ∈ S ∧ d ∈ D ∧ w ∈ W := by
  rw [mem_wrE]
  constructor
  · rintro ⟨s', hs', d', hd', w', hw', e⟩
    obtain ⟨rfl, rfl, rfl⟩ := ent_inj hs hd hw (hS _ hs') (hD _ hd') (hW _ hw') e
    exact ⟨hs', hd', hw'⟩
  · rintro ⟨h1, h2, h3⟩; exact ⟨s, h1, d, h2, w, h3, rfl⟩
theorem ent_small {e : Str} (h : e ∈ allE) : e.length ≤ 26 := by
  obtain ⟨s, hs, d, hd, w, hw, rfl⟩ := ent_of h
  have h1 := (wd_std s hs).2.2.2.2.2
  have h2 := (wd_deed d hd).2.2.2.2.2
  have h3 := (wd_rel w hw).2.2.2.2.2
  rw [ent_len]; omega
theorem nd_std : stdL.Nodup := by decide +kernel
theorem nd_deed : deedL.Nodup := by decide +kernel
theorem nd_rel : relL.Nodup := by decide +kernel
theorem allE_nodup : allE.Nodup := by
  unfold allE wrE List.Nodup
  rw [List.pairwise_flatMap]
  refine ⟨fun s hs => ?_, ?_⟩
  · rw [List.pairwise_flatMap]
    refine ⟨fun d hd => ?_, ?_⟩
    · rw [List.pairwise_map]
      exact nd_rel.imp_of_mem fun {a b} ha hb ne e => ne (ent_inj (wd_std s hs).1 (wd_deed d hd).1 (wd_rel a ha).1 (wd_std s hs).1 (wd_deed d hd).1 (wd_rel b hb).1 e).2.2
    · refine nd_deed.imp_of_mem fun {a b} ha hb ne x hx y hy e => ?_
      obtain ⟨w, hw, rfl⟩ := List.mem_map.mp hx
      obtain ⟨v, hv, rfl⟩ := List.mem_map.mp hy
      exact ne (ent_inj (wd_std s hs).1 (wd_deed a ha).1 (wd_rel w hw).1 (wd_std s hs).1 (wd_deed b hb).1 (wd_rel v hv).1 e).2.1
  · refine nd_std.imp_of_mem fun {a b} ha hb ne x hx y hy e => ?_
    obtain ⟨d, hd, hx⟩ := List.mem_flatMap.mp hx
    obtain ⟨w, hw, rfl⟩ := List.mem_map.mp hx
    obtain ⟨d', hd', hy⟩ := List.mem_flatMap.mp hy
    obtain ⟨v, hv, rfl⟩ := List.mem_map.mp hy
    exact ne (ent_inj (wd_std a ha).1 (wd_deed d hd).1 (wd_rel w hw).1 (wd_std b hb).1 (wd_deed d' hd').1 (wd_rel v hv).1 e).1
/-- the part of a pattern -/
def wordsOf (part : Str) (ws : List Str) : Option (List Str) :=
  if part = "*" then some ws else if ((Txt.split part ",").all fun x => decide (x ∈ ws)) = true then some (ws.filter fun x => decide (x ∈ Txt.split part ",")) else none
def expandE (p : Str) : Option (List Str) := match Txt.split p " " with
  | [a, b, c] => match wordsOf a stdL, wordsOf b deedL, wordsOf c relL with
    | some S, some D, some W => some (wrE S D W)
    | _, _, _ => none
  | _ => none
theorem split_word {s : Str} (h : 44 ∉ cd s) : Txt.split s "," = [s] := by
  rw [cm_lit, split_one (by decide)]
  show (splA 44 [] (cd s)).map mk = [s]
  rw [splA_no h]
  simp
theorem wordsOf_one {s : Str} {ws : List Str} (hw : Wd s) (h : s ∈ ws) (nd : ws.Nodup) : wordsOf s ws = some [s] := by
  unfold wordsOf
  rw [if_neg hw.2.2.2.1, split_word hw.2.1, if_pos (by simp [h])]
  congr 1
  have : ∀ {l : List Str}, l.Nodup → s ∈ l → (l.filter fun x => decide (x ∈ [s])) = [s] := by
    intro l
    induction l with
    | nil => intro _ h; simp at h
    | cons x r ih =>
      intro nd h
      rw [List.nodup_cons] at nd
      by_cases e : x = s
      · subst e
        rw [List.filter_cons_of_pos (by simp)]
        congr 1
        rw [List.filter_eq_nil_iff]
        intro y hy
        simp
        rintro rfl
        exact nd.1 hy
      · rw [List.filter_cons_of_neg (by simp [e])]
        exact ih nd.2 (by simpa [Ne.symm e] using h)
  exact this nd h
theorem wordsOf_star {ws : List Str} : wordsOf "*" ws = some ws := by unfold wordsOf; rw [if_pos rfl]
/-- several words, commas between -/
def listed (ws : List Str) : Str := Txt.join "," ws
theorem split_listed {ws : List Str} (h0 : ws ≠ []) (h : ∀ w ∈ ws, Wd w) : Txt.split (listed ws) "," = ws := by
  unfold listed
  rw [cm_lit]
  exact split_join (by decide) h0 fun w hw => (h w hw).2.1
theorem cd_listed (ws : List Str) : cd (listed ws) = joinL 44 (ws.map cd) := by unfold listed; rw [cm_lit, joinS, cd_mk]
theorem mem_joinL {c x : Nat} : ∀ {ps : List (List Nat)}, x ∈ joinL c ps → x = c ∨ ∃ p ∈ ps, x ∈ p
  | [], h => by simp [joinL] at h
  | [p], h => .inr ⟨p, by simp, h⟩
  | p :: q :: r, h => by
    simp only [joinL, List.mem_append, List.mem_cons] at h
    rcases h with h | h | h
    · exact .inr ⟨p, by simp, h⟩
    · exact .inl h
    · rcases mem_joinL h with h | ⟨y, hy, h⟩
      · exact .inl h
      · exact .inr ⟨y, List.mem_cons_of_mem _ hy, h⟩
theorem listed_no {ws : List Str} {c : Nat} (hc : c ≠ 44) (h : ∀ w ∈ ws, c ∉ cd w) : c ∉ cd (listed ws) := by
  rw [cd_listed]
  intro hm
  rcases mem_joinL hm with h1 | ⟨p, hp, h1⟩
  · exact hc h1
  · obtain ⟨w, hw, rfl⟩ := List.mem_map.mp hp
    exact h w hw h1
theorem joinL_len {c : Nat} {n : Nat} : ∀ {ps : List (List Nat)}, (∀ p ∈ ps, p.length ≤ n) → (joinL c ps).length ≤ ps.length * (n + 1)
  | [], _ => by simp [joinL]
  | [p], h => by have := h p (by simp); simp [joinL]; omega
  | p :: q :: r, h => by
    have h1 := h p (by simp)
    have h2 := joinL_len (c := c) (n := n) (ps := q :: r) fun x hx => h x (List.mem_cons_of_mem _ hx)
    simp only [joinL, List.length_append, List.length_cons, Nat.add_mul] at h2 ⊢
    omega
theorem listed_len {ws : List Str} (h : ∀ w ∈ ws, Wd w) : (listed ws).length ≤ ws.length * 9 := by
  rw [← cd_len, cd_listed]
  have := joinL_len (c := 44) (n := 8) (ps := ws.map cd) fun p hp => by
    obtain ⟨w, hw, rfl⟩ := List.mem_map.mp hp
    rw [cd_len]; exact (h w hw).2.2.2.2.2
  simpa using this
theorem listed_ne {ws : List Str} (h0 : ws ≠ []) (h : ∀ w ∈ ws, Wd w) : listed ws ≠ "*" := by
  intro e
  have h1 := split_listed h0 h
  rw [e] at h1
  have h2 : Txt.split ("*" : Str) "," = [("*" : Str)] := split_word (s := "*") (by decide +kernel)
  rw [h2] at h1
  exact (h "*" (by rw [← h1]; simp)).2.2.2.1 rfl
theorem wordsOf_listed {ws vs : List Str} (h0 : ws ≠ []) (h : ∀ w ∈ ws, Wd w) (hin : ∀ w ∈ ws, w ∈ vs) : wordsOf (listed ws) vs = some (vs.filter fun x => decide (x ∈ ws)) := by
  unfold wordsOf
  rw [if_neg (listed_ne h0 h), split_listed h0 h, if_pos (by simpa using hin)]
/-- a line: a standing, a deed, and what is said of relations -/
theorem expand_line {s d p : Str} {W : List Str} (hs : s ∈ stdL) (hd : d ∈ deedL) (hp : 32 ∉ cd p) (hw : wordsOf p relL = some W) : expandE (entOf s d p) = some (W.map fun w => entOf s d w) := by
  unfold expandE
  rw [split3 (wd_std s hs).1 (wd_deed d hd).1 hp]
  simp only [wordsOf_one (wd_std s hs) hs nd_std, wordsOf_one (wd_deed d hd) hd nd_deed, hw]
  simp [wrE]
theorem expand_ent {e : Str} (h : e ∈ allE) : expandE e = some [e] := by
  obtain ⟨s, hs, d, hd, w, hw, rfl⟩ := ent_of h
  rw [expand_line hs hd (wd_rel w hw).1 (wordsOf_one (wd_rel w hw) hw nd_rel)]
  rfl
theorem wordsOf_sub {p : Str} {ws W : List Str} (h : wordsOf p ws = some W) : ∀ w ∈ W, w ∈ ws := by
  unfold wordsOf at h
  split at h
  · cases h; exact fun w hw => hw
  · split at h
    · cases h; intro w hw; exact (List.mem_filter.mp hw).1
    · cases h
theorem expand_all {p : Str} {es : List Str} (h : expandE p = some es) : ∀ e ∈ es, e ∈ allE := by
  unfold expandE at h
  split at h
  · split at h
    · next S D W e1 e2 e3 =>
      cases h
      intro e he
      obtain ⟨s, hs, d, hd, w, hw, rfl⟩ := mem_wrE.mp he
      exact ent_in (wordsOf_sub e1 s hs) (wordsOf_sub e2 d hd) (wordsOf_sub e3 w hw)
    · cases h
  · cases h
theorem wordsOf_len {p : Str} {ws W : List Str} (h : wordsOf p ws = some W) : W.length ≤ ws.length := by
  unfold wordsOf at h
  split at h
  · cases h; exact Nat.le_refl _
  · split at h
    · cases h; exact List.length_filter_le _ _
    · cases h
theorem expand_len {p : Str} {es : List Str} (h : expandE p = some es) : es.length ≤ 105 := by
  unfold expandE at h
  split at h
  · split at h
    · next S D W e1 e2 e3 =>
      cases h
      rw [wrE_len]
      have h1 := wordsOf_len e1
      have h2 := wordsOf_len e2
      have h3 := wordsOf_len e3
      have h4 : D.length * W.length ≤ 7 * 5 := Nat.mul_le_mul h2 h3
      exact Nat.le_trans (Nat.mul_le_mul h1 h4) (by decide)
    · cases h
  · cases h
/-- the entries of a list, in table order -/
def selE (ls : List Str) : List Str := allE.filter fun e => decide (e ∈ ls)
theorem mem_selE {ls : List Str} {e : Str} : e ∈ selE ls ↔ e ∈ allE ∧ e ∈ ls := by unfold selE; simp [List.mem_filter]
theorem selE_congr {a b : List Str} (h : ∀ e ∈ allE, (e ∈ a ↔ e ∈ b)) : selE a = selE b := by
  unfold selE
  apply List.filter_congr
  intro e he
  simp [h e he]
theorem selE_len (ls : List Str) : (selE ls).length ≤ 105 := by
  rw [← allE_len]; exact List.length_filter_le _ _
theorem selE_idem (ls : List Str) : selE (selE ls) = selE ls := selE_congr fun e he => by rw [mem_selE]; exact ⟨fun h => h.2, fun h => ⟨he, h⟩⟩
/-- in table order -/
def Tab (ls : List Str) : Prop := selE ls = ls
theorem tab_sel (ls : List Str) : Tab (selE ls) := selE_idem ls
theorem tab_filter (p : Str → Bool) : Tab (allE.filter p) := by
  unfold Tab selE
  apply List.filter_congr
  intro e he
  simp [he]
theorem Tab.mem {ls : List Str} (h : Tab ls) {e : Str} (he : e ∈ ls) : e ∈ allE := by rw [← h] at he; exact (mem_selE.mp he).1
theorem Tab.len {ls : List Str} (h : Tab ls) : ls.length ≤ 105 := by rw [← h]; exact selE_len _
theorem Tab.nil : Tab [] := by unfold Tab selE; simp
theorem Tab.eq {a b : List Str} (ha : Tab a) (hb : Tab b) (h : ∀ e, e ∈ a ↔ e ∈ b) : a = b := by rw [← ha, ← hb]; exact selE_congr fun e _ => h e
theorem Tab.filter {a : List Str} (ha : Tab a) (p : Str → Bool) : Tab (a.filter p) := by
  have e : a.filter p = allE.filter (fun e => p e && decide (e ∈ a)) := by
    have h1 : (selE a).filter p = allE.filter (fun e => p e && decide (e ∈ a)) := by unfold selE; rw [List.filter_filter]
    rwa [show selE a = a from ha] at h1
  rw [e]
  exact tab_filter _
/-- the lines of the written form -/
def wordsAt (es : List Str) (s d : Str) : List Str := relL.filter fun w => decide (entOf s d w ∈ es)
def lineAt (es : List Str) (s d : Str) : List Str := if wordsAt es s d = [] then [] else [entOf s d (if (wordsAt es s d).length = 5 then "*" else listed (wordsAt es s d))]
def linesOf (es : List Str) : List Str := stdL.flatMap fun s => deedL.flatMap fun d => lineAt es s d
/-- what is said of the relations W behind a standing and a deed -/
def SaidAs (p : Str) (W : List Str) : Prop := W ≠ [] ∧ (∀ w ∈ W, w ∈ relL) ∧ ((p = "*" ∧ ∀ w ∈ relL, w ∈ W) ∨ p = listed W)
theorem said_no {p : Str} {W : List Str} (h : SaidAs p W) {c : Nat} (hc : c = 32 ∨ c = 10) : c ∉ cd p := by
  obtain ⟨h0, h1, h2 | h2⟩ := h
  · rw [h2.1]
    rcases hc with rfl | rfl <;> decide +kernel
  · rw [h2]
    refine listed_no (by omega) fun w hw => ?_
    have := wd_rel w (h1 w hw)
    rcases hc with rfl | rfl
    · exact this.1
    · exact this.2.2.1
theorem said_words {p : Str} {W : List Str} (h : SaidAs p W) : wordsOf p relL = some (relL.filter fun x => decide (x ∈ W)) := by
  obtain ⟨h0, h1, h2 | h2⟩ := h
  · rw [h2.1, wordsOf_star]
    congr 1
    rw [eq_comm, List.filter_eq_self]
    intro x hx
    simp [h2.2 x hx]
  · rw [h2, wordsOf_listed h0 (fun w hw => wd_rel w (h1 w hw)) h1]
theorem said_len {p : Str} {W : List Str} (h : SaidAs p W) (l : W.length ≤ 20) : p.length ≤ 180 := by
  obtain ⟨h0, h1, h2 | h2⟩ := h
  · rw [h2.1]; have : ("*" : Str).length = 1 := by decide +kernel
    omega
  · rw [h2]
    have := listed_len fun w hw => wd_rel w (h1 w hw)
    omega
theorem said_expand {s d p : Str} {W : List Str} (hs : s ∈ stdL) (hd : d ∈ deedL) (h : SaidAs p W) : expandE (entOf s d p) = some ((relL.filter fun x => decide (x ∈ W)).map fun w => entOf s d w) :=
  expand_line hs hd (said_no h (.inl rfl)) (said_words h)
theorem said_at {es : List Str} {s d : Str} (h : wordsAt es s d ≠ []) : SaidAs (if (wordsAt es s d).length = 5 then "*" else listed (wordsAt es s d)) (wordsAt es s d) := by
  refine ⟨h, fun w hw => (List.mem_filter.mp hw).1, ?_⟩
  split
  · next h5 =>
    refine .inl ⟨rfl, ?_⟩
    have : wordsAt es s d = relL := List.filter_sublist.eq_of_length h5
    intro w hw
    rw [this]; exact hw
  · exact .inr rfl
/-- a line that reads -/
structure LineOk (p : Str) : Prop where
  ex : ∃ x, expandE p = some x
  nl : 10 ∉ cd p
  ne : p ≠ ""
  len : p.length ≤ 300
theorem ent_ne (s d w : Str) : entOf s d w ≠ "" := by
  intro e
  have := congrArg Str.length e
  rw [ent_len] at this
  have h0 : ("" : Str).length = 0 := by decide +kernel
  omega
theorem ent_nl {s d p : Str} (hs : s ∈ stdL) (hd : d ∈ deedL) (hp : 10 ∉ cd p) : 10 ∉ cd (entOf s d p) := by
  rw [cd_ent]
  intro h
  rcases mem_joinL h with h | ⟨q, hq, h⟩
  · cases h
  · simp at hq
    rcases hq with rfl | rfl | rfl
    · exact (wd_std s hs).2.2.1 h
    · exact (wd_deed d hd).2.2.1 h
    · exact hp h
theorem said_ok {s d p : Str} {W : List Str} (hs : s ∈ stdL) (hd : d ∈ deedL) (h : SaidAs p W) (l : W.length ≤ 20) : LineOk (entOf s d p) :=
  ⟨⟨_, said_expand hs hd h⟩, ent_nl hs hd (said_no h (.inr rfl)), ent_ne _ _ _, by
    rw [ent_len]
    have h1 := (wd_std s hs).2.2.2.2.2
    have h2 := (wd_deed d hd).2.2.2.2.2
    have h3 := said_len h l
    omega⟩
theorem ent_ok {e : Str} (h : e ∈ allE) : LineOk e := by
  refine ⟨⟨_, expand_ent h⟩, ?_, ?_, by have := ent_small h; omega⟩
  · obtain ⟨s, hs, d, hd, w, hw, rfl⟩ := ent_of h
    exact ent_nl hs hd (wd_rel w hw).2.2.1
  · obtain ⟨s, hs, d, hd, w, hw, rfl⟩ := ent_of h
    exact ent_ne _ _ _
/-- what the lines say, together -/
def uniE (ls : List Str) : List Str := ls.flatMap fun p => (expandE p).getD []
theorem mem_uniE {ls : List Str} {e : Str} : e ∈ uniE ls ↔ ∃ p ∈ ls, ∃ x, expandE p = some x ∧ e ∈ x := by
  unfold uniE
  rw [List.mem_flatMap]
  constructor
  · rintro ⟨p, hp, h⟩
    cases q : expandE p with
    | none => rw [q] at h; simp at h
    | some x => rw [q] at h; exact ⟨p, hp, x, q, h⟩
  · rintro ⟨p, hp, x, q, h⟩
    exact ⟨p, hp, by rw [q]; exact h⟩
theorem uniE_all {ls : List Str} {e : Str} (h : e ∈ uniE ls) : e ∈ allE := by
  obtain ⟨p, _, x, q, h⟩ := mem_uniE.mp h
  exact expand_all q e h
/-- these lines write the rule of these entries -/
structure Cov (ls es : List Str) : Prop where
  ok : ∀ p ∈ ls, LineOk p
  un : ∀ e, e ∈ uniE ls ↔ e ∈ es
theorem Cov.sel {ls es : List Str} (h : Cov ls es) (t : Tab es) : selE (uniE ls) = es := by
  rw [← show selE es = es from t]
  exact selE_congr fun e _ => h.un e
theorem Cov.mem {ls ls' es : List Str} (h : Cov ls es) (hm : ∀ p, p ∈ ls' ↔ p ∈ ls) : Cov ls' es :=
  ⟨fun p hp => h.ok p ((hm p).mp hp), fun e => by
    rw [← h.un e, mem_uniE, mem_uniE]
    constructor
    · rintro ⟨p, hp, r⟩; exact ⟨p, (hm p).mp hp, r⟩
    · rintro ⟨p, hp, r⟩; exact ⟨p, (hm p).mpr hp, r⟩⟩
theorem lineAt_mem {es : List Str} {s d p : Str} : p ∈ lineAt es s d ↔ wordsAt es s d ≠ [] ∧ p = entOf s d (if (wordsAt es s d).length = 5 then "*" else listed (wordsAt es s d)) := by
  unfold lineAt
  split
  · next h => simp [h]
  · next h => simp [h]
theorem mem_linesOf {es : List Str} {p : Str} : p ∈ linesOf es ↔ ∃ s ∈ stdL, ∃ d ∈ deedL, wordsAt es s d ≠ [] ∧ p = entOf s d (if (wordsAt es s d).length = 5 then "*" else listed (wordsAt es s d)) := by
  unfold linesOf
  simp only [List.mem_flatMap, lineAt_mem]
theorem wordsAt_len {es : List Str} {s d : Str} : (wordsAt es s d).length ≤ 5 := List.length_filter_le _ _
theorem line_said {es : List Str} {p : Str} (h : p ∈ linesOf es) : ∃ s ∈ stdL, ∃ d ∈ deedL, ∃ q, p = entOf s d q ∧ SaidAs q (wordsAt es s d) := by
  obtain ⟨s, hs, d, hd, h0, rfl⟩ := mem_linesOf.mp h
  exact ⟨s, hs, d, hd, _, rfl, said_at h0⟩
theorem cov_lines {es : List Str} (t : Tab es) : Cov (linesOf es) es := by
  refine ⟨fun p hp => ?_, fun e => ?_⟩
  · obtain ⟨s, hs, d, hd, q, rfl, h⟩ := line_said hp
    exact said_ok hs hd h (by have := wordsAt_len (es := es) (s := s) (d := d); omega)
  · rw [mem_uniE]
    constructor
    · rintro ⟨p, hp, x, hx, he⟩
      obtain ⟨s, hs, d, hd, q, rfl, h⟩ := line_said hp
      rw [said_expand hs hd h] at hx
      cases hx
      obtain ⟨w, hw, rfl⟩ := List.mem_map.mp he
      have h1 := (List.mem_filter.mp hw).2
      have h2 : w ∈ wordsAt es s d := by simpa using h1
      simpa using (List.mem_filter.mp h2).2
    · intro he
      obtain ⟨s, hs, d, hd, w, hw, rfl⟩ := ent_of (t.mem he)
      have h2 : w ∈ wordsAt es s d := List.mem_filter.mpr ⟨hw, by simpa using he⟩
      have h0 : wordsAt es s d ≠ [] := fun e => by rw [e] at h2; cases h2
      refine ⟨_, mem_linesOf.mpr ⟨s, hs, d, hd, h0, rfl⟩, _, said_expand hs hd (said_at h0), List.mem_map.mpr ⟨w, List.mem_filter.mpr ⟨hw, by simpa using h2⟩, rfl⟩⟩
theorem cov_ents {es : List Str} (t : Tab es) : Cov es es := by
  refine ⟨fun p hp => ent_ok (t.mem hp), fun e => ?_⟩
  rw [mem_uniE]
  constructor
  · rintro ⟨p, hp, x, hx, he⟩
    rw [expand_ent (t.mem hp)] at hx
    cases hx
    simp at he
    rw [he]; exact hp
  · intro he
    exact ⟨e, he, [e], expand_ent (t.mem he), by simp⟩
theorem linesOf_len (es : List Str) : (linesOf es).length ≤ 21 := by
  unfold linesOf
  have h1 : ∀ s, (deedL.flatMap fun d => lineAt es s d).length ≤ 7 := by
    intro s
    have : ∀ l : List Str, (l.flatMap fun d => lineAt es s d).length ≤ l.length := by
      intro l
      induction l with
      | nil => simp
      | cons x r ih =>
        rw [List.flatMap_cons, List.length_append, List.length_cons]
        have : (lineAt es s x).length ≤ 1 := by unfold lineAt; split <;> simp
        omega
    exact this deedL
  have : ∀ l : List Str, (l.flatMap fun s => deedL.flatMap fun d => lineAt es s d).length ≤ l.length * 7 := by
    intro l
    induction l with
    | nil => simp
    | cons x r ih =>
      rw [List.flatMap_cons, List.length_append, List.length_cons, Nat.add_mul]
      have := h1 x
      omega
  exact this stdL
/-- parts of the lines -/
def lnB (es : List Str) (s : Str) (D : List Str) : List Str := D.flatMap fun d => lineAt es s d
def lnA (es S : List Str) : List Str := S.flatMap fun s => lnB es s deedL
theorem lnB_nil {es : List Str} {s : Str} : lnB es s [] = [] := rfl
theorem lnA_nil {es : List Str} : lnA es [] = [] := rfl
theorem lnB_app {es : List Str} {s d : Str} {D : List Str} : lnB es s (D ++ [d]) = lnB es s D ++ lineAt es s d := by unfold lnB; rw [List.flatMap_append]; simp
theorem lnA_app {es : List Str} {s : Str} {S : List Str} : lnA es (S ++ [s]) = lnA es S ++ lnB es s deedL := by unfold lnA; rw [List.flatMap_append]; simp
theorem lnA_all {es : List Str} : lnA es stdL = linesOf es := rfl
theorem lnB_len {es : List Str} {s : Str} : ∀ {D : List Str}, (lnB es s D).length ≤ D.length
  | [] => by simp [lnB]
  | d :: D => by
    have h : (lineAt es s d).length ≤ 1 := by unfold lineAt; split <;> simp
    have := lnB_len (es := es) (s := s) (D := D)
    unfold lnB at this ⊢
    rw [List.flatMap_cons, List.length_append, List.length_cons]; omega
theorem lnA_len {es : List Str} : ∀ {S : List Str}, (lnA es S).length ≤ S.length * 7
  | [] => by simp [lnA]
  | s :: S => by
    have h := lnB_len (es := es) (s := s) (D := deedL)
    have := lnA_len (es := es) (S := S)
    unfold lnA at this ⊢
    rw [List.flatMap_cons, List.length_append, List.length_cons, Nat.add_mul]
    simp at h; omega
/-- the words as values; closed to simp -/
def stdV : List D := stdL.map .str
def deedV : List D := deedL.map .str
def relV : List D := relL.map .str
def strongV : List D := strongL.map .str
@[simp] theorem strs_stdV : strsOf stdV = some stdL := strsOf_map _
@[simp] theorem strs_deedV : strsOf deedV = some deedL := strsOf_map _
@[simp] theorem strs_relV : strsOf relV = some relL := strsOf_map _
@[simp] theorem strs_strongV : strsOf strongV = some strongL := strsOf_map _
def invS (w : Str) : Str := if w = "over" then "under" else if w = "overbox" then "underbox" else if w = "under" then "over" else if w = "underbox" then "overbox" else w
/-- harmful by point 17 -/
def harmW (s d w look res : Str) : Bool :=
  if (d = "pack" ∨ d = "work") ∧ w = "overbox" then true
  else if (if s = "reserved" then res else look) = "fresh" ∨ d ∈ (["see", "lend", "reserve", "pack"] : List Str) then false
  else if d = "mark" then decide (w = "same") || (decide (s ≠ "peek") && decide (w ∈ (["under", "underbox"] : List Str)))
  else decide (s ≠ "peek") || decide (w ∈ (["same", "over", "overbox"] : List Str))
theorem pyL_strs : ∀ (ss : List Str), pyL (ss.map .str) = some (ss.map .str)
  | [] => rfl
  | s :: r => by simp [pyL, py, pyL_strs r]
theorem eqv_strs : ∀ (a b : List Str), PyData.eqvAll (a.map .str) (b.map .str) = decide (a = b)
  | [], [] => rfl
  | [], _ :: _ => rfl
  | _ :: _, [] => rfl
  | x :: a, y :: b => by
    show (PyData.eqv (.str x) (.str y) && PyData.eqvAll (a.map .str) (b.map .str)) = _
    rw [eqv_strs a b]
    have : PyData.eqv (.str x) (.str y) = decide (x = y) := by show (x == y) = _; exact Bool.eq_iff_iff.mpr (by simp)
    rw [this]
    simp
theorem depth_strs : ∀ (ss : List Str), PyData.depthAll (ss.map .str) = 0
  | [] => rfl
  | s :: r => by simp [PyData.depthAll, PyData.depth, depth_strs r]
theorem lay_strs : ∀ (ss : List Str), (∀ s ∈ ss, PyData.strOk s = true) → PyData.canLayAll0 (ss.map .str) = true
  | [], _ => rfl
  | s :: r, h => by
    simp [PyData.canLayAll0, PyData.canLay0, h s (by simp), lay_strs r fun y hy => h y (List.mem_cons_of_mem _ hy)]
theorem shaped_strs {ss : List Str} (h : ∀ s ∈ ss, PyData.strOk s = true) : SeqAt.shaped (.list (ss.map .str)) = true := by
  unfold SeqAt.shaped
  simp [PyData.canLay0, PyData.depth, depth_strs, lay_strs ss h]
theorem ok_all : ∀ s ∈ allE, PyData.strOk s = true := by decide +kernel
theorem ok_rel : ∀ s ∈ relL, PyData.strOk s = true := by decide +kernel
theorem eqW_strs {n : Bool} {a b : List Str} {μ : Mu} {Q : QD} (ha : ∀ s ∈ a, PyData.strOk s = true) (hb : ∀ s ∈ b, PyData.strOk s = true) (h : Q (.bl (n ^^ decide (a = b))) μ) : eqW n (.lst (a.map .str)) (.lst (b.map .str)) μ Q := by
  rw [eqW_p]
  show oS (pyL (a.map .str)) fun ds => oS (pyL (b.map .str)) fun es => SeqAt.shaped (.list ds) = true ∧ SeqAt.shaped (.list es) = true ∧ Q (.bl (n ^^ PyData.eqvAll ds es)) μ
  rw [pyL_strs, pyL_strs]
  exact ⟨shaped_strs ha, shaped_strs hb, by rw [eqv_strs]; exact h⟩
/-- a row of texts made, each by what holds of it -/
theorem comp_rel {g : TDG} {te : TDE} {p : Addr} {ρ0 : DR} {Q : Mu → Prop} {μ : Mu} (R : D → Str → Prop) : ∀ {xs : List D} {acc : List Str}, (hl : acc.length + xs.length ≤ 16000000) →
    (hc : ∀ x ∈ xs, ∀ (acc : List D) (N : Mu → Prop), acc.length ≤ 16000000 → (∀ s, R x s → N (mup μ p (.lst (acc ++ [.str s])))) →
      g x ρ0 (mup μ p (.lst acc)) fun ρ2 μ2 => te ρ2 μ2 fun d μ4 => ∃ acc, μ4 p = some (.lst acc) ∧ acc.length < sizeLine ∧ N (mup μ4 p (.lst (acc ++ [d])))) →
    (∀ ss : List Str, ss.length = xs.length → (∀ s ∈ ss, ∃ x ∈ xs, R x s) → (∀ x ∈ xs, ∃ s ∈ ss, R x s) → Q (mup μ p (.lst ((acc ++ ss).map .str)))) → compL g dYes te p ρ0 Q xs (mup μ p (.lst (acc.map .str)))
  | [], acc, _, _, q => by
    have := q [] rfl (by simp) (by simp)
    rwa [List.append_nil] at this
  | x :: r, acc, hl, hc, q => by
    simp only [List.length_cons] at hl
    rw [compL_cons]
    simp only [dYes_p, if_true]
    refine hc x (by simp) _ _ (by simp; omega) fun s hs => ?_
    have := comp_rel (Q := Q) R (xs := r) (acc := acc ++ [s]) (by simp; omega) (fun y hy => hc y (List.mem_cons_of_mem _ hy)) (fun ss h h1 h2 => by
      rw [List.append_assoc]
      refine q ([s] ++ ss) (by simp [h]) ?_ ?_
      · intro u hu
        rcases List.mem_cons.mp hu with rfl | hu
        · exact ⟨x, by simp, hs⟩
        · obtain ⟨y, hy, h⟩ := h1 u hu; exact ⟨y, List.mem_cons_of_mem _ hy, h⟩
      · intro y hy
        rcases List.mem_cons.mp hy with rfl | hy
        · exact ⟨s, by simp, hs⟩
        · obtain ⟨u, hu, h⟩ := h2 y hy; exact ⟨u, List.mem_cons_of_mem _ hu, h⟩)
    rwa [List.map_append] at this
/-- turned about -/
theorem rot {ls : List Str} {t : Int} (t0 : 0 ≤ t) : ∃ r : List Str, cutD (ls.map D.str) (some t) none ++ cutD (ls.map D.str) none (some t) = r.map .str ∧ r.length = ls.length ∧ ∀ p, p ∈ r ↔ p ∈ ls := by
  refine ⟨ls.drop t.toNat ++ ls.take t.toNat, ?_, by simp; omega, fun p => ?_⟩
  · rw [cutD_map, cutD_map, cutD_upto _ t0, cutD_behind _ t0, ← List.map_append]
  · rw [List.mem_append, or_comm, ← List.mem_append, List.take_append_drop]
def Rew (x s : Str) : Prop := ∃ a ∈ stdL, ∃ d ∈ deedL, ∃ q W ys, x = entOf a d q ∧ SaidAs q W ∧ s = entOf a d (listed ys) ∧ ys ≠ [] ∧ (∀ w, w ∈ ys ↔ w ∈ W) ∧ ys.length ≤ 6
theorem rew_said {q : Str} {W ys : List Str} (h : SaidAs q W) (h0 : ys ≠ []) (hy : ∀ w, w ∈ ys ↔ w ∈ W) : SaidAs (listed ys) ys := ⟨h0, fun w hw => h.2.1 w ((hy w).mp hw), .inr rfl⟩
theorem rew_exp {x s : Str} (h : Rew x s) : expandE x = expandE s := by
  obtain ⟨a, ha, d, hd, q, W, ys, rfl, h, rfl, h0, hy, hl⟩ := h
  rw [said_expand ha hd h, said_expand ha hd (rew_said h h0 hy)]
  congr 2
  apply List.filter_congr
  intro w _
  exact decide_eq_decide.mpr (hy w).symm
theorem rew_ok {x s : Str} (h : Rew x s) : LineOk s := by
  obtain ⟨a, ha, d, hd, q, W, ys, rfl, h, rfl, h0, hy, hl⟩ := h
  exact said_ok ha hd (rew_said h h0 hy) (by omega)
theorem cov_rew {r ss es : List Str} (h : Cov r es) (h1 : ∀ s ∈ ss, ∃ x ∈ r, Rew x s) (h2 : ∀ x ∈ r, ∃ s ∈ ss, Rew x s) : Cov ss es := by
  refine ⟨fun s hs => ?_, fun e => ?_⟩
  · obtain ⟨x, _, h⟩ := h1 s hs; exact rew_ok h
  · rw [← h.un e, mem_uniE, mem_uniE]
    constructor
    · rintro ⟨s, hs, y, hy, he⟩
      obtain ⟨x, hx, h⟩ := h1 s hs
      exact ⟨x, hx, y, by rw [rew_exp h]; exact hy, he⟩
    · rintro ⟨x, hx, y, hy, he⟩
      obtain ⟨s, hs, h⟩ := h2 x hx
      exact ⟨s, hs, y, by rw [← rew_exp h]; exact hy, he⟩
theorem ok_cd {s : Str} (h : ∀ c ∈ cd s, c < 0x110000) : PyData.strOk s = true := by
  show s.cps.all (fun c => decide (c < 0x110000)) = true
  rw [← Array.all_toList, List.all_eq_true]
  intro c hc
  simpa using h c hc
theorem cd_ok {s : Str} (h : PyData.strOk s = true) : ∀ c ∈ cd s, c < 0x110000 := by
  have h : s.cps.all (fun c => decide (c < 0x110000)) = true := h
  rw [← Array.all_toList, List.all_eq_true] at h
  intro c hc
  simpa using h c hc
theorem ok_std : ∀ s ∈ stdL, PyData.strOk s = true := by decide +kernel
theorem ok_deed : ∀ s ∈ deedL, PyData.strOk s = true := by decide +kernel
theorem ok_ent {s d q : Str} (hs : PyData.strOk s = true) (hd : PyData.strOk d = true) (hq : PyData.strOk q = true) : PyData.strOk (entOf s d q) = true := by
  refine ok_cd fun c hc => ?_
  rw [cd_ent] at hc
  rcases mem_joinL hc with rfl | ⟨p, hp, h⟩
  · decide
  · simp at hp
    rcases hp with rfl | rfl | rfl
    · exact cd_ok hs c h
    · exact cd_ok hd c h
    · exact cd_ok hq c h
theorem ok_said {q : Str} {W : List Str} (h : SaidAs q W) : PyData.strOk q = true := by
  rcases h.2.2 with e | e
  · rw [e.1]; decide +kernel
  · refine ok_cd fun c hc => ?_
    rw [e, cd_listed] at hc
    rcases mem_joinL hc with rfl | ⟨p, hp, hc⟩
    · decide
    · obtain ⟨w, hw, rfl⟩ := List.mem_map.mp hp
      exact cd_ok (ok_rel w (h.2.1 w hw)) c hc
theorem ok_lines {es : List Str} : ∀ p ∈ linesOf es, PyData.strOk p = true := fun p hp => by
  obtain ⟨s, hs, d, hd, q, rfl, h⟩ := line_said hp
  exact ok_ent (ok_std s hs) (ok_deed d hd) (ok_said h)
theorem splA_len {c : Nat} : ∀ {p acc : List Nat}, (splA c acc p).length ≤ p.length + 1
  | [], acc => by simp [splA]
  | x :: r, acc => by
    rw [splA]
    split
    · have := splA_len (c := c) (p := r) (acc := []); simp; omega
    · have := splA_len (c := c) (p := r) (acc := acc ++ [x]); simp; omega
theorem split_len1 {c : Nat} (h : c < 256) (s : Str) : (Txt.split s (mk [c])).length ≤ s.length + 1 := by
  rw [split_one h, List.length_map, ← cd_len s]; exact splA_len
/-- texts turned into bools -/
def tbS (q : Str → Bool) : D → Option D := fun d => match d with | .str s => some (.bl (q s)) | _ => none
theorem fm_tb (q : Str → Bool) : ∀ (ls : List Str), (ls.map D.str).filterMap (tbS q) = (ls.map q).map .bl
  | [] => rfl
  | s :: r => by
    rw [List.map_cons, List.filterMap_cons_some (f := tbS q) (b := .bl (q s)) rfl, fm_tb q r]; rfl
theorem comp_tbs {g : TDG} {te : TDE} {p : Addr} {ρ0 : DR} {Q : Mu → Prop} (q : Str → Bool) {μ : Mu} {ls : List Str} (hl : ls.length ≤ 10000000)
    (hc : ∀ s ∈ ls, ∀ (acc : List D) (N : Mu → Prop), acc.length ≤ 16000000 → N (mup μ p (.lst (acc ++ [.bl (q s)]))) →
      g (.str s) ρ0 (mup μ p (.lst acc)) fun ρ2 μ2 => te ρ2 μ2 fun d μ4 => ∃ acc, μ4 p = some (.lst acc) ∧ acc.length < sizeLine ∧ N (mup μ4 p (.lst (acc ++ [d]))))
    (h : Q (mup μ p (.lst ((ls.map q).map .bl)))) : compL g dYes te p ρ0 Q (ls.map .str) (mup μ p (.lst [])) := by
  refine comp_fm (tbS q) (by simp; omega) (fun x hx acc N ha hN => ?_) ?_
  · obtain ⟨s, hs, rfl⟩ := List.mem_map.mp hx
    simp only [dYes_p, if_true]
    exact hc s hs acc N ha hN
  · rw [fm_tb]; simpa using h
theorem cmp_strs {g : TDG} {tt : TDT} {c : DCB} {ρ0 : DR} {N : Mu → Prop} {p : Addr} {μ : Mu} (f : Str → List Str) : ∀ {ls : List Str} {acc : List D},
    (hc : ∀ s ∈ ls, ∀ (acc : List D) (N1 : Mu → Prop), N1 (mup μ p (.lst (acc ++ (f s).map .str))) → acc.length + (f s).length ≤ 16000000 → g (.str s) ρ0 (mup μ p (.lst acc)) fun ρ2 μ2 => tt ρ2 μ2 fun b μ3 => if b = true then c ρ2 μ3 N1 else N1 μ3) →
    (hl : acc.length + (ls.flatMap f).length ≤ 16000000) → N (mup μ p (.lst (acc ++ (ls.flatMap f).map .str))) → cmpL g tt c ρ0 N (ls.map .str) (mup μ p (.lst acc))
  | [], acc, _, _, q => by simpa using q
  | x :: r, acc, hc, hl, q => by
    rw [List.flatMap_cons, List.length_append] at hl
    rw [List.map_cons, cmpL_c]
    refine hc x (by simp) acc _ ?_ (by omega)
    refine cmp_strs f (fun y hy => hc y (List.mem_cons_of_mem _ hy)) (by rw [List.length_append, List.length_map]; omega) ?_
    rw [List.flatMap_cons, List.map_append, ← List.append_assoc] at q
    exact q
theorem wr1_len {s : Str} {T W : List Str} : (T.flatMap fun d => W.map fun w => entOf s d w).length = T.length * W.length := flatMap_len fun d _ => by simp
theorem ent_emp (s d w : Str) : Str.empty ++ s ++ " " ++ d ++ " " ++ w = entOf s d w := by
  unfold entOf; rw [empty_app]
theorem fm_one {α β : Type} {f : α → β} : ∀ {l : List α}, (l.flatMap fun x => [f x]) = l.map f
  | [] => rfl
  | x :: r => by rw [List.flatMap_cons, fm_one]; rfl
theorem splA_part {c : Nat} : ∀ {p acc q : List Nat}, q ∈ splA c acc p → q.length ≤ acc.length + p.length
  | [], acc, q, h => by simp [splA] at h; subst h; simp
  | x :: r, acc, q, h => by
    rw [splA] at h
    split at h
    · rcases List.mem_cons.mp h with rfl | h
      · simp
      · have := splA_part h; simp at this ⊢; omega
    · have := splA_part h; simp at this ⊢; omega
theorem split_part {c : Nat} (h : c < 256) {s q : Str} (hq : q ∈ Txt.split s (mk [c])) : q.length ≤ s.length := by
  rw [split_one h] at hq
  obtain ⟨l, hl, rfl⟩ := List.mem_map.mp hq
  have := splA_part hl
  rw [← cd_len s, ← cd_len (mk l), cd_mk]; simpa using this
theorem sel_step {d es a : List Str} {s : Str} (h : expandE s = some a) (he : ∀ e, e ∈ es ↔ e ∈ selE (uniE d)) : selE (es ++ a) = selE (uniE (d ++ [s])) := by
  refine selE_congr fun e hh => ?_
  rw [List.mem_append, he, mem_selE]
  unfold uniE
  rw [List.flatMap_append]
  simp [h, hh]
theorem join_small {ls : List Str} (h : ∀ p ∈ ls, LineOk p) : (Txt.join "\n" ls).length ≤ ls.length * 301 := by
  rw [nl_lit, joinS, ← cd_len, cd_mk]
  have := joinL_len (c := 10) (n := 300) (ps := ls.map cd) fun p hp => by
    obtain ⟨w, hw, rfl⟩ := List.mem_map.mp hp
    rw [cd_len]; exact (h w hw).len
  simpa using this
theorem join_empty {ls : List Str} (h : ∀ p ∈ ls, LineOk p) : Txt.join "\n" ls = "" ↔ ls = [] := by
  constructor
  · intro e
    cases ls with
    | nil => rfl
    | cons p r =>
      exfalso
      have hp := (h p (by simp)).ne
      rw [nl_lit, joinS] at e
      have e2 : cd (mk (joinL 10 ((p :: r).map cd))) = cd "" := by rw [e]
      have e3 : cd ("" : Str) = [] := by decide +kernel
      rw [cd_mk, e3] at e2
      have hpc : cd p = [] := by
        cases r with
        | nil => simpa [joinL] using e2
        | cons q r => simp [joinL] at e2
      apply hp
      rw [← mk_cd p, hpc]; decide +kernel
  · rintro rfl; decide +kernel
theorem uni_nil : selE (uniE []) = [] := by unfold uniE selE; simp
/-! ### live entries -/
def liveW (es : List Str) (s d w : Str) : Bool :=
  if d ∈ strongL then decide (entOf s "reserve" w ∈ es) || (decide (s ≠ "reserved") && decide (entOf "reserved" "lend" (invS w) ∈ es))
  else if s = "reserved" ∧ d = "reserve" then strongL.any fun t => decide (entOf "reserved" t w ∈ es) else true
def liveB (es : List Str) (e : Str) : Bool := match Txt.split e " " with | [s, d, w] => liveW es s d w | _ => true
def liveE (es : List Str) : List Str := es.filter fun e => liveB es e
theorem liveB_ent {es : List Str} {s d w : Str} (hs : s ∈ stdL) (hd : d ∈ deedL) (hw : w ∈ relL) : liveB es (entOf s d w) = liveW es s d w := by
  unfold liveB; rw [split3 (wd_std s hs).1 (wd_deed d hd).1 (wd_rel w hw).1]
theorem live_tab {es : List Str} (h : Tab es) : Tab (liveE es) := h.filter _
theorem live_sub {es : List Str} {e : Str} (h : e ∈ liveE es) : e ∈ es := (List.mem_filter.mp h).1
theorem live_congr {a b : List Str} (h : ∀ e, e ∈ a ↔ e ∈ b) {e : Str} : liveB a e = liveB b e := by
  unfold liveB liveW
  simp only [h]
theorem inv_rel {w : Str} (h : w ∈ relL) : invS w ∈ relL := by
  simp only [relL, List.mem_cons, List.not_mem_nil, or_false] at h ⊢
  rcases h with rfl | rfl | rfl | rfl | rfl <;> decide +kernel
theorem ent_lit1 (s w : Str) : s ++ " reserve " ++ w = entOf s "reserve" w := by
  unfold entOf
  have h : (" " : Str) ++ "reserve" ++ " " = " reserve " := by decide +kernel
  rw [← h, ← app_assoc, ← app_assoc]
theorem ent_lit2 (y : Str) : "reserved lend " ++ y = entOf "reserved" "lend" y := by
  unfold entOf
  rw [show ("reserved" : Str) ++ " " ++ "lend" ++ " " = "reserved lend " by decide +kernel]
theorem ent_lit3 (t w : Str) : "reserved " ++ t ++ " " ++ w = entOf "reserved" t w := by
  unfold entOf
  rw [show ("reserved" : Str) ++ " " = "reserved " by decide +kernel]
theorem wd_strong : ∀ s ∈ strongL, Wd s := by decide +kernel
end DL

/-! PT: tuple(x). -/
namespace DL
open PySem PySem.Spec PyProof.Rows L2
section
variable {X : Cx} {B : Gh} {pos : Pos}
def cTuple : RCD := fun ds μ Q => match ds with
  | [x] => seqS (vw μ x) fun xs => Q (.tup xs) μ
  | _ => False
@[simp ↓] theorem cTuple_p {x : D} {μ : Mu} {Q : QD} : cTuple [x] μ Q = (seqS (vw μ x) fun xs => Q (.tup xs) μ) := id rfl
def rTuple (K : PySem.W.Frag) : List V → Hp → VK → Prop := fun xs H Q => ∃ x, xs = [x] ∧ kTup K x H Q
theorem vw_tup' {μ : Mu} {x : D} {xs : List D} (h : vw μ x = .tup xs) : x = .tup xs := by
  cases x <;> first | (simp [vw] at h; done) | skip
  · simpa [vw] using h
  · next a =>
    rw [vw_pd] at h
    cases e : μ a with
    | none => rw [e] at h; simp at h
    | some c => rw [e] at h; cases c <;> simp at h
theorem dc_tuple : CallR X (.type "tuple") (rTuple X.K) ∧ RefC X.K B cTuple (rTuple X.K) := by
  refine ⟨?_, ?_⟩
  · intro pins s σ H xs us Q I r h
    obtain ⟨x, rfl, h⟩ := h
    obtain ⟨u, rfl, rx⟩ := vals1 r
    exact rl_tuple pins s σ H x u Q I rx h
  · intro ρ μ σ H G vs ds Q Qn S r h hd
    unfold cTuple at h
    split at h
    · next x =>
      obtain ⟨v, rfl, rv⟩ := reps1 r
      refine ⟨v, rfl, ?_⟩
      cases e : vw μ x with
      | lst xs =>
        rw [e] at h
        obtain ⟨a, ws, rfl, h1, rr⟩ := S.hold.lst rv e
        refine .inl ⟨a, ws, rfl, SqL.of h1, fun q n => ?_⟩
        have hn := S.hold.free n
        have g : Gle G (G.frz q (.tup ws)) := Gle.frz hn.1
        exact hd _ _ _ _ _ g ⟨S.hold.new n, S.env.mono g⟩ (.tup (.inl (.inl (show upd G.fr q (.tup ws) q = some (.tup ws) from upd_same))) rr.1 fun i v d a b => (rr.2 i v d a b).mono g) h
      | tup xs =>
        rw [e] at h
        obtain ⟨a, ws, rfl, h1, rr⟩ := S.hold.tup rv e
        refine .inr ⟨a, ws, rfl, h1, ?_⟩
        have := vw_tup' e
        subst this
        exact hd _ _ _ _ _ (Gle.refl G) S rv h
      | _ => rw [e] at h; exact False.elim h
    · exact h.elim
end
theorem comp_all {g : TDG} {te : TDE} {p : Addr} {ρ0 : DR} {Q : Mu → Prop} {μ : Mu} (R : D → Prop) : ∀ {xs acc : List D}, (hl : acc.length + xs.length ≤ 16000000) →
    (hc : ∀ x ∈ xs, ∀ (acc : List D) (N : Mu → Prop), acc.length ≤ 16000000 → (∀ d, R d → N (mup μ p (.lst (acc ++ [d])))) →
      g x ρ0 (mup μ p (.lst acc)) fun ρ2 μ2 => te ρ2 μ2 fun d μ4 => ∃ acc, μ4 p = some (.lst acc) ∧ acc.length < sizeLine ∧ N (mup μ4 p (.lst (acc ++ [d])))) →
    (∀ ds : List D, ds.length = xs.length → (∀ d ∈ ds, R d) → Q (mup μ p (.lst (acc ++ ds)))) → compL g dYes te p ρ0 Q xs (mup μ p (.lst acc))
  | [], acc, _, _, q => by
    have := q [] rfl (by simp)
    rwa [List.append_nil] at this
  | x :: r, acc, hl, hc, q => by
    simp only [List.length_cons] at hl
    rw [compL_cons]
    simp only [dYes_p, if_true]
    refine hc x (by simp) _ _ (by omega) fun d hd => ?_
    exact comp_all (Q := Q) R (xs := r) (acc := acc ++ [d]) (by simp; omega) (fun y hy => hc y (List.mem_cons_of_mem _ hy)) (fun ds h h1 => by
      rw [List.append_assoc]
      refine q ([d] ++ ds) (by simp [h]) fun u hu => ?_
      rcases List.mem_cons.mp hu with rfl | hu
      · exact hd
      · exact h1 u hu)
/-- some of the texts, in their order -/
theorem comp_sub {g : TDG} {tt : TDT} {te : TDE} {p : Addr} {ρ0 : DR} {Q : Mu → Prop} {μ : Mu} : ∀ {ls acc : List Str}, (hl : acc.length + ls.length ≤ 16000000) →
    (hc : ∀ s ∈ ls, ∀ (acc : List D) (N : Mu → Prop), acc.length ≤ 16000000 → N (mup μ p (.lst (acc ++ [.str s]))) → N (mup μ p (.lst acc)) →
      g (.str s) ρ0 (mup μ p (.lst acc)) fun ρ2 μ2 => tt ρ2 μ2 fun b μ3 => if b = true then te ρ2 μ3 fun d μ4 => ∃ acc, μ4 p = some (.lst acc) ∧ acc.length < sizeLine ∧ N (mup μ4 p (.lst (acc ++ [d]))) else N μ3) →
    (∀ ss : List Str, ss.Sublist ls → Q (mup μ p (.lst ((acc ++ ss).map .str)))) → compL g tt te p ρ0 Q (ls.map .str) (mup μ p (.lst (acc.map .str)))
  | [], acc, _, _, q => by
    have := q [] (List.Sublist.refl _)
    rwa [List.append_nil] at this
  | x :: r, acc, hl, hc, q => by
    simp only [List.length_cons] at hl
    rw [List.map_cons, compL_cons]
    refine hc x (by simp) _ _ (by simp; omega) ?_ ?_
    · have := comp_sub (Q := Q) (ls := r) (acc := acc ++ [x]) (by simp; omega) (fun y hy => hc y (List.mem_cons_of_mem _ hy)) (fun ss h => by
        rw [List.append_assoc]; exact q ([x] ++ ss) (h.cons_cons x))
      rwa [List.map_append] at this
    · exact comp_sub (Q := Q) (ls := r) (acc := acc) (by omega) (fun y hy => hc y (List.mem_cons_of_mem _ hy)) (fun ss h => q ss (h.cons x))
theorem Tab.sub {es ss : List Str} (h : Tab es) (s : ss.Sublist es) : Tab ss := by
  have h1 : es.Sublist allE := by rw [← show selE es = es from h]; exact List.filter_sublist
  exact sub_filter (s.trans h1) allE_nodup
def nearB (w e : Str) : Bool := match Txt.split e " " with | [_, _, v] => decide (v = w ∨ v = invS w) | _ => false
theorem near_ent {w s d v : Str} (hs : s ∈ stdL) (hd : d ∈ deedL) (hv : v ∈ relL) : nearB w (entOf s d v) = decide (v = w ∨ v = invS w) := by
  unfold nearB; rw [split3 (wd_std s hs).1 (wd_deed d hd).1 (wd_rel v hv).1]
theorem near_pos {w : Str} (hw : w ∈ relL) : 0 < (allE.filter fun e => nearB w e).length := by
  refine List.length_pos_iff.mpr fun e => ?_
  have h : entOf "look" "see" w ∈ allE.filter fun e => nearB w e := List.mem_filter.mpr ⟨ent_in (by simp) (by simp) hw, by rw [near_ent (by simp) (by simp) hw]; simp⟩
  rw [e] at h; cases h
/-! ### live: up -/
theorem live_up {a b : List Str} (h : ∀ e ∈ liveE a, e ∈ b) (ha : ∀ e ∈ a, e ∈ allE) : ∀ e ∈ liveE a, e ∈ liveE b := by
  intro e he
  have heb := h e he
  obtain ⟨hea, hl⟩ := List.mem_filter.mp he
  refine List.mem_filter.mpr ⟨heb, ?_⟩
  obtain ⟨s, hs, d, hd, w, hw, rfl⟩ := ent_of (ha e hea)
  rw [liveB_ent hs hd hw] at hl ⊢
  have lv : ∀ {s d w : Str}, s ∈ stdL → d ∈ deedL → w ∈ relL → entOf s d w ∈ a → liveW a s d w = true → entOf s d w ∈ b := fun h1 h2 h3 h4 h5 => h _ (List.mem_filter.mpr ⟨h4, by rw [liveB_ent h1 h2 h3]; exact h5⟩)
  have hrs : ("reserve" : Str) ∈ deedL := by simp
  have hns : ("reserve" : Str) ∉ strongL := by decide +kernel
  have hnl : ("lend" : Str) ∉ strongL := by decide +kernel
  have hlr : ("lend" : Str) ≠ "reserve" := by decide +kernel
  unfold liveW at hl ⊢
  split at hl
  · next hst =>
    rw [if_pos hst]
    simp only [Bool.or_eq_true, Bool.and_eq_true, decide_eq_true_eq] at hl ⊢
    rcases hl with h1 | ⟨h1, h2⟩
    · left
      refine lv hs hrs hw h1 ?_
      unfold liveW
      rw [if_neg hns]
      by_cases hsr : s = "reserved"
      · rw [if_pos ⟨hsr, rfl⟩, List.any_eq_true]
        exact ⟨d, hst, by subst hsr; simpa using hea⟩
      · rw [if_neg (fun c => hsr c.1)]
    · right
      refine ⟨h1, lv (by simp) (by simp) (inv_rel hw) h2 ?_⟩
      unfold liveW
      rw [if_neg hnl, if_neg (fun c => hlr c.2)]
  · next hst =>
    rw [if_neg hst]
    split at hl
    · next h1 =>
      rw [if_pos h1]
      obtain ⟨rfl, rfl⟩ := h1
      rw [List.any_eq_true] at hl ⊢
      obtain ⟨t, ht, htw⟩ := hl
      have htw : entOf "reserved" t w ∈ a := by simpa using htw
      refine ⟨t, ht, ?_⟩
      have htd : t ∈ deedL := by
        simp only [strongL, List.mem_cons, List.not_mem_nil, or_false] at ht
        rcases ht with rfl | rfl | rfl | rfl <;> simp
      have := lv hs htd hw htw (by unfold liveW; rw [if_pos ht]; simp [hea])
      simpa using this
    · next h1 => rw [if_neg h1]
def leqE (es fs : List Str) : Prop := ∀ e ∈ liveE es, e ∈ fs
theorem leq_trans {a b c : List Str} (ha : ∀ e ∈ a, e ∈ allE) (h1 : leqE a b) (h2 : leqE b c) : leqE a c := fun e he => h2 e (live_up h1 ha e he)
theorem leq_refl (a : List Str) : leqE a a := fun e he => live_sub he
/-- lists of rows -/
theorem pyL_lsts : ∀ L : List (List Str), pyL (L.map fun l => .lst (l.map .str)) = some (L.map fun l => .list (l.map .str))
  | [] => rfl
  | l :: r => by
    rw [List.map_cons, pyL, pyL_lsts r]
    simp [py, pyL_strs]
theorem depth_lsts : ∀ L : List (List Str), PyData.depthAll (L.map fun l => .list (l.map .str)) ≤ 1
  | [] => by simp [PyData.depthAll]
  | l :: r => by
    have := depth_lsts r
    rw [List.map_cons, PyData.depthAll, PyData.depth, depth_strs]; omega
theorem lay_lsts : ∀ L : List (List Str), (∀ l ∈ L, ∀ s ∈ l, PyData.strOk s = true) → PyData.canLayAll0 (L.map fun l => .list (l.map .str)) = true
  | [], _ => rfl
  | l :: r, h => by
    rw [List.map_cons, PyData.canLayAll0, PyData.canLay0, lay_strs l (h l (by simp)), lay_lsts r fun y hy => h y (List.mem_cons_of_mem _ hy)]; rfl
theorem shaped_lsts {L : List (List Str)} (h : ∀ l ∈ L, ∀ s ∈ l, PyData.strOk s = true) : SeqAt.shaped (.list (L.map fun l => .list (l.map .str))) = true := by
  unfold SeqAt.shaped
  have := depth_lsts L
  rw [PyData.canLay0, PyData.depth, lay_lsts L h]
  simp; omega
theorem eqv_lsts_nil (L : List (List Str)) : PyData.eqvAll (L.map fun l => .list (l.map .str)) [] = decide (L = []) := by cases L <;> rfl
end DL

/-! PU: defs of the module with a star parameter. -/
namespace DL
open PySem PySem.Spec PyProof.Rows L2
theorem bind_star0 {B : List Value → Sem (List (Str × Value))} {pv : Str} (h0 : B [] = (newTuple [] >>= fun t => pure [(pv, t)])) (h1 : ∀ r rs, B (r :: rs) = (newTuple (r :: rs) >>= fun t => pure [(pv, t)])) :
    ∀ us rest : List Value, us.length = ([] : List Str).length → B (us ++ rest) = (newTuple rest >>= fun t => pure (([] : List Str).zip us ++ [(pv, t)]))
  | [], [], _ => h0
  | [], r :: rs, _ => h1 r rs
section
variable {P : Program} {w : World} {K : PySem.W.Frag} {mg : Str → Option Value} {base : Heap}
theorem fn_okV0 {x pv : Str} {st : Stmt} {f : Addr} {fd : FuncData} {N : List Str} {k : Nat} {S : DSp} (F : Fun K x x st f fd) (SC : FnScope N [pv] (defScope st))
    (h0 : ∀ (kV doc pm : Value) (an : Option Addr) (cdv ct : Value), bindArgs (PySem.W.fnOf x x (defArgs st) (defBody st) (defScope st) .none kV doc pm an cdv ct) ⟨[], []⟩ = (newTuple [] >>= fun t => pure [(pv, t)]))
    (h1 : ∀ (kV doc pm : Value) (an : Option Addr) (cdv ct : Value) (r : Value) (rs : List Value), bindArgs (PySem.W.fnOf x x (defArgs st) (defBody st) (defScope st) .none kV doc pm an cdv ct) ⟨r :: rs, []⟩ = (newTuple (r :: rs) >>= fun t => pure [(pv, t)]))
    (len : ∀ ds μ Q E, S ds μ Q E → ds.length = 1)
    (hb : ∀ (B : Gh) (cdv : Value) (A : Around) (outer : List Env) (s : Shared) (H : Hp) (E : XK), Room k (A.deeper (envOfC x (defScope st) s.heap.objs.size f cdv)) →
      ∃ t T, DSs (cxOf CX0 P w K mg base N x (defScope st) f cdv A outer s H E).nox B (defBody st) t T ∧ ∀ ds μ Q EE, S ds μ Q EE → T { nx := fun _ μ' => Fg (Q .non) μ', rt := fun d μ' => Fg (Q d) μ' } (startD N ds) μ) : FnR P w K mg base CX0 (k + 1) f (toSp K (varS0 S)) := by
  obtain ⟨oc, od, kV, doc, pm, an, cdv, ct, osl, rfl, lk, hcd⟩ := F.ex
  have A1 := StX.fn_star (P := P) (w := w) (mg := mg) (base := base) (k := k) (ps := []) (pv := pv) (sp := toSp K S) lk hcd SC StX.cxUp_none (bind_star0 (B := fun us => bindArgs _ ⟨us, []⟩) (h0 kV doc pm an cdv ct) (h1 kV doc pm an cdv ct)) fun A outer s H vs Q E hr ⟨G, ds, μ, QQ, EE, hh, r, sp, q, _⟩ => by
    obtain ⟨t, T, h, b⟩ := hb G cdv A outer s H E hr
    refine ⟨t, h.pss.nox, h.ref (startD N ds) μ (start N vs) H G _ _ ⟨hh, envr_start N r (Gle.refl G)⟩ (b ds μ QQ EE sp) ⟨?_, ?_, ?_, ?_⟩⟩
    · exact fun ρ' μ' σ' H' G' g S' ⟨μ0, s0, z⟩ => q .non μ0 .non H' G' g (S'.hold.sub s0) .non z
    · exact fun d μ' v H' G' g S' rv ⟨μ0, s0, z⟩ => q d μ0 v H' G' g (S'.sub s0) rv z
    · exact fun _ _ _ _ _ _ _ z => z.elim
    · exact fun _ _ _ _ _ _ _ z => z.elim
  refine A1.imp fun vs H Q E ⟨G, ds, μ, QQ, EE, hh, r, ⟨l, sp⟩, q, qe⟩ => ?_
  refine ⟨[], vs, rfl, rfl, by rw [r.1]; exact l, fun p hp => ?_⟩
  have hn := hh.free hp
  have g : Gle G (G.frz p (.tup vs)) := Gle.frz hn.1
  exact ⟨G.frz p (.tup vs), [.tup ds], μ, QQ, EE, hh.new hp, Reps.one (.tup (.inl (.inl (show upd G.fr p (.tup vs) p = some (.tup vs) from upd_same))) r.1 fun i v d a b => (r.2 i v d a b).mono g), sp,
    fun d μ' v H' G' g' => q d μ' v H' G' (g.trans g'), fun cls fs μ' od H' G' g' => qe cls fs μ' od H' G' (g.trans g')⟩
end
def CalledV (P : Program) (w : World) (K : PySem.W.Frag) (mg : Str → Option Value) (base : Heap) (k : Nat) (x : Str) (S : DSp) : Prop :=
  ∃ f, mg x = some (.ref f) ∧ PySem.W.keepIn K (.ref f) = true ∧ FnR P w K mg base CX0 k f (toSp K (varS0 S))
structure DefV (K : PySem.W.Frag) (mg : Str → Option Value) (x : Str) (st : Stmt) (f : Addr) (fd : FuncData) : Prop where
  F : Fun K x x st f fd
  m : mg x = some (.ref f)
theorem DefV.called {P : Program} {w : World} {K : PySem.W.Frag} {mg : Str → Option Value} {base : Heap} {k : Nat} {x : Str} {st : Stmt} {f : Addr} {fd : FuncData} {S : DSp} (D : DefV K mg x st f fd) (F : FnR P w K mg base CX0 k f (toSp K (varS0 S))) : CalledV P w K mg base k x S := ⟨f, D.m, D.F.kp, F⟩
section
variable {X : Cx} {pos : Pos} {f : Addr} {k : Nat} {S : DSp} {x : Str} {p : Pos} {e : Expr} {es : List Expr} {t : TA} {T : TDA} {te : TE} {Te : TDE} {B : Gh}
def dCallR (S : DSp) (T : TDA) : TDE := fun ρ μ Q => T ρ μ fun ds μ1 => ds.length ≤ sizeLine ∧ S [.tup ds] μ1 Q noX
@[simp ↓] theorem dCallR_p {ρ} {μ} {Q} : dCallR S T ρ μ Q = (T ρ μ fun ds μ1 => ds.length ≤ sizeLine ∧ S [.tup ds] μ1 Q noX) := id rfl
def tCallR (sp : Sp) (t : TA) : TE := fun σ H Q => t σ H fun vs H1 => sp vs H1 Q E0
theorem ref_callR {K : PySem.W.Frag} (ha : RefA K B T t) : RefE K B (dCallR S T) (tCallR (toSp K (varS0 S)) t) := fun ρ μ σ H G Q Qn S0 q hd => ha ρ μ σ H G _ _ S0 q fun ds μ1 vs H1 G1 g1 S1 r1 q1 => sp_to (S := varS0 S) S1 r1 q1 (hd.mono g1)
theorem de_callR (F : FnR X.prog X.w X.K X.mg X.base CX0 k f (toSp X.K (varS0 S))) (hr : Room k X.A) (hm : X.mg x = some (.ref f)) (hk : PySem.W.keepIn X.K (.ref f) = true) (ha : DA X B (e :: es) t T) (hg : Gl X x := by rfl)
    (hdb : (x == ("__debug__" : Str)) = false := by decide) (he : starEach (e :: es) X.env = (false, eval e X.env) :: starEach es X.env := by rfl) (hpl : (backTo pos (starEach es X.env)).any (·.1) = false := by rfl) :
    DE X B (.Call (.Name x p) (e :: es) [] pos) (tCallR (toSp X.K (varS0 S)) t) (dCallR S T) :=
  ⟨⟨fun pins s σ H Q I h => by
      refine wpAny_Call_Name_kw (ld_glob I hg hm ?_ hdb)
      refine PySem.W.callWith_K (h₀ := X.base) I.ok.mod.kin hk (thn (ha.pa.run pos pins s σ H _ I h) fun us s1 ⟨vs, H1, I1, r, q⟩ => ⟨I1.kIn, ?_⟩) he hpl
      exact wpAny_call (run_fnR F hr pass0 I1 r q)⟩, ref_callR ha.ref⟩
theorem de_callR0 (F : FnR X.prog X.w X.K X.mg X.base CX0 k f (toSp X.K (varS0 S))) (hr : Room k X.A) (hm : X.mg x = some (.ref f)) (hk : PySem.W.keepIn X.K (.ref f) = true) (hg : Gl X x := by rfl) (hdb : (x == ("__debug__" : Str)) = false := by decide) :
    DE X B (.Call (.Name x p) [] [] pos) (tCallR (toSp X.K (varS0 S)) tNil) (dCallR S dNil) :=
  ⟨⟨fun pins s σ H Q I h => by
      refine wpAny_Call_Name_kw (ld_glob I hg hm ?_ hdb)
      exact PySem.W.callWith_K0 I.kIn hk (wpAny_call (run_fnR (us := []) F hr pass0 I .nil h))⟩, ref_callR da_nil.ref⟩
end
end DL

/-! PV: x in o, o[i] of an own class. -/
namespace DL
open PySem PySem.Spec PyProof.Rows L2
section
variable {X : Cx} {pins : List (Addr × Obj)} {σ : L2.St} {H : Hp} {s : Shared} {a C dx g : Addr} {fs : List (Str × V)} {n k : Nat} {sp : Sp} {Ex : XK} {CX : CXT}
/-- x in o -/
def rContO (C : Addr) (neg : Bool) (sp : Sp) (Ex : XK) : R2 := fun x y H Q => ∃ a dx fs, y = .ref a ∧ H a = some (.ins C dx fs) ∧ sp [y, x] H (fun z H' => ∃ b, z = .bl b ∧ Q (.bl (neg ^^ b)) H') Ex
theorem op_contO (o : OpAt X.K C "__contains__" g) (F : FnR X.prog X.w X.K X.mg X.base CX k g sp) (hr : Room k X.A) (hx : Passes CX X Ex) : OpR X (compareOp .In) (rContO C false sp Ex) := by
  intro pins s σ H x y v u Q I rx ry h
  obtain ⟨a, dx, fs, rfl, ha, q⟩ := h
  cases (show u = Value.ref a from ry)
  obtain ⟨ox, od, J⟩ := ins_at I ha
  obtain ⟨m, hF⟩ := I.fr
  refine PySem.W.in_K hF I.ok.mod.kin J o.at_ o.fn ?_
  refine wpAny_mono (run_below (us := [.ref a, v]) (ws := [.ref a, x]) F hr I.env0 hx I (.cons rfl (.cons rx .nil)) q) (fun w s' z => ?_) fun _ _ x => x
  obtain ⟨z', H', I', rz, b, eb, qz⟩ := z
  subst eb
  cases (show w = Value.bool b from rz)
  refine wpAny_truthy_bool ⟨.bl b, H', I', rfl, ?_⟩
  simpa using qz
theorem op_ncontO (o : OpAt X.K C "__contains__" g) (F : FnR X.prog X.w X.K X.mg X.base CX k g sp) (hr : Room k X.A) (hx : Passes CX X Ex) : OpR X (compareOp .NotIn) (rContO C true sp Ex) := by
  intro pins s σ H x y v u Q I rx ry h
  obtain ⟨a, dx, fs, rfl, ha, q⟩ := h
  cases (show u = Value.ref a from ry)
  obtain ⟨ox, od, J⟩ := ins_at I ha
  obtain ⟨m, hF⟩ := I.fr
  refine PySem.W.notIn_K hF I.ok.mod.kin J o.at_ o.fn ?_
  refine wpAny_mono (run_below (us := [.ref a, v]) (ws := [.ref a, x]) F hr I.env0 hx I (.cons rfl (.cons rx .nil)) q) (fun w s' z => ?_) fun _ _ x => x
  obtain ⟨z', H', I', rz, b, eb, qz⟩ := z
  subst eb
  cases (show w = Value.bool b from rz)
  refine wpAny_truthy_bool ⟨.bl (!b), H', I', rfl, ?_⟩
  simpa using qz
/-- o[i] -/
def rGetO (C : Addr) (sp : Sp) (Ex : XK) : R2 := fun x y H Q => ∃ a dx fs, x = .ref a ∧ H a = some (.ins C dx fs) ∧ sp [x, y] H Q Ex
def PlainIx2 (b : Expr) : Prop := ∀ o i, subscripted b true o i = runValue (.builtin "lifetime.subscript" ⟨[o, i], []⟩)
theorem ix_getO (o : OpAt X.K C "__getitem__" g) (hfn : PySem.W.fnIn X.K g = true) (F : FnR X.prog X.w X.K X.mg X.base CX k g sp) (hr : Room (k + 1) X.A) (hx : Passes CX X Ex) {value slice : Expr} (hs : PlainIx2 slice) {x y : V} {v u : Value} {Q : VK} (I : Inv X pins σ H s) (rx : RelV x v) (ry : RelV y u) (h : rGetO C sp Ex x y H Q) :
    wpAny (model X.prog X.w) X.A (subscriptTail value slice v u) (EP X pins σ Q) X.xe s := by
  obtain ⟨a, dx, fs, rfl, ha, q⟩ := h
  cases (show v = Value.ref a from rx)
  obtain ⟨ox, od, J⟩ := ins_at I ha
  obtain ⟨m, hF⟩ := I.fr
  refine PySem.W.sub_K hF I.ok.mod.kin J o.at_ hfn o.fn ?_ (hs _ _)
  exact run_below (us := [.ref a, u]) (ws := [.ref a, y]) F hr.in1 I.env0.in1 hx I (.cons rfl (.cons ry .nil)) q
theorem pe_getO {value slice : Expr} {pos : Pos} {ta tb : TE} (o : OpAt X.K C "__getitem__" g) (hfn : PySem.W.fnIn X.K g = true) (F : FnR X.prog X.w X.K X.mg X.base CX k g sp) (hr : Room (k + 1) X.A) (hx : Passes CX X Ex) (ha : PE X value ta) (hb : PE X slice tb) (hs : PlainIx2 slice) : PE X (.Subscript value slice pos) (tOp (rGetO C sp Ex) ta tb) := by
  refine ⟨fun pins s σ H Q I h => ?_⟩
  exact Subscript_ (binT ha hb I h fun v u s2 x y H2 I2 rx ry q => ix_getO o hfn F hr hx hs I2 rx ry q)
end
section
variable {X : Cx} {B : Gh} {pos : Pos} {C g : Addr} {k : Nat} {S : DSp}
def opContO (C : Addr) (neg : Bool) (S : DSp) : R2D := fun x y μ Q => oF C (vw μ y) fun _ => S [y, x] μ (fun v μ' => match v with | .bl b => Q (.bl (neg ^^ b)) μ' | _ => False) noX
@[simp ↓] theorem opContO_p {neg : Bool} {x y : D} {μ : Mu} {Q : QD} : opContO C neg S x y μ Q = (oF C (vw μ y) fun _ => S [y, x] μ (fun v μ' => match v with | .bl b => Q (.bl (neg ^^ b)) μ' | _ => False) noX) := id rfl
theorem ref_contO {neg : Bool} : Ref2 X.K B (opContO C neg S) (rContO C neg (toSp X.K S) E0) := by
  intro ρ μ σ H G x y dx dy Q Qn S0 r1 r2 h hd
  obtain ⟨a, dx', vs, fs, rfl, h1, rr, _, q⟩ := oF_go h S0.hold r2
  refine ⟨a, dx', vs, rfl, h1, sp_toQ S0.hold (Reps.cons r2 (Reps.one r1)) q fun d' μ' v' H' G' g' h' r' q' => ?_⟩
  cases d' with
  | bl b => exact ⟨b, r'.ofBl, hd (.bl _) μ' _ H' G' g' ⟨h', S0.env.mono g'⟩ (.bl _) q'⟩
  | _ => exact False.elim q'
theorem do_contO (o : OpAt X.K C "__contains__" g) (F : FnR X.prog X.w X.K X.mg X.base CX0 k g (toSp X.K S)) (hr : Room k X.A) : OpR X (compareOp .In) (rContO C false (toSp X.K S) E0) ∧ Ref2 X.K B (opContO C false S) (rContO C false (toSp X.K S) E0) := ⟨op_contO o F hr pass0, ref_contO⟩
theorem do_ncontO (o : OpAt X.K C "__contains__" g) (F : FnR X.prog X.w X.K X.mg X.base CX0 k g (toSp X.K S)) (hr : Room k X.A) : OpR X (compareOp .NotIn) (rContO C true (toSp X.K S) E0) ∧ Ref2 X.K B (opContO C true S) (rContO C true (toSp X.K S) E0) := ⟨op_ncontO o F hr pass0, ref_contO⟩
def opGetO (C : Addr) (S : DSp) : R2D := fun x y μ Q => oF C (vw μ x) fun _ => S [x, y] μ Q noX
@[simp ↓] theorem opGetO_p {x y : D} {μ : Mu} {Q : QD} : opGetO C S x y μ Q = (oF C (vw μ x) fun _ => S [x, y] μ Q noX) := id rfl
theorem de_getO {a b : Expr} {ta tb : TE} {Ta Tb : TDE} (o : OpAt X.K C "__getitem__" g) (hfn : PySem.W.fnIn X.K g = true) (F : FnR X.prog X.w X.K X.mg X.base CX0 k g (toSp X.K S)) (hr : Room (k + 1) X.A) (ha : DE X B a ta Ta) (hb : DE X B b tb Tb) (hs : PlainIx2 b := by exact fun _ _ => rfl) :
    DE X B (.Subscript a b pos) (tOp (rGetO C (toSp X.K S) E0) ta tb) (dOp (opGetO C S) Ta Tb) :=
  ⟨pe_getO o hfn F hr pass0 ha.pe hb.pe hs, ref_op (fun ρ μ σ H G x y dx dy Q Qn S0 r1 r2 h hd => by
    obtain ⟨a, dx', vs, fs, rfl, h1, rr, _, q⟩ := oF_go h S0.hold r1
    exact ⟨a, dx', vs, rfl, h1, sp_to S0 (Reps.cons r1 (Reps.one r2)) q hd⟩) ha.ref hb.ref⟩
end
/-! C.m(..), a staticmethod -/
structure SMet (K : PySem.W.Frag) (C : Addr) (m : Str) (g : Addr) : Prop where
  r : ClX.CRead K C (.type "type")
  ex : ∃ p, PySem.W.findCls K (.ref C) (.type "type") m = some (.get (.builtin "staticmethod.__get__") (.ref p) .none (.ref C)) ∧ ∃ rest, PySem.W.recIn K p "staticmethod" = some (.ref g :: rest)
  ty : PySem.W.typeIn K (.ref C) = some (.type "type")
  kp : PySem.W.keepIn K (.ref g) = true
section
variable {X : Cx} {B : Gh} {pos apos : Pos} {C g : Addr} {k : Nat} {S : DSp} {m : Str} {pl : Sem Bool} {x : Str} {p : Pos} {e : Expr} {es : List Expr} {t : TA} {T : TDA} {fd : FuncData} {ps : List Str}
theorem getsmet_ok {pins : List (Addr × Obj)} {σ : L2.St} {H : Hp} {s : Shared} {A : Around} {E : Value → Shared → Prop} {Q : Value × List Value → Shared → Prop} (I : Inv X pins σ H s) (c : SMet X.K C m g)
    (h : ∀ s', Inv X pins σ H s' → Q (.ref g, []) s') : wpAny (model X.prog X.w) A (getMethod (.ref C) m pl) Q E s := by
  obtain ⟨q, h1, rest, h2⟩ := c.ex
  obtain ⟨mm, hF⟩ := I.fr
  exact PySem.W.method_cls I.kIn c.r.ga (PySem.W.cls_sm hF I.ok.mod.kin c.ty c.r.rd h1 h2 rfl (h _ (I.tok _)))
def tSMeth (sp : Sp) (t : TA) : TE := fun σ H Q => t σ H fun vs H2 => sp vs H2 Q E0
def dSMeth (S : DSp) (T : TDA) : TDE := fun ρ μ Q => T ρ μ fun ds μ1 => S ds μ1 Q noX
@[simp ↓] theorem dSMeth_p {ρ} {μ} {Q} : dSMeth S T ρ μ Q = (T ρ μ fun ds μ1 => S ds μ1 Q noX) := id rfl
theorem ref_smeth {K : PySem.W.Frag} (ha : RefA K B T t) : RefE K B (dSMeth S T) (tSMeth (toSp K S) t) := fun ρ μ σ H G Q Qn S0 q hd => ha ρ μ σ H G _ _ S0 q fun ds μ1 vs H1 G1 g1 S1 r1 q1 => sp_to S1 r1 q1 (hd.mono g1)
theorem de_smeth0 (c : SMet X.K C m g) (F : FnR X.prog X.w X.K X.mg X.base CX0 k g (toSp X.K S)) (hr : Room k X.A) (hm : X.mg x = some (.ref C)) (hg : Gl X x := by rfl) (hdb : (x == ("__debug__" : Str)) = false := by decide)
    (ht : eval (.Call (.Attribute (.Name x p) m apos) [] [] pos) X.env = (do
      let ov ← eval (.Name x p) X.env
      standAt apos.atName
      let (f, first) ← holding [ov] (getMethod ov m pl)
      callWith pos f first (backTo pos (starEach [] X.env)) (backToKw pos (keywordEach [] X.env))) := by rfl) :
    DE X B (.Call (.Attribute (.Name x p) m apos) [] [] pos) (tSMeth (toSp X.K S) tNil) (dSMeth S dNil) :=
  ⟨⟨fun pins s σ H Q I h => by
      refine PySem.W.methodCall_KW (pl := pl) (thn ((pe_glob (pos := p) (v := .ref C) hg hm rfl hdb).run pins s σ H (fun v H1 => v = .ref C ∧ H1 = H) I ⟨rfl, rfl⟩) fun u s1 ⟨v, H1, I1, r1, ev, eH⟩ => ?_) ht
      subst ev; subst eH
      cases r1
      refine getsmet_ok I1 c fun s2 I2 => ?_
      exact PySem.W.callWith_K0 I2.kIn c.kp (wpAny_call (run_fnR (us := []) F hr pass0 I2 .nil h))⟩, ref_smeth da_nil.ref⟩
theorem de_smeth (c : SMet X.K C m g) (F : FnR X.prog X.w X.K X.mg X.base CX0 k g (toSp X.K S)) (hr : Room k X.A) (hm : X.mg x = some (.ref C)) (ha : DA X B (e :: es) t T) (hg : Gl X x := by rfl) (hdb : (x == ("__debug__" : Str)) = false := by decide)
    (hst : starEach (e :: es) X.env = (false, eval e X.env) :: starEach es X.env := by rfl) (hpl : (backTo pos (starEach es X.env)).any (·.1) = false := by rfl)
    (ht : eval (.Call (.Attribute (.Name x p) m apos) (e :: es) [] pos) X.env = (do
      let ov ← eval (.Name x p) X.env
      standAt apos.atName
      let (f, first) ← holding [ov] (getMethod ov m pl)
      callWith pos f first (backTo pos (starEach (e :: es) X.env)) (backToKw pos (keywordEach [] X.env))) := by rfl) :
    DE X B (.Call (.Attribute (.Name x p) m apos) (e :: es) [] pos) (tSMeth (toSp X.K S) t) (dSMeth S T) :=
  ⟨⟨fun pins s σ H Q I h => by
      refine PySem.W.methodCall_KW (pl := pl) (thn ((pe_glob (pos := p) (v := .ref C) hg hm rfl hdb).run pins s σ H (fun v H1 => v = .ref C ∧ H1 = H) I ⟨rfl, rfl⟩) fun u s1 ⟨v, H1, I1, r1, ev, eH⟩ => ?_) ht
      subst ev; subst eH
      cases r1
      refine getsmet_ok I1 c fun s2 I2 => ?_
      refine PySem.W.callWith_K (h₀ := X.base) I2.ok.mod.kin c.kp (thn (ha.pa.run pos pins s2 σ H1 _ I2 h) fun us s3 ⟨vs, H2, I3, r, q⟩ => ⟨I3.kIn, ?_⟩) hst hpl
      exact wpAny_call (run_fnR F hr pass0 I3 r q)⟩, ref_smeth ha.ref⟩
end
/-! o.f = v, f a property with a setter -/
structure PSetOf (K : PySem.W.Frag) (C : Addr) (f : Str) (g : Addr) : Prop where
  ex : ∃ p, PySem.W.takerIn K C f = some (some (.ref p)) ∧ PySem.W.typeIn K (.ref p) = some (.type "property") ∧ ∃ a rest, PySem.W.recIn K p "property" = some (a :: .ref g :: rest)
section
variable {X : Cx} {B : Gh} {pos : Pos} {C g : Addr} {k : Nat} {S : DSp} {f : Str} {o e : Expr} {to te : TE} {To Te : TDE}
theorem setprop_ok {pins : List (Addr × Obj)} {σ : L2.St} {H : Hp} {s : Shared} {a dx : Addr} {fs : List (Str × V)} {y : V} {u : Value} {sp : Sp} {R : Hp → Prop} {Q : Unit → Shared → Prop} (I : Inv X pins σ H s) (ea : H a = some (.ins C dx fs)) (c : Cls X.K C) (hp : PSetOf X.K C f g)
    (F : FnR X.prog X.w X.K X.mg X.base CX0 k g sp) (hr : Room (k + 2) X.A) (ry : RelV y u) (h : sp [.ref a, y] H (fun _ H' => R H') E0) (hQ : ∀ s' H', Inv X pins σ H' s' → R H' → Q () s') : wpAny (model X.prog X.w) X.A (setAttr (.ref a) f u) Q X.xe s := by
  obtain ⟨mA, O, _, _, _, _⟩ := ins_get I.hok ea
  obtain ⟨od, J, _⟩ := O.look
  obtain ⟨p, h1, h2, a', rest, h3⟩ := hp.ex
  obtain ⟨m, hF⟩ := I.fr
  have I1 := I.tok (s.toks + 1)
  have hr2 : Room k X.A.in1.in1 := (show Room (k + 1) X.A.in1 from hr.in1).in1
  refine PySem.W.set_prop hF I.ok.mod.kin J c.sa c.po h1 h2 h3 ?_
  refine codeAny_mono (SlX.run_at (us := [.ref a, u]) (ws := [.ref a, y]) F hr2 I1.env0.in1.in1 pass0 I1 (.cons rfl (.cons ry .nil)) h) fun r s' hq => ?_
  rcases r with e | (v | _ | _ | _) <;> first | exact hq | skip
  obtain ⟨z', H', I', rz, qz⟩ := hq
  exact hQ s' H' I' qz
def sPSet (C : Addr) (sp : Sp) (to te : TE) : TS := fun D σ H => te σ H fun y H1 => to σ H1 fun x H2 => ∃ a dx fs, x = .ref a ∧ H2 a = some (.ins C dx fs) ∧ sp [.ref a, y] H2 (fun _ H3 => D.nx σ H3) E0
theorem ps_pset {p' : Pos} {sp : Sp} (c : Cls X.K C) (hp : PSetOf X.K C f g) (F : FnR X.prog X.w X.K X.mg X.base CX0 k g sp) (hr : Room (k + 2) X.A) (ho : PE X o to) (he : PE X e te) (hs : swapsWith e (some (.Attribute o f p')) pos.line X.env = pure false) :
    PS X (.Assign [.Attribute o f p'] e pos) (sPSet C sp to te) := by
  refine ⟨fun pins s σ H D I h => ?_⟩
  refine plainObj_wpAny_Assign_Attribute (thn (he.run pins s σ H _ I h) fun u s1 ⟨y, H1, I1, ry, q⟩ => thn (ho.run pins s1 σ H1 _ I1 q) fun ov s2 ⟨x, H2, I2, rx, a, dx, fs, ex, ea, q2⟩ => ?_) hs
  subst ex
  obtain rfl : ov = Value.ref a := rx
  exact setprop_ok I2 ea c hp F hr ry q2 fun s3 H3 I3 q3 => ⟨σ, _, I3, q3⟩
def dsPSet (C : Addr) (S : DSp) (To Te : TDE) : TDS := fun E ρ μ => Te ρ μ fun y μ1 => To ρ μ1 fun o μ2 => oF C (vw μ2 o) fun _ => S [o, y] μ2 (fun _ μ3 => E.nx ρ μ3) noX
@[simp ↓] theorem dsPSet_p {E} {ρ} {μ} : dsPSet C S To Te E ρ μ = (Te ρ μ fun y μ1 => To ρ μ1 fun o μ2 => oF C (vw μ2 o) fun _ => S [o, y] μ2 (fun _ μ3 => E.nx ρ μ3) noX) := id rfl
theorem ds_pset {p' : Pos} (c : Cls X.K C) (hp : PSetOf X.K C f g) (F : FnR X.prog X.w X.K X.mg X.base CX0 k g (toSp X.K S)) (hr : Room (k + 2) X.A) (ho : DE X B o to To) (he : DE X B e te Te) (hs : swapsWith e (some (.Attribute o f p')) pos.line X.env = pure false := by rfl) :
    DS X B (.Assign [.Attribute o f p'] e pos) (sPSet C (toSp X.K S) to te) (dsPSet C S To Te) :=
  ⟨ps_pset c hp F hr ho.pe he.pe hs, fun ρ μ σ H G E Dn S0 h hd => he.ref ρ μ σ H G _ _ S0 h fun y μ1 v H1 G1 g1 S1 r1 q1 => ho.ref ρ μ1 σ H1 G1 _ _ S1 q1 fun o' μ2 ov H2 G2 g2 S2 r2 q2 => by
    obtain ⟨a, dx', vs, fs, rfl, h1, rr, _, q⟩ := oF_go q2 S2.hold r2
    exact ⟨a, dx', vs, rfl, h1, sp_toQ S2.hold (Reps.cons r2 (Reps.one (r1.mono g2))) q fun d' μ' v' H' G' g' h' r' q' => hd.nx ρ μ' σ H' G' ((g1.trans g2).trans g') ⟨h', (S2.env).mono g'⟩ q'⟩⟩
end
/-! handed on -/
def CalledS (P : Program) (w : World) (K : PySem.W.Frag) (mg : Str → Option Value) (base : Heap) (k : Nat) (C : Addr) (m : Str) (ps : List Str) (S : DSp) : Prop :=
  ∃ f fd, SMet K C m f ∧ Binds K fd ps [] ∧ FnOk P w K mg base CX0 k f fd ps (toSp K S)
def CalledP (P : Program) (w : World) (K : PySem.W.Frag) (mg : Str → Option Value) (base : Heap) (k : Nat) (C : Addr) (m : Str) (ps : List Str) (S : DSp) : Prop :=
  ∃ f fd, PSetOf K C m f ∧ Binds K fd ps [] ∧ FnOk P w K mg base CX0 k f fd ps (toSp K S)
def CalledG (P : Program) (w : World) (K : PySem.W.Frag) (mg : Str → Option Value) (base : Heap) (k : Nat) (C : Addr) (m : Str) (ps : List Str) (S : DSp) : Prop :=
  ∃ f fd, Meth K C m f ∧ PySem.W.fnIn K f = true ∧ Binds K fd ps [] ∧ FnOk P w K mg base CX0 k f fd ps (toSp K S)
structure StaAt (K : PySem.W.Frag) (C : Addr) (m q : Str) (st : Stmt) (ps : List Str) (f : Addr) (fd : FuncData) : Prop where
  F : Fun K m q st f fd
  M : SMet K C m f
  b : Binds K fd ps []
structure PSetAt (K : PySem.W.Frag) (C : Addr) (m q : Str) (st : Stmt) (ps : List Str) (f : Addr) (fd : FuncData) : Prop where
  F : Fun K m q st f fd
  M : PSetOf K C m f
  b : Binds K fd ps []
section
variable {P : Program} {w : World} {K : PySem.W.Frag} {mg : Str → Option Value} {base : Heap} {k : Nat} {C : Addr} {m q : Str} {st : Stmt} {ps : List Str} {f : Addr} {fd : FuncData} {S : DSp}
theorem StaAt.called (D : StaAt K C m q st ps f fd) (F : FnOk P w K mg base CX0 k f fd ps (toSp K S)) : CalledS P w K mg base k C m ps S := ⟨f, fd, D.M, D.b, F⟩
theorem PSetAt.called (D : PSetAt K C m q st ps f fd) (F : FnOk P w K mg base CX0 k f fd ps (toSp K S)) : CalledP P w K mg base k C m ps S := ⟨f, fd, D.M, D.b, F⟩
end
end DL

/-! The freest rules in plain Lean. -/
namespace DL
open PySem
/-- harmful, of a written entry -/
def harmE (e l r : Str) : Bool := match Txt.split e " " with
  | [s, d, w] => harmW s d w l r
  | _ => false
theorem harmE_ent {s d w l r : Str} (hs : s ∈ stdL) (hd : d ∈ deedL) (hw : w ∈ relL) : harmE (entOf s d w) l r = harmW s d w l r := by
  unfold harmE
  rw [split3 (wd_std s hs).1 (wd_deed d hd).1 (wd_rel w hw).1]
def freeE (l r : Str) : List Str := allE.filter fun e => !harmE e l r
theorem tab_free {l r : Str} : Tab (freeE l r) := tab_filter _
def leP (l r l2 r2 : Str) : Bool := (decide (l = "fresh") || decide (l2 = "kept")) && (decide (r = "fresh") || decide (r2 = "kept"))
def strictE : List Str := selE (uniE ["look,peek see,lend *"])
theorem harm_le : ∀ l ∈ (["fresh", "kept"] : List Str), ∀ r ∈ (["fresh", "kept"] : List Str), ∀ l2 ∈ (["fresh", "kept"] : List Str), ∀ r2 ∈ (["fresh", "kept"] : List Str), leP l r l2 r2 = true → ∀ s ∈ stdL, ∀ d ∈ deedL, ∀ w ∈ relL, harmW s d w l r = true → harmW s d w l2 r2 = true := by decide +kernel
/-- the freer promise leaves the wider rule -/
theorem free_le {l r l2 r2 : Str} (hl : l = "fresh" ∨ l = "kept") (hr : r = "fresh" ∨ r = "kept") (hl2 : l2 = "fresh" ∨ l2 = "kept") (hr2 : r2 = "fresh" ∨ r2 = "kept") (h : leP l r l2 r2 = true) : ∀ e ∈ freeE l2 r2, e ∈ freeE l r := by
  intro e he
  obtain ⟨ha, hn⟩ := List.mem_filter.mp he
  refine List.mem_filter.mpr ⟨ha, ?_⟩
  obtain ⟨s, hs, d, hd, w, hw, rfl⟩ := ent_of ha
  rw [harmE_ent hs hd hw] at hn ⊢
  have := harm_le l (by simpa using hl) r (by simpa using hr) l2 (by simpa using hl2) r2 (by simpa using hr2) h s hs d hd w hw
  cases hh : harmW s d w l r with
  | false => rfl
  | true => rw [this hh] at hn; cases hn
theorem strict_no : ∀ l ∈ (["fresh", "kept"] : List Str), ∀ r ∈ (["fresh", "kept"] : List Str), ∀ e ∈ strictE, harmE e l r = false := by decide +kernel
theorem strict_in {l r : Str} (hl : l = "fresh" ∨ l = "kept") (hr : r = "fresh" ∨ r = "kept") : ∀ e ∈ strictE, e ∈ freeE l r := fun e he =>
  List.mem_filter.mpr ⟨(tab_sel _).mem he, by rw [strict_no l (by simpa using hl) r (by simpa using hr) e he]; rfl⟩
def besE (es : List Str) (b : Bool) : List Str := es.filter fun e => Txt.startswith e "reserved " == b
theorem starts_res : ∀ s ∈ stdL, ∀ d ∈ deedL, ∀ w ∈ relL, Txt.startswith (entOf s d w) "reserved " = decide (s = "reserved") := by decide +kernel
/-- what lies beside hangs on one word of the promise -/
theorem bes_free {l r l2 r2 : Str} {b : Bool} (h : if b = true then r = r2 else l = l2) : besE (freeE l r) b = besE (freeE l2 r2) b := by
  unfold besE freeE
  rw [List.filter_filter, List.filter_filter]
  refine List.filter_congr fun e he => ?_
  obtain ⟨s, hs, d, hd, w, hw, rfl⟩ := ent_of he
  rw [harmE_ent hs hd hw, harmE_ent hs hd hw, starts_res s hs d hd w hw]
  by_cases k : s = "reserved"
  · cases b
    · simp [k]
    · rw [if_pos rfl] at h
      subst h
      simp [k, harmW]
  · cases b
    · rw [if_neg (by simp)] at h
      subst h
      simp [k, harmW]
    · simp [k]
end DL

/-! What is known of the store, in one list. -/
namespace DL
open PySem
structure Kn (μ : Mu) (L : List (Addr × Cell)) : Prop where
  nd : (L.map (·.1)).Nodup
  at_ : ∀ p ∈ L, μ p.1 = some p.2
section
variable {μ : Mu} {L : List (Addr × Cell)} {x z : Addr} {c d : Cell}
theorem Kn.nil : Kn μ [] := ⟨by simp, by simp⟩
theorem Kn.g (h : Kn μ L) (i : Nat) (e : L[i]? = some (x, c) := by rfl) : μ x = some c := h.at_ (x, c) (List.mem_of_getElem? e)
theorem Kn.one (h : μ x = some c) : Kn μ [(x, c)] := ⟨by simp, by simpa using h⟩
theorem Kn.cons (h : Kn μ L) (hx : μ x = some c) (hn : x ∉ L.map (·.1)) : Kn μ ((x, c) :: L) := ⟨by simpa using ⟨by simpa using hn, h.nd⟩, fun p hp => by
  rcases List.mem_cons.mp hp with rfl | hp
  · exact hx
  · exact h.at_ p hp⟩
theorem Kn.add (h : Kn μ L) (hz : μ z = none) : Kn (mup μ z c) ((z, c) :: L) := by
  have hn : ∀ p ∈ L, p.1 ≠ z := fun p hp e => by have := h.at_ p hp; rw [e, hz] at this; cases this
  refine ⟨?_, fun p hp => ?_⟩
  · simp only [List.map_cons, List.nodup_cons]
    refine ⟨fun hm => ?_, h.nd⟩
    obtain ⟨p, hp, e⟩ := List.mem_map.mp hm
    exact hn p hp e
  · rcases List.mem_cons.mp hp with rfl | hp
    · exact mup_same
    · rw [mup_ne (hn p hp)]; exact h.at_ p hp
theorem Kn.setAt (h : Kn μ L) (i : Nat) (d : Cell) (e : L[i]? = some (x, c) := by rfl) : Kn (mup μ x d) (L.set i (x, d)) := by
  have hi := (List.getElem?_eq_some_iff.mp e).1
  have hx : L[i] = (x, c) := (List.getElem?_eq_some_iff.mp e).2
  refine ⟨?_, fun p hp => ?_⟩
  · rw [List.map_set]
    have : (L.map (·.1)).set i (x, d).1 = L.map (·.1) := by
      apply List.ext_getElem?
      intro j
      rw [List.getElem?_set]
      split
      · next q => subst q; simp [hi, hx]
      · rfl
    rw [this]; exact h.nd
  · obtain ⟨j, hj, q⟩ := List.mem_iff_getElem.mp hp
    rw [List.getElem_set] at q
    split at q
    · next k => rw [← q]; exact mup_same
    · next k =>
      have hj' : j < L.length := by simpa using hj
      have hne : p.1 ≠ x := fun e2 => by
        have n := h.nd
        have a : (L.map (·.1))[j]'(by simpa using hj') = (L.map (·.1))[i]'(by simpa using hi) := by simp [q, hx, e2]
        exact k ((List.getElem_inj n).mp a).symm
      rw [mup_ne hne]; exact h.at_ p (q ▸ List.getElem_mem hj')
theorem Kn.sub {L' : List (Addr × Cell)} (h : Kn μ L) (s : L'.Sublist L) : Kn μ L' := ⟨h.nd.sublist (s.map _), fun p hp => h.at_ p (s.subset hp)⟩
theorem Kn.drop (h : Kn μ L) (n : Nat) : Kn μ (L.drop n) := h.sub (List.drop_sublist n L)
theorem Kn.none (h : Kn μ L) (hz : μ z = none) (i : Nat) (e : L[i]? = some (x, c) := by rfl) : x ≠ z := fun q => by have := h.g i e; rw [q, hz] at this; cases this
theorem Kn.ne (h : Kn μ L) (i j : Nat) (k : i ≠ j) (e : L[i]? = some (x, c) := by rfl) (e2 : L[j]? = some (z, d) := by rfl) : x ≠ z := fun q => by
  subst q
  have hi := (List.getElem?_eq_some_iff.mp e); have hj := (List.getElem?_eq_some_iff.mp e2)
  obtain ⟨hi, a⟩ := hi; obtain ⟨hj, b⟩ := hj
  have : (L.map (·.1))[i]'(by simpa using hi) = (L.map (·.1))[j]'(by simpa using hj) := by simp [a, b]
  exact k ((List.getElem_inj h.nd).mp this)
end
theorem sub_set {μ ν : Mu} {x : Addr} {c : Cell} (h : Sub μ ν) (hx : μ x = none) : Sub μ (mup ν x c) := fun y k hy => by
  rw [mup_ne (fun e => by rw [e, hx] at hy; cases hy)]; exact h y k hy
end DL

/-! isinstance of a caught error: a built-in class, a tuple of own classes. -/
namespace DL
open PySem PySem.Spec PyProof.Rows L2 NdefX
section
variable {X : Cx} {B : Gh} {a C : Addr} {oe : Obj} {cls : Value} {d : Option Addr} {fs : List (Str × D)} {pn : List (Addr × Obj)} {e : Expr} {te : TE} {T : TDE} {pos p p2 : Pos} {n x : Str}
theorem instAt_of {s : Shared} {H : Hp} (hz : Zc (.ref C) d oe) (hf : ∃ vs, oe.data = .fields vs) (hget : s.heap.get? a = some oe) (hok : HOk X.prog X.w H s.heap) (hdd : ∀ dd, d = some dd → ∃ fs, H dd = some (.xd fs)) : ∃ od, PySem.W.InstAt s.heap a oe C od := by
  obtain ⟨vs, hv⟩ := hf
  obtain ⟨oc, odx, oda, osl⟩ := oe
  obtain ⟨h1, h2⟩ := hz
  dsimp only at h1 h2 hv
  subst h1 h2 hv
  cases odx with
  | none => exact ⟨none, hget, rfl, rfl, trivial⟩
  | some dd =>
    obtain ⟨fs, hf⟩ := hdd dd rfl
    obtain ⟨mA, ⟨o, es, ep, ho, _⟩, _⟩ := (show ObjOk X.prog X.w H s.heap dd (.xd fs) from hok dd _ hf)
    exact ⟨some o, hget, rfl, rfl, ho⟩
/-- isinstance(why, T), T built in -/
def rIsEb (K : PySem.W.Frag) (cls : Value) (C a : Addr) (T : String) (d : Option Addr) : List V → Hp → VK → Prop := fun xs H Q => cls = .ref C ∧ xs = [.ref a, .ty T] ∧ (∀ dd, d = some dd → ∃ fs, H dd = some (.xd fs)) ∧ ∃ b, PySem.W.kitOne K (.ref C) (.type T) = some b ∧ Q (.bl b) H
theorem call_isEb {T : String} (TC : ExcC X.K C) (hz : Zc cls d oe) (hf : ∃ vs, oe.data = .fields vs) : CallR (X.suite a ((a, oe) :: pn)) (.builtin "isinstance") (rIsEb X.K cls C a T d) := by
  intro pins s σ H xs us Q I r h
  obtain ⟨rfl, rfl, hdd, b, e, q⟩ := h
  cases r with
  | cons rx rr =>
    cases rr with
    | cons rt rr =>
      cases rr
      cases rx
      cases rt
      obtain ⟨hget, _⟩ := I.pin (a, oe) (List.mem_append.mpr (.inl List.mem_cons_self))
      obtain ⟨od, J⟩ := instAt_of (X := X) hz hf hget I.hok hdd
      have hcl : (PySem.W.clsIn X.K C).isSome = true := by
        obtain ⟨cd, hc, _⟩ := PySem.W.any_some TC.hd
        rw [hc]; rfl
      exact PySem.W.kia_one (PySem.W.kitx_exc hcl TC.hg TC.hk TC.hs TC.ha TC.hn TC.ht TC.hm) I.kIn J e (fun z => nomatch z) fun tk => ⟨.bl b, H, I.kept (t' := tk) fun _ _ z => z, rfl, q⟩
def dIsEb (K : PySem.W.Frag) (a : Addr) (cls : Value) (C : Addr) (T2 : String) (T : TDE) : TDE := fun ρ μ Q => T ρ μ fun x μ1 => pS x fun b => b = a ∧ cls = .ref C ∧ oS (PySem.W.kitOne K (.ref C) (.type T2)) fun r => Q (.bl r) μ1
@[simp ↓] theorem dIsEb_p {K : PySem.W.Frag} {T2 : String} {ρ} {μ} {Q} : dIsEb K a cls C T2 T ρ μ Q = (T ρ μ fun x μ1 => pS x fun b => b = a ∧ cls = .ref C ∧ oS (PySem.W.kitOne K (.ref C) (.type T2)) fun r => Q (.bl r) μ1) := id rfl
theorem de_isEb (T2 : String) (xr : XRep X.K B fs d) (TC : ExcC X.K C) (hz : L2N.Zn cls d oe) (hf : ∃ vs, oe.data = .fields vs) (he : DE (X.suite a ((a, oe) :: pn)) B e te T) (hm : X.mg "isinstance" = none) (hm2 : X.mg x = none) (hb2 : bootBuiltins x = some (.type T2)) (hx : x ≠ "__name__" := by decide) (hdb : (x == ("__debug__" : Str)) = false := by decide) (hg : Gl X "isinstance" := by rfl) (hg2 : Gl X x := by rfl)
    (h1 : starEach [e, .Name x p2] X.env = (false, eval e X.env) :: starEach [.Name x p2] X.env := by rfl) (h1' : starEach [.Name x p2] X.env = (false, eval (.Name x p2) X.env) :: starEach [] X.env := by rfl) (h2 : (backTo pos (starEach [.Name x p2] X.env)).any (·.1) = false := by rfl) :
    DE (X.suite a ((a, oe) :: pn)) B (.Call (.Name "isinstance" p) [e, .Name x p2] [] pos) (tCB (rIsEb X.K cls C a T2 d) (tCons te (tCons (tC (.ty T2)) tNil))) (dIsEb X.K a cls C T2 T) :=
  ⟨pe_callB (X := X.suite a ((a, oe) :: pn)) (call_isEb TC hz.zc hf) hg hm (by decide +kernel) (pa_cons he.pe (pa_cons (pe_bltn (X := X.suite a ((a, oe) :: pn)) hg2 hm2 hb2 rfl hx hdb) pa_nil h1') h1) (by decide) (by decide) h1 h2, fun ρ μ σ H G Q Qn S h hd => he.ref ρ μ σ H G _ _ S h fun y μ1 v H1 G1 g1 S1 r1 q1 => by
    cases y with
    | ptr b =>
      cases r1
      obtain ⟨rfl, hc, q2⟩ := q1
      rw [oS_eq] at q2
      obtain ⟨r, e1, q3⟩ := q2
      have x1 := xr.mono S1.env.1.2
      refine ⟨hc, rfl, fun dd hd => ?_, r, e1, (hd.mono g1).now S1 (.bl r) q3⟩
      subst hd
      obtain ⟨fvs, e2, rr⟩ := x1
      exact ⟨fvs, S1.hold.fr _ _ e2⟩
    | _ => exact False.elim q1⟩
/-! a tuple of own classes -/
def tNames : List Addr → TA
  | [] => tNil
  | C :: r => tCons (tC (.ref C)) (tNames r)
theorem tNames_go {σ : St} {H : Hp} {Q : List V → Hp → Prop} {Cs : List Addr} : tNames Cs σ H Q = Q (Cs.map V.ref) H := by
  induction Cs generalizing Q with
  | nil => rfl
  | cons C r ih => show tNames r σ H (fun xs H' => Q (V.ref C :: xs) H') = _; rw [ih]; rfl
inductive NamesOk (X : Cx) : List Expr → List Addr → Prop
  | nil : NamesOk X [] []
  | cons {x : Str} {p : Pos} {C : Addr} {es : List Expr} {Cs : List Addr} (m : X.mg x = some (.ref C)) (t : NamesOk X es Cs) (hg : Gl X x := by rfl) (hdb : (x == ("__debug__" : Str)) = false := by decide) : NamesOk X (.Name x p :: es) (C :: Cs)
theorem NamesOk.pa {es : List Expr} {Cs : List Addr} (h : NamesOk (X.suite a pn) es Cs) : PA (X.suite a pn) es (tNames Cs) := by
  induction h with
  | nil => exact pa_nil
  | cons m t hg hdb ih => exact pa_cons (pe_glob (X := X.suite a pn) hg m rfl hdb) ih (by rfl)
def rIsEt (K : PySem.W.Frag) (cls : Value) (C a : Addr) (Cs : List Addr) (d : Option Addr) : List V → Hp → VK → Prop := fun xs H Q => cls = .ref C ∧ (∃ tp, xs = [.ref a, .ref tp] ∧ H tp = some (.tup (Cs.map V.ref))) ∧ (∀ dd, d = some dd → ∃ fs, H dd = some (.xd fs)) ∧ ∃ b, PySem.W.kitAny K (.ref C) (Cs.map Value.ref) = some b ∧ Q (.bl b) H
theorem vals_refs {Cs : List Addr} {its : List Value} (h : Vals (Cs.map V.ref) its) : its = Cs.map Value.ref := by
  induction Cs generalizing its with
  | nil => cases h; rfl
  | cons C r ih =>
    cases h with
    | cons r1 r2 =>
      cases r1
      rw [ih r2]; rfl
theorem call_isEt {Cs : List Addr} (TC : ExcC X.K C) (hz : Zc cls d oe) (hf : ∃ vs, oe.data = .fields vs) : CallR (X.suite a ((a, oe) :: pn)) (.builtin "isinstance") (rIsEt X.K cls C a Cs d) := by
  intro pins s σ H xs us Q I r h
  obtain ⟨rfl, ⟨tp, rfl, hT⟩, hdd, b, e, q⟩ := h
  cases r with
  | cons rx rr =>
    cases rr with
    | cons rt rr =>
      cases rr
      cases rx
      cases rt
      obtain ⟨hget, _⟩ := I.pin (a, oe) (List.mem_append.mpr (.inl List.mem_cons_self))
      obtain ⟨od, J⟩ := instAt_of (X := X) hz hf hget I.hok hdd
      have hcl : (PySem.W.clsIn X.K C).isSome = true := by
        obtain ⟨cd, hc, _⟩ := PySem.W.any_some TC.hd
        rw [hc]; rfl
      obtain ⟨_, its, rv, o, h1, h2, n, h3⟩ := (show ObjOk X.prog X.w H s.heap tp (.tup (Cs.map V.ref)) from I.hok tp _ hT)
      have e3 := vals_refs rv
      subst e3
      obtain ⟨oc, od', dt, sl⟩ := o
      simp only at h2 h3
      subst h2 h3
      exact PySem.W.kia_tup (PySem.W.kitx_exc hcl TC.hg TC.hk TC.hs TC.ha TC.hn TC.ht TC.hm) I.kIn J h1 e (fun z => nomatch z) fun tk => ⟨.bl b, H, I.kept (t' := tk) fun _ _ z => z, rfl, q⟩
def dIsEt (K : PySem.W.Frag) (a : Addr) (cls : Value) (C : Addr) (Cs : List Addr) (T : TDE) : TDE := fun ρ μ Q => T ρ μ fun x μ1 => pS x fun b => b = a ∧ cls = .ref C ∧ oS (PySem.W.kitAny K (.ref C) (Cs.map Value.ref)) fun r => Q (.bl r) μ1
@[simp ↓] theorem dIsEt_p {K : PySem.W.Frag} {Cs : List Addr} {ρ} {μ} {Q} : dIsEt K a cls C Cs T ρ μ Q = (T ρ μ fun x μ1 => pS x fun b => b = a ∧ cls = .ref C ∧ oS (PySem.W.kitAny K (.ref C) (Cs.map Value.ref)) fun r => Q (.bl r) μ1) := id rfl
theorem de_isEt {ns : List Expr} {x1} {tpos : Pos} {Cs : List Addr} (xr : XRep X.K B fs d) (TC : ExcC X.K C) (hz : L2N.Zn cls d oe) (hf : ∃ vs, oe.data = .fields vs) (he : DE (X.suite a ((a, oe) :: pn)) B e te T) (hn : NamesOk (X.suite a ((a, oe) :: pn)) ns Cs) (hl : Cs.length ≤ 1000 := by simp) (hm : X.mg "isinstance" = none) (hg : Gl X "isinstance" := by rfl)
    (h1 : starEach [e, .Tuple ns x1 tpos] X.env = (false, eval e X.env) :: starEach [.Tuple ns x1 tpos] X.env := by rfl) (h1' : starEach [.Tuple ns x1 tpos] X.env = (false, eval (.Tuple ns x1 tpos) X.env) :: starEach [] X.env := by rfl) (h2 : (backTo pos (starEach [.Tuple ns x1 tpos] X.env)).any (·.1) = false := by rfl) :
    DE (X.suite a ((a, oe) :: pn)) B (.Call (.Name "isinstance" p) [e, .Tuple ns x1 tpos] [] pos) (tCB (rIsEt X.K cls C a Cs d) (tCons te (tCons (tTup (tNames Cs)) tNil))) (dIsEt X.K a cls C Cs T) :=
  ⟨pe_callB (X := X.suite a ((a, oe) :: pn)) (call_isEt TC hz.zc hf) hg hm (by decide +kernel) (pa_cons he.pe (pa_cons (pe_tup hn.pa) pa_nil h1') h1) (by decide) (by decide) h1 h2, fun ρ μ σ H G Q Qn S h hd => he.ref ρ μ σ H G _ _ S h fun y μ1 v H1 G1 g1 S1 r1 q1 => by
    cases y with
    | ptr b =>
      cases r1
      obtain ⟨rfl, hc, q2⟩ := q1
      rw [oS_eq] at q2
      obtain ⟨r, e1, q3⟩ := q2
      have x1 := xr.mono S1.env.1.2
      show tNames Cs σ H1 _
      rw [tNames_go]
      refine ⟨by rw [List.length_map]; exact sz_le (by omega), fun t ht => ?_⟩
      refine ⟨hc, ⟨t, rfl, upd_same⟩, fun dd hd => ?_, r, e1, (hd.mono g1) _ _ _ _ _ (S1.gle_new ht) (S1.new (o := .tup (Cs.map V.ref)) ht) (.bl r) q3⟩
      subst hd
      obtain ⟨fvs, e2, rr⟩ := x1
      exact ⟨fvs, (upd_ne (fun e => by rw [e] at e2; have := S1.hold.fr _ _ e2; rw [ht] at this; cases this)).trans (S1.hold.fr _ _ e2)⟩
    | _ => exact False.elim q1⟩
end
end DL

/-! Texts that are entries, and those that are none. -/
namespace DL
open PySem
theorem joinL_cons {c : Nat} {p : List Nat} {ps : List (List Nat)} (h : ps ≠ []) : joinL c (p :: ps) = p ++ c :: joinL c ps := by
  cases ps with
  | nil => exact (h rfl).elim
  | cons q r => rfl
theorem splA_ne {c : Nat} {acc r : List Nat} : splA c acc r ≠ [] := by
  induction r generalizing acc with
  | nil => simp [splA]
  | cons x r ih => unfold splA; split <;> simp [ih]
theorem joinL_spl {c : Nat} {acc r : List Nat} : joinL c (splA c acc r) = acc ++ r := by
  induction r generalizing acc with
  | nil => simp [splA, joinL]
  | cons x r ih =>
    unfold splA
    split
    · next h => rw [joinL_cons splA_ne, ih, h]; rfl
    · rw [ih]; simp
theorem join_split1 {c : Nat} (h : c < 256) (t : Str) : Txt.join (mk [c]) (Txt.split t (mk [c])) = t := by
  rw [split_one h, joinS, List.map_map]
  apply cd_inj
  simp only [cd_mk, Function.comp_def, List.map_id']
  rw [joinL_spl]; rfl
theorem sp_mk : (" " : Str) = mk [32] := by decide +kernel
theorem join_split (t : Str) : Txt.join " " (Txt.split t " ") = t := by rw [sp_mk]; exact join_split1 (by decide) t
theorem join3 (s d w : Str) : Txt.join " " [s, d, w] = entOf s d w := by
  rw [sp_mk, joinS]
  apply cd_inj
  simp [joinL, entOf, sp_mk]
def entL : List Str → Option (Str × Str × Str)
  | [s, d, w] => if s ∈ stdL ∧ d ∈ deedL ∧ w ∈ relL then some (s, d, w) else none
  | _ => none
theorem entL_no {ws : List Str} (h : ws.length ≠ 3) : entL ws = none := by
  unfold entL
  split
  · exact (h rfl).elim
  · rfl
def entP (t : Str) : Option (Str × Str × Str) := entL (Txt.split t " ")
theorem entP_some {t s d w : Str} (h : entP t = some (s, d, w)) : t = entOf s d w ∧ s ∈ stdL ∧ d ∈ deedL ∧ w ∈ relL := by
  unfold entP entL at h
  split at h
  · next s' d' w' e =>
    split at h
    · next k =>
      cases h
      refine ⟨?_, k⟩
      rw [← join_split t, e, join3]
    · cases h
  · cases h
theorem entP_ent {s d w : Str} (hs : s ∈ stdL) (hd : d ∈ deedL) (hw : w ∈ relL) : entP (entOf s d w) = some (s, d, w) := by
  unfold entP
  rw [split3 (wd_std s hs).1 (wd_deed d hd).1 (wd_rel w hw).1]
  simp [entL, hs, hd, hw]
theorem entP_none {t : Str} (h : entP t = none) : t ∉ allE := fun e => by
  obtain ⟨s, hs, d, hd, w, hw, rfl⟩ := ent_of e
  rw [entP_ent hs hd hw] at h; cases h
theorem entP_in {t : Str} : t ∈ allE ↔ ∃ p, entP t = some p := ⟨fun e => by
  obtain ⟨s, hs, d, hd, w, hw, rfl⟩ := ent_of e
  exact ⟨_, entP_ent hs hd hw⟩, fun ⟨⟨s, d, w⟩, h⟩ => by
  obtain ⟨rfl, a, b, c⟩ := entP_some h
  exact ent_in a b c⟩
theorem join_len1 {c : Nat} (ps : List Str) : (Txt.join (mk [c]) ps).length ≤ (ps.map fun x => x.length).sum + ps.length := by
  rw [joinS, mk_length]
  have : ∀ l : List (List Nat), (joinL c l).length ≤ (l.map List.length).sum + l.length := by
    intro l
    induction l with
    | nil => simp [joinL]
    | cons p r ih =>
      cases r with
      | nil => simp [joinL]
      | cons q r => rw [joinL_cons (by simp)]; simp at ih ⊢; omega
  have h := this (ps.map cd)
  rw [List.map_map, List.length_map] at h
  have e : (List.length ∘ cd) = fun x : Str => x.length := funext fun x => cd_len x
  rwa [e] at h
theorem join_len0 (ps : List Str) : (Txt.join "" ps).length = (ps.map fun x => x.length).sum := by
  have e : ps = (ps.map cd).map mk := by rw [List.map_map]; simp [Function.comp_def]
  have h0 : ("" : Str) = mk [] := by decide +kernel
  rw [h0]
  conv => lhs; rw [e]
  rw [joinE, mk_length, List.length_flatten, List.map_map]
  have e : (List.length ∘ cd) = fun x : Str => x.length := funext fun x => cd_len x
  rw [e]
theorem sum_le {k : Nat} {ps : List Str} (h : ∀ w ∈ ps, w.length ≤ k) : (ps.map fun x => x.length).sum ≤ ps.length * k := by
  induction ps with
  | nil => simp
  | cons x r ih =>
    have := h x (by simp)
    have := ih fun w hw => h w (List.mem_cons_of_mem _ hw)
    simp [Nat.add_mul]; omega
end DL

namespace K19
open PySem PySem.Spec PyProof.Rows L2 DL
open L2H (FnH RoomH HotC)
local macro_rules | `(tactic| walk_at "dl0") => `(tactic| simp only [startD, List.map_cons, List.map_nil, List.cons_append, List.nil_append, List.length_cons, List.length_nil, Nat.reduceAdd, Nat.reduceSub, Nat.zero_add, List.reduceReplicate])
local macro_rules | `(tactic| walk_at "dl_vw") => `(tactic| first | rfl | (with_unfolding_all rfl) | exact vw_of (by assumption) | exact vw_of mup_same | (simp [vw, mup_ne, *]; done))
local macro_rules | `(tactic| walk_at "dl_at") => `(tactic| first | exact atI_c0 | exact atI_c1 | exact atI_c2 | exact atI_c3 | exact atI_c4 | exact atI_m1a | exact atI_m1s | assumption | rfl | (simp [*]; done))
local macro_rules | `(tactic| walk_at "dl_mu") => `(tactic| first | assumption | exact mup_same | (simp [mup_ne, *]; done))
local macro_rules | `(tactic| walk_at "dl_sz") => `(tactic| first | omega | (simp; omega) | (simp [*]; omega))
local macro_rules | `(tactic| walk_at "dl_cz") => `(tactic| first | (show (0 : Int) < _; first | omega | decide) | (unfold CDiv; constructor <;> omega) | (unfold CMul; first | (right; decide) | (left; decide) | (right; omega)) | (unfold CPow; decide))
local macro_rules | `(tactic| walk_at "dl_fin") => `(tactic| first | assumption | (refine ⟨by first | walk_at "dl_cz" | walk_at "dl_sz", ?_⟩; walk_at "dl_fin"))
local macro_rules | `(tactic| walk_at "dl_ev") => `(tactic| (intro Q hQ; simp only [dVar, dC, dOp, dCB, dCons, dNil, dB, dAnd, dOr, dNot, dAndV, dOrV, dNotV, dNeg, dTru, truD, dIf, dSl, dNoPart, dPart, slW, dLst, dTup, mkL_f, dIsi, isiD, dKd, dFrz, frz,
    opAdd, opZ0, opZ, eqW, opIs, isNonD, inW, inSeq, opIx, cLen, cInt, cMin2, cMax2, dBM, isTyD, mStarts, mEnds, iLst, iTupD, iScr, iTxt, iRg1, iRg2,
    vw_int, vw_str, vw_bl, vw_non, vw_lst, vw_tup, vw_dic, vw_obj, vw_scr, vw_pd, atI_c0, atI_c1, atI_c2, atI_c3, atI_c4, atI_m1s, atI_m1a, mk_cps, mk_length, mk_append, mk_inj, cutS_mk, mup_same,
    List.getElem?_cons_zero, List.getElem?_cons_succ, List.length_cons, List.length_nil, Option.some.injEq, exists_eq_left', exists_eq_left, exists_eq', true_and, and_true, Bool.false_xor, Bool.true_xor, ite_Qb, ite_Qo, ite_Vb, ite_Vo, Bool.true_and, Bool.false_and, Bool.and_true, Bool.and_false, Bool.true_or, Bool.false_or, strsOf_cons, strsOf_nil, strsOf_map, intsOf_cons, intsOf_nil, Option.map_some, startswith_mk, if_true, reduceIte, Bool.false_eq_true, decide_true, decide_false, reduceCtorEq, *]; walk_at "dl_fin"))
local macro_rules | `(tactic| walk_at "dl") => `(tactic| first
  | (with_reducible refine i_seq ?_)
  | (refine v_asg (by walk_at "dl_ev") ?_)
  | (refine v_if (by walk_at "dl_ev") ?_)
  | (refine v_ret (by walk_at "dl_ev") ?_)
  | (refine v_drop (by walk_at "dl_ev") ?_)
  | (refine v_for (by walk_at "dl_ev") ?_)
  | (refine v_sub (by walk_at "dl_ev") (by walk_at "dl_ev") ?_)
  | with_reducible refine i_op ?_
  | with_reducible refine i_var rfl ?_
  | with_reducible refine i_c ?_
  | with_reducible refine i_cons ?_
  | with_reducible refine i_nil ?_
  | with_reducible refine i_seq ?_
  | (with_reducible refine i_ixL (by walk_at "dl_vw") (by walk_at "dl_at") ?_)
  | (with_reducible refine i_CB ?_)
  | (with_reducible refine i_z0 ?_)
  | (with_reducible refine i_B ?_)
  | (with_reducible refine i_ifS ?_)
  | (with_reducible refine i_asg ?_)
  | (with_reducible refine i_dgName ?_; (try dsimp only [List.set_cons_zero, List.set_cons_succ]))
  | with_reducible refine i_call ?_
  | (with_reducible refine i_addI ?_)
  | (with_reducible refine i_addS (by walk_at "dl_sz") ?_)
  | (with_reducible refine i_eqS ?_)
  | (with_reducible refine i_eqI ?_)
  | (with_reducible refine i_ret ?_)
  | (with_reducible refine i_z (by walk_at "dl_cz") ?_)
  | (with_reducible refine i_setDm (by first | exact ixN_c0 | exact ixN_c1 | exact ixN_c2 | exact ixN_c3 | (with_unfolding_all rfl) | exact ixN_m1 (by walk_at "dl_sz") | exact ixN_nat (by walk_at "dl_sz")) ?_; (try dsimp only [List.set_cons_zero, List.set_cons_succ]))
  | (with_reducible refine i_dgSub ?_)
  | (with_reducible refine iteT ?_)
  | (with_reducible refine iteF ?_)
  | (with_reducible refine ite_xd (fun hb => ?_) (fun hb => ?_))
  | (with_reducible refine ite_d (fun hb => ?_) (fun hb => ?_))
  | (with_reducible refine i_BM ?_)
  | (with_reducible refine i_retN ?_)
  | (with_reducible refine i_drop ?_)
  | (with_reducible refine i_next ?_)
  | (with_reducible refine i_and ?_)
  | (with_reducible refine i_or ?_)
  | (with_reducible refine i_not ?_)
  | (with_reducible refine i_andV ?_)
  | (with_reducible refine i_orV ?_)
  | (with_reducible refine i_notV ?_)
  | (with_reducible refine i_if ?_)
  | (with_reducible refine i_neg ?_)
  | (with_reducible refine i_tru ?_)
  | (with_reducible refine i_truB ?_)
  | (with_reducible refine i_frz ?_)
  | (with_reducible refine i_isi ?_)
  | (with_reducible refine i_kd ?_)
  | (with_reducible refine i_yes ?_)
  | (with_reducible refine i_lst ?_)
  | (with_reducible refine i_tup ?_)
  | (with_reducible refine i_few (by walk_at "dl_sz") ?_)
  | (with_reducible refine i_fewT (by walk_at "dl_sz") ?_)
  | (with_reducible refine i_mkF ?_)
  | (with_reducible refine i_sl ?_)
  | (with_reducible refine i_noPart ?_)
  | (with_reducible refine i_part ?_)
  | (with_reducible refine i_for ?_)
  | (with_reducible refine i_forK ?_)
  | (with_reducible refine i_iLst ?_)
  | (with_reducible refine i_iTup ?_)
  | (with_reducible refine i_iScr ?_)
  | (with_reducible refine i_iTxt ?_)
  | (with_reducible refine i_setD (by walk_at "dl_mu") (by first | exact ixN_c0 | exact ixN_c1 | exact ixN_c2 | exact ixN_c3 | (with_unfolding_all rfl) | exact ixN_m1 (by walk_at "dl_sz") | exact ixN_nat (by walk_at "dl_sz")) ?_; (try dsimp only [List.set_cons_zero, List.set_cons_succ]))
  | (with_reducible refine i_dgTup (by walk_at "dl_vw") rfl ?_)
  | (with_reducible refine i_dgCons ?_)
  | (with_reducible refine i_dgNil ?_)
  | (with_reducible refine i_aug rfl ?_)
  | (with_reducible refine i_rng1 ?_)
  | (with_reducible refine i_rng2 ?_)
  | (with_reducible refine i_eqB ?_)
  | (with_reducible refine i_isN ?_)
  | (with_reducible refine i_int ?_)
  | (with_reducible refine i_lenS (by walk_at "dl_sz") ?_)
  | (with_reducible refine i_lenL (by walk_at "dl_vw") ?_)
  | (with_reducible refine i_ixT (by walk_at "dl_vw") (by walk_at "dl_at") ?_)
  | (with_reducible refine i_appendm (by walk_at "dl_sz") ?_)
  | (with_reducible refine i_append (by walk_at "dl_mu") (by walk_at "dl_sz") ?_)
  | (with_reducible refine i_frzL (by walk_at "dl_mu") ?_)
  | (with_reducible refine i_endF (by walk_at "dl_mu") ?_)
  | (with_reducible refine i_slL (by walk_at "dl_vw") ?_)
  | (with_reducible refine i_slS (by walk_at "dl_sz") ?_)
  | (with_reducible refine i_listL (by walk_at "dl_vw") ?_)
  | (with_reducible refine i_listT (by walk_at "dl_vw") ?_)
  | (with_reducible refine i_lc ?_)
  | (with_reducible refine ite_xn (fun hb => ?_) (fun hb => ?_))
  | (with_reducible refine ite_nd (fun hb => ?_) (fun hb => ?_))
  | (with_reducible refine ite_b (fun hb => ?_) (fun hb => ?_))
  | (with_reducible refine ⟨True.intro, ?_⟩)
  | (dsimp only [vw_int, vw_str, vw_bl, vw_non, vw_lst, vw_tup, isTyD]))
set_option hygiene false
local macro_rules | `(tactic| walk_at "s") => `(tactic| (refine seq_hide ?_; intro N hN))
set_option hygiene true
def topS (i : Nat) : Stmt := PySem.Challenge.pw_fieldsandcalls_k19_harmful_entries.main.body.getD i (.Pass ⟨0, 0, 0, 0⟩)
abbrev Glob_STANDINGS (K : PySem.W.Frag) (w : World) (mg : Str → Option Value) : Prop := GlobTV K ["look", "peek", "reserved"] "STANDINGS" mg
abbrev Glob_DEEDS (K : PySem.W.Frag) (w : World) (mg : Str → Option Value) : Prop := GlobTV K ["see", "lend", "reserve", "mark", "fill", "pack", "work"] "DEEDS" mg
abbrev Glob_STRONG (K : PySem.W.Frag) (w : World) (mg : Str → Option Value) : Prop := GlobTV K ["mark", "fill", "pack", "work"] "STRONG" mg
abbrev Glob_RELATIONS (K : PySem.W.Frag) (w : World) (mg : Str → Option Value) : Prop := GlobTV K ["same", "over", "overbox", "under", "underbox"] "RELATIONS" mg
abbrev Glob_MOVING (K : PySem.W.Frag) (w : World) (mg : Str → Option Value) : Prop := GlobTV K ["pack", "work"] "MOVING" mg
def sp_checked_word : DSp := fun ds μ Q _ => ∃ w : Str, ds = [.str w] ∧ (w = "fresh" ∨ w = "kept") ∧ Q (.str w) μ
theorem len_checked_word : ∀ ds μ Q E, sp_checked_word ds μ Q E → ds.length = 1 := by
  rintro ds μ Q E ⟨w, rfl, _⟩; rfl
theorem e_checked_word {w : Str} {μ : Mu} {Q : QD} {E : XDt} (h : w = "fresh" ∨ w = "kept") (q : Q (.str w) μ) : sp_checked_word [.str w] μ Q E := ⟨w, rfl, h, q⟩
abbrev s_checked_word : Stmt := topS 27
theorem sc_checked_word : FnScope ["word"] ["word"] (defScope s_checked_word) := ⟨rfl, rfl, rfl, by decide +kernel, rfl, by decide +kernel, by decide +kernel⟩
set_option maxHeartbeats 1000000 in
theorem ok_checked_word {P : Program} {w : World} {K : PySem.W.Frag} {mg : Str → Option Value} {base : Heap} {f : Addr} {fd : FuncData}  (D0 : DefAt K mg "checked_word" s_checked_word ["word"] f fd)  : FnOk P w K mg base CX0 (1) f fd ["word"] (toSp K sp_checked_word) := by
  refine fn_ok D0.F sc_checked_word (len_checked_word) fun B cdv A outer s H E hr => ⟨_, _, dss_cons (ds_if (dt_cmp do_nin (dv 0) (de_tup (da_cons (de_str) (da_cons (de_str) (da_nil)))) (by rfl))
      (dss_one (ds_never))
      (dss_nil))
    (dss_one (ds_ret (dv 0))), ?_⟩
  rintro ds μ Q EE ⟨w, rfl, h, q⟩
  walk_at "dl0"
  walk_at "s"
  simp
  refine ⟨sz_le (by decide), ?_⟩
  rw [if_neg (fun c => h.elim c.1 c.2)]
  subst hN
  simp
  exact q
def promC (C : Addr) (l r : Str) : Cell := .ins C [("_look", .str l), ("_reserved", .str r)]
theorem vw_prom {C : Addr} {l r : Str} {μ : Mu} {x : Addr} (h : μ x = some (promC C l r)) : vw μ (.ptr x) = .obj C [("_look", .str l), ("_reserved", .str r)] := by rw [vw_pd, h]; rfl
abbrev PW (w : Str) : Prop := w = "fresh" ∨ w = "kept"
def sp_Promise___init__ (C : Addr) : DSp := fun ds μ Q _ => ∃ x l r, ds = [.ptr x, .str l, .str r] ∧ μ x = some (.ins C []) ∧ PW l ∧ PW r ∧ Q .non (mup μ x (promC C l r))
theorem len_Promise___init__ (C : Addr) : ∀ ds μ Q E, sp_Promise___init__ C ds μ Q E → ds.length = 3 := by
  rintro ds μ Q E ⟨a, x, r, rfl, _⟩; rfl
abbrev s_Promise___init__ : Stmt := inClass (topS 28) 1
theorem sc_Promise___init__ : FnScope ["self", "look", "reserved"] ["self", "look", "reserved"] (defScope s_Promise___init__) := ⟨rfl, rfl, rfl, by decide +kernel, rfl, by decide +kernel, by decide +kernel⟩
set_option maxHeartbeats 1000000 in
theorem ok_Promise___init__ {P : Program} {w : World} {K : PySem.W.Frag} {mg : Str → Option Value} {base : Heap} {f : Addr} {fd : FuncData} {C_Promise : Addr} (D0 : MethAt K C_Promise "__init__" "Promise.__init__" s_Promise___init__ ["self", "look", "reserved"] f fd) (c_checked_word : Called P w K mg base 1 "checked_word" ["word"] sp_checked_word) (K_Promise : Klass K mg C_Promise "Promise" ["_look", "_reserved"]) : FnOk P w K mg base CX0 (2) f fd ["self", "look", "reserved"] (toSp K (sp_Promise___init__ C_Promise)) := by
  obtain ⟨f_checked_word, d_checked_word, m_checked_word, k_checked_word, b_checked_word, F_checked_word⟩ := c_checked_word
  refine fn_ok D0.F sc_Promise___init__ (len_Promise___init__ _) fun B cdv A outer s H E hr => ⟨_, _, dss_cons (ds_fld K_Promise.cl (K_Promise.na 0 _ rfl) (dv 0) (de_call F_checked_word (hr.mono (by decide)) m_checked_word k_checked_word b_checked_word (da_cons (dv 1) (da_nil))))
    (dss_one (ds_fld K_Promise.cl (K_Promise.na 1 _ rfl) (dv 0) (de_call F_checked_word (hr.mono (by decide)) m_checked_word k_checked_word b_checked_word (da_cons (dv 2) (da_nil))))), ?_⟩
  rintro ds μ Q EE ⟨x, l, r, rfl, hx, hl, hr, q⟩
  walk_at "dl0"
  walk_at "s"
  simp
  refine e_checked_word hl ?_
  rw [hx]
  refine ⟨rfl, by simp, ?_⟩
  have hx1 : mup μ x (.ins C_Promise (fput "_look" (.str l) [])) x = some (.ins C_Promise (fput "_look" (.str l) [])) := mup_same
  subst hN
  simp
  refine e_checked_word hr ?_
  simp only [mup_same, mup_mup]
  refine ⟨trivial, by simp [fput], ?_⟩
  simpa [fput, promC] using q
def sp_words_of_entry (C : Addr) : DSp := fun ds μ Q E => ∃ t, ds = [.str t] ∧ t.length ≤ 1000 ∧ match entP t with | some (s, d, w) => Q (.lst [.str s, .str d, .str w]) μ | none => E (.ref C) [("text", .str t)] μ
theorem len_words_of_entry (C : Addr) : ∀ ds μ Q E, sp_words_of_entry C ds μ Q E → ds.length = 1 := by
  rintro ds μ Q E ⟨t, rfl, _⟩; rfl
abbrev s_words_of_entry : Stmt := topS 24
theorem sc_words_of_entry : FnScope ["entry", "words"] ["entry"] (defScope s_words_of_entry) := ⟨rfl, rfl, rfl, by decide +kernel, rfl, by decide +kernel, by decide +kernel⟩
set_option maxHeartbeats 1000000 in
theorem ok_words_of_entry {P : Program} {w : World} {K : PySem.W.Frag} {mg : Str → Option Value} {base : Heap} {f : Addr} {fd : FuncData} {C_InvalidEntry : Addr} (D0 : DefAt K mg "words_of_entry" s_words_of_entry ["entry"] f fd) (E_InvalidEntry : ErrC P w K mg base C_InvalidEntry "InvalidEntry" "text") (z_len : mg "len" = none) (g_RELATIONS : Glob_RELATIONS K w mg) (g_DEEDS : Glob_DEEDS K w mg) (g_STANDINGS : Glob_STANDINGS K w mg) : FnOk P w K mg base (L2N.CX P w) (3) f fd ["entry"] (toSp K (sp_words_of_entry C_InvalidEntry)) := by
  obtain ⟨a_RELATIONS, m_RELATIONS, r_RELATIONS⟩ := g_RELATIONS
  obtain ⟨a_DEEDS, m_DEEDS, r_DEEDS⟩ := g_DEEDS
  obtain ⟨a_STANDINGS, m_STANDINGS, r_STANDINGS⟩ := g_STANDINGS
  refine fn_okX D0.F sc_words_of_entry (len_words_of_entry _) fun B EE cdv A outer s H E hr xr tk po => ⟨_, _, dss_cons (ds_set 1 sc_words_of_entry.nd (de_bm PySem.F.plainAttrs_str PySem.F.slot_str_split PySem.F.type_str_split (dm_split false) (dv 0) (da_cons (de_str) (da_nil))))
    (dss_cons (ds_if (DW.dt (dw_or (dt_cmp (do_ne hr) (de_callB dc_len (by rfl) z_len (by decide +kernel) (da_cons (dv 1) (da_nil))) (de_int)) (dw_or (dt_cmp do_nin (de_ix (dv 1) (de_int)) (de_glob (v := .ref a_STANDINGS) (by rfl) m_STANDINGS rfl r_STANDINGS) (by rfl)) (dw_or (dt_cmp do_nin (de_ix (dv 1) (de_int)) (de_glob (v := .ref a_DEEDS) (by rfl) m_DEEDS rfl r_DEEDS) (by rfl)) (dw_or1 (dt_cmp do_nin (de_ix (dv 1) (de_int)) (de_glob (v := .ref a_RELATIONS) (by rfl) m_RELATIONS rfl r_RELATIONS) (by rfl)))))))
      (dss_one (ds_raise rfl tk xr (dm_errC E_InvalidEntry (hr.mono (by decide)) (da_cons (dv 0) (da_nil)))))
      (dss_nil))
    (dss_one (ds_ret (dv 1)))), ?_⟩
  rintro ds μ Q ⟨t, rfl, hl, q⟩
  have hk : ¬ (" " : Str).length = 0 := by decide +kernel
  walk_at "dl0"
  walk_at "s"
  simp
  refine ⟨hk, sz_le (by omega), ?_⟩
  unfold entP at q
  generalize Txt.split t " " = ws at q ⊢
  subst hN
  by_cases h3 : ws.length = 3
  · match ws, h3 with
    | [s, d, w], _ =>
      walk_at "s"
      simp
      have es : (¬s = "look" ∧ ¬s = "peek" ∧ ¬s = "reserved") = (s ∉ stdL) := by simp [stdL]
      have ed : (¬d = "see" ∧ ¬d = "lend" ∧ ¬d = "reserve" ∧ ¬d = "mark" ∧ ¬d = "fill" ∧ ¬d = "pack" ∧ ¬d = "work") = (d ∉ deedL) := by simp [deedL]
      have ew : (¬w = "same" ∧ ¬w = "over" ∧ ¬w = "overbox" ∧ ¬w = "under" ∧ ¬w = "underbox") = (w ∉ relL) := by simp [relL]
      simp only [es, ed, ew]
      by_cases h1 : s ∈ stdL <;> by_cases h2 : d ∈ deedL <;> by_cases h4 : w ∈ relL <;> simp [entL, h1, h2, h4] at q ⊢ <;> first | exact q | (subst hN; simp; exact q)
  · rw [entL_no h3] at q
    have h4 : ¬ (ws.length : Int) = 3 := by omega
    walk_at "s"
    simp [h4]
    exact q
def sp_can_move : DSp := fun ds μ Q _ => ∃ d w : Str, ds = [.str d, .str w] ∧ Q (.bl (decide (d = "pack" ∨ d = "work") && decide (w = "overbox"))) μ
theorem len_can_move : ∀ ds μ Q E, sp_can_move ds μ Q E → ds.length = 2 := by
  rintro ds μ Q E ⟨d, w, rfl, _⟩; rfl
theorem e_can_move {d w : Str} {μ : Mu} {Q : QD} {E : XDt} (q : Q (.bl (decide (d = "pack" ∨ d = "work") && decide (w = "overbox"))) μ) : sp_can_move [.str d, .str w] μ Q E := ⟨d, w, rfl, q⟩
abbrev s_can_move : Stmt := topS 29
theorem sc_can_move : FnScope ["deed", "word"] ["deed", "word"] (defScope s_can_move) := ⟨rfl, rfl, rfl, by decide +kernel, rfl, by decide +kernel, by decide +kernel⟩
set_option maxHeartbeats 1000000 in
theorem ok_can_move {P : Program} {w : World} {K : PySem.W.Frag} {mg : Str → Option Value} {base : Heap} {f : Addr} {fd : FuncData}  (D0 : DefAt K mg "can_move" s_can_move ["deed", "word"] f fd) (g_MOVING : Glob_MOVING K w mg) : FnOk P w K mg base CX0 (1) f fd ["deed", "word"] (toSp K sp_can_move) := by
  obtain ⟨a_MOVING, m_MOVING, r_MOVING⟩ := g_MOVING
  refine fn_ok D0.F sc_can_move (len_can_move) fun B cdv A outer s H E hr => ⟨_, _, dss_one (ds_ret (de_and (de_cmp do_in (dv 0) (de_glob (v := .ref a_MOVING) (by rfl) m_MOVING rfl r_MOVING) (by rfl)) (de_one (de_cmp (do_eq hr) (dv 1) (de_str))))), ?_⟩
  rintro ds μ Q EE ⟨d, w, rfl, q⟩
  walk_at "dl0"
  simp
  split
  · next h => simpa [h] using q
  · next h => simpa [h] using q
def sp_Promise_reserved (C : Addr) : DSp := fun ds μ Q _ => ∃ x l r, ds = [.ptr x] ∧ μ x = some (promC C l r) ∧ Q (.str r) μ
theorem len_Promise_reserved (C : Addr) : ∀ ds μ Q E, sp_Promise_reserved C ds μ Q E → ds.length = 1 := by
  rintro ds μ Q E ⟨a, x, r, rfl, _⟩; rfl
abbrev s_Promise_reserved : Stmt := inClass (topS 28) 5
theorem sc_Promise_reserved : FnScope ["self"] ["self"] (defScope s_Promise_reserved) := ⟨rfl, rfl, rfl, by decide +kernel, rfl, by decide +kernel, by decide +kernel⟩
set_option maxHeartbeats 1000000 in
theorem ok_Promise_reserved {P : Program} {w : World} {K : PySem.W.Frag} {mg : Str → Option Value} {base : Heap} {f : Addr} {fd : FuncData} {C_Promise : Addr} (D0 : PropAt K C_Promise "reserved" "Promise.reserved" s_Promise_reserved ["self"] f fd) (K_Promise : Klass K mg C_Promise "Promise" ["_look", "_reserved"]) : FnOk P w K mg base CX0 (1) f fd ["self"] (toSp K (sp_Promise_reserved C_Promise)) := by
  refine fn_ok D0.F sc_Promise_reserved (len_Promise_reserved _) fun B cdv A outer s H E hr => ⟨_, _, dss_one (ds_ret (de_fld K_Promise.cl (K_Promise.na 1 _ rfl) (dv 0))), ?_⟩
  rintro ds μ Q EE ⟨x, l, r, rfl, hx, q⟩
  walk_at "dl0"
  simp [vw_prom hx]
  exact q
def sp_Promise_look (C : Addr) : DSp := fun ds μ Q _ => ∃ x l r, ds = [.ptr x] ∧ μ x = some (promC C l r) ∧ Q (.str l) μ
theorem len_Promise_look (C : Addr) : ∀ ds μ Q E, sp_Promise_look C ds μ Q E → ds.length = 1 := by
  rintro ds μ Q E ⟨a, x, r, rfl, _⟩; rfl
abbrev s_Promise_look : Stmt := inClass (topS 28) 3
theorem sc_Promise_look : FnScope ["self"] ["self"] (defScope s_Promise_look) := ⟨rfl, rfl, rfl, by decide +kernel, rfl, by decide +kernel, by decide +kernel⟩
set_option maxHeartbeats 1000000 in
theorem ok_Promise_look {P : Program} {w : World} {K : PySem.W.Frag} {mg : Str → Option Value} {base : Heap} {f : Addr} {fd : FuncData} {C_Promise : Addr} (D0 : PropAt K C_Promise "look" "Promise.look" s_Promise_look ["self"] f fd) (K_Promise : Klass K mg C_Promise "Promise" ["_look", "_reserved"]) : FnOk P w K mg base CX0 (1) f fd ["self"] (toSp K (sp_Promise_look C_Promise)) := by
  refine fn_ok D0.F sc_Promise_look (len_Promise_look _) fun B cdv A outer s H E hr => ⟨_, _, dss_one (ds_ret (de_fld K_Promise.cl (K_Promise.na 0 _ rfl) (dv 0))), ?_⟩
  rintro ds μ Q EE ⟨x, l, r, rfl, hx, q⟩
  walk_at "dl0"
  simp [vw_prom hx]
  exact q
def chgW (s d w : Str) : Bool := if d = "mark" then decide (w = "same") || (decide (s ≠ "peek") && decide (w ∈ (["under", "underbox"] : List Str)))
  else if d = "fill" ∨ d = "work" then decide (s ≠ "peek") || decide (w ∈ (["same", "over", "overbox"] : List Str)) else false
def sp_can_change : DSp := fun ds μ Q _ => ∃ s d w : Str, ds = [.str s, .str d, .str w] ∧ Q (.bl (chgW s d w)) μ
theorem len_can_change : ∀ ds μ Q E, sp_can_change ds μ Q E → ds.length = 3 := by
  rintro ds μ Q E ⟨s, d, w, rfl, _⟩; rfl
theorem e_can_change {s d w : Str} {μ : Mu} {Q : QD} {E : XDt} (q : Q (.bl (chgW s d w)) μ) : sp_can_change [.str s, .str d, .str w] μ Q E := ⟨s, d, w, rfl, q⟩
abbrev s_can_change : Stmt := topS 30
theorem sc_can_change : FnScope ["standing", "deed", "word"] ["standing", "deed", "word"] (defScope s_can_change) := ⟨rfl, rfl, rfl, by decide +kernel, rfl, by decide +kernel, by decide +kernel⟩
set_option maxHeartbeats 1000000 in
theorem ok_can_change {P : Program} {w : World} {K : PySem.W.Frag} {mg : Str → Option Value} {base : Heap} {f : Addr} {fd : FuncData}  (D0 : DefAt K mg "can_change" s_can_change ["standing", "deed", "word"] f fd)  : FnOk P w K mg base CX0 (1) f fd ["standing", "deed", "word"] (toSp K sp_can_change) := by
  refine fn_ok D0.F sc_can_change (len_can_change) fun B cdv A outer s H E hr => ⟨_, _, dss_cons (ds_if (dt_cmp (do_eq hr) (dv 1) (de_str))
      (dss_one (ds_ret (de_or (de_cmp (do_eq hr) (dv 2) (de_str)) (de_one (de_and (de_cmp (do_ne hr) (dv 0) (de_str)) (de_one (de_cmp do_in (dv 2) (de_tup (da_cons (de_str) (da_cons (de_str) (da_nil)))) (by rfl))))))))
      (dss_nil))
    (dss_cons (ds_if (dt_cmp do_in (dv 1) (de_tup (da_cons (de_str) (da_cons (de_str) (da_nil)))) (by rfl))
      (dss_one (ds_ret (de_or (de_cmp (do_ne hr) (dv 0) (de_str)) (de_one (de_cmp do_in (dv 2) (de_tup (da_cons (de_str) (da_cons (de_str) (da_cons (de_str) (da_nil))))) (by rfl))))))
      (dss_nil))
    (dss_one (ds_ret (de_bl)))), ?_⟩
  rintro ds μ Q EE ⟨s, d, w, rfl, q⟩
  have k2 : 2 ≤ sizeLine := sz_le (by decide)
  have k3 : 3 ≤ sizeLine := sz_le (by decide)
  walk_at "dl0"
  walk_at "s"
  simp
  unfold chgW at q
  split
  · next h =>
    rw [if_pos h] at q
    split
    · next h2 => simpa [h2] using q
    · next h2 =>
      split
      · next h4 => simpa [h2, h4] using q
      · next h4 => exact ⟨k2, by simpa [h2, h4] using q⟩
  · next h =>
    rw [if_neg h] at q
    subst hN
    walk_at "s"
    simp
    refine ⟨k2, ?_⟩
    split
    · next h2 =>
      rw [if_pos h2] at q
      split
      · next h4 => exact ⟨k3, by simpa [h4] using q⟩
      · next h4 => simpa [h4] using q
    · next h2 =>
      rw [if_neg h2] at q
      subst hN
      simp
      exact q
def harmP (s d w l r : Str) : Bool := decide (d ∈ strongL) && ((decide (d = "pack" ∨ d = "work") && decide (w = "overbox")) || (decide ((if s = "reserved" then r else l) = "kept") && chgW s d w))
theorem harmP_eq : ∀ s ∈ stdL, ∀ d ∈ deedL, ∀ w ∈ relL, ∀ l ∈ ([("fresh" : Str), "kept"]), ∀ r ∈ ([("fresh" : Str), "kept"]), harmP s d w l r = harmW s d w l r := by decide +kernel
def sp_harmful (C D : Addr) : DSp := fun ds μ Q E => ∃ t x l r, ds = [.str t, .ptr x] ∧ t.length ≤ 1000 ∧ PW l ∧ PW r ∧ μ x = some (promC C l r) ∧ match entP t with | some (s, d, w) => Q (.bl (harmW s d w l r)) μ | none => E (.ref D) [("text", .str t)] μ
theorem len_harmful (C D : Addr) : ∀ ds μ Q E, sp_harmful C D ds μ Q E → ds.length = 2 := by
  rintro ds μ Q E ⟨a, x, r, w, rfl, _⟩; rfl
abbrev s_harmful : Stmt := topS 31
theorem sc_harmful : FnScope ["entry", "promise", "standing", "deed", "word", "relied"] ["entry", "promise"] (defScope s_harmful) := ⟨rfl, rfl, rfl, by decide +kernel, rfl, by decide +kernel, by decide +kernel⟩
set_option maxHeartbeats 1000000 in
theorem ok_harmful {P : Program} {w : World} {K : PySem.W.Frag} {mg : Str → Option Value} {base : Heap} {f : Addr} {fd : FuncData} {C_Promise : Addr} {C_InvalidEntry : Addr} (D0 : DefAt K mg "harmful" s_harmful ["entry", "promise"] f fd) (c_words_of_entry : CalledX P w K mg base 3 "words_of_entry" ["entry"] (sp_words_of_entry C_InvalidEntry)) (c_can_move : Called P w K mg base 1 "can_move" ["deed", "word"] sp_can_move) (c_Promise_reserved : Got P w K mg base 1 C_Promise "reserved" ["self"] (sp_Promise_reserved C_Promise)) (c_Promise_look : Got P w K mg base 1 C_Promise "look" ["self"] (sp_Promise_look C_Promise)) (c_can_change : Called P w K mg base 1 "can_change" ["standing", "deed", "word"] sp_can_change) (K_Promise : Klass K mg C_Promise "Promise" ["_look", "_reserved"]) (g_STRONG : Glob_STRONG K w mg) : FnOk P w K mg base (L2N.CX P w) (4) f fd ["entry", "promise"] (toSp K (sp_harmful C_Promise C_InvalidEntry)) := by
  obtain ⟨f_words_of_entry, d_words_of_entry, m_words_of_entry, k_words_of_entry, b_words_of_entry, F_words_of_entry⟩ := c_words_of_entry
  obtain ⟨f_can_move, d_can_move, m_can_move, k_can_move, b_can_move, F_can_move⟩ := c_can_move
  obtain ⟨r_Promise_reserved, f_Promise_reserved, d_Promise_reserved, p_Promise_reserved, b_Promise_reserved, F_Promise_reserved⟩ := c_Promise_reserved
  obtain ⟨r_Promise_look, f_Promise_look, d_Promise_look, p_Promise_look, b_Promise_look, F_Promise_look⟩ := c_Promise_look
  obtain ⟨f_can_change, d_can_change, m_can_change, k_can_change, b_can_change, F_can_change⟩ := c_can_change
  obtain ⟨a_STRONG, m_STRONG, r_STRONG⟩ := g_STRONG
  refine fn_okX D0.F sc_harmful (len_harmful _ _) fun B EE cdv A outer s H E hr xr tk po => ⟨_, _, dss_cons (ds_asg (de_callX F_words_of_entry tk xr (hr.mono (by decide)) m_words_of_entry k_words_of_entry b_words_of_entry (da_cons (dv 0) (da_nil))) (dg_lst (n := 3) rfl (dgs_cons (dg_name 2 sc_harmful.nd) (dgs_cons (dg_name 3 sc_harmful.nd) (dgs_cons (dg_name 4 sc_harmful.nd) (dgs_nil))))))
    (dss_cons (ds_if (dt_cmp do_nin (dv 3) (de_glob (v := .ref a_STRONG) (by rfl) m_STRONG rfl r_STRONG) (by rfl))
      (dss_one (ds_ret (de_bl)))
      (dss_nil))
    (dss_cons (ds_if (dt_tru (de_call F_can_move (hr.mono (by decide)) m_can_move k_can_move b_can_move (da_cons (dv 3) (da_cons (dv 4) (da_nil)))))
      (dss_one (ds_ret (de_bl)))
      (dss_nil))
    (dss_cons (ds_set 5 sc_harmful.nd (de_ifExp (dt_cmp (do_eq hr) (dv 2) (de_str)) (de_prop K_Promise.cl p_Promise_reserved F_Promise_reserved (hr.mono (by decide)) b_Promise_reserved (dv 1)) (de_prop K_Promise.cl p_Promise_look F_Promise_look (hr.mono (by decide)) b_Promise_look (dv 1))))
    (dss_one (ds_ret (de_and (de_cmp (do_eq hr) (dv 5) (de_str)) (de_one (de_call F_can_change (hr.mono (by decide)) m_can_change k_can_change b_can_change (da_cons (dv 2) (da_cons (dv 3) (da_cons (dv 4) (da_nil)))))))))))), ?_⟩
  rintro ds μ Q ⟨t, x, l, r, rfl, ht, hl, hr2, hx, q⟩
  walk_at "dl0"
  walk_at "s"
  simp
  refine ⟨t, rfl, ht, ?_⟩
  cases he0 : entP t with
  | none => rw [he0] at q; exact q
  | some p =>
  obtain ⟨s, d, w⟩ := p
  rw [he0] at q
  obtain ⟨rfl, hs, hd, hw⟩ := entP_some he0
  have he := harmP_eq s hs d hd w hw l (by simpa using hl) r (by simpa using hr2)
  simp only [← he] at q
  unfold harmP at q
  simp
  subst hN
  walk_at "s"
  simp
  split
  · next h => 
    have hn : d ∉ strongL := by simpa [strongL] using h
    simpa [hn] using q
  next h =>
  have hst : d ∈ strongL := Decidable.byContradiction fun c => h (by simpa [strongL] using c)
  rw [decide_eq_true hst, Bool.true_and] at q
  subst hN
  walk_at "s"
  simp
  refine e_can_move ?_
  simp only [vw_bl]
  split
  · next hm => rw [hm] at q; simpa using q
  next hm =>
  rw [show (decide (d = "pack" ∨ d = "work") && decide (w = "overbox")) = false by simpa using hm, Bool.false_or] at q
  subst hN
  walk_at "s"
  simp [vw_prom hx]
  have fin : ∀ z : Str, z = (if s = "reserved" then r else l) → N [some (.str (entOf s d w)), some (.ptr x), some (.str s), some (.str d), some (.str w), some (.str z)] μ := by
    rintro z rfl
    generalize (if s = ("reserved" : Str) then r else l) = z at q
    subst hN
    simp
    split
    · next h => exact e_can_change (by simpa [h] using q)
    · next h => simpa [h] using q
  split
  · next h => exact ⟨x, l, r, rfl, hx, fin r (by rw [if_pos h])⟩
  · next h => exact ⟨x, l, r, rfl, hx, fin l (by rw [if_neg h])⟩
def toldD (t l r : Str) : D := match entP t with
  | some (s, d, w) => .tup [.str "told", .bl (harmW s d w l r)]
  | none => .tup [.str "InvalidEntry", .str t]
def sp__law_told (C : Addr) : DSp := fun ds μ Q _ => ∃ t x l r, ds = [.str t, .ptr x] ∧ t.length ≤ 1000 ∧ PW l ∧ PW r ∧ μ x = some (promC C l r) ∧ Q (toldD t l r) μ
theorem len__law_told (C : Addr) : ∀ ds μ Q E, sp__law_told C ds μ Q E → ds.length = 2 := by
  rintro ds μ Q E ⟨t, x, l, r, rfl, _⟩; rfl
abbrev s__law_told : Stmt := topS 46
theorem sc__law_told : FnScope ["text", "promise", "e"] ["text", "promise"] (defScope s__law_told) := ⟨rfl, rfl, rfl, by decide +kernel, rfl, by decide +kernel, by decide +kernel⟩
set_option maxHeartbeats 1000000 in
theorem ok__law_told {P : Program} {w : World} {K : PySem.W.Frag} {mg : Str → Option Value} {base : Heap} {f : Addr} {fd : FuncData} {C_Promise : Addr} {C_LentError : Addr} {C_InvalidEntry : Addr} {C_InvalidName : Addr} {C_InvalidProgram : Addr} {C_InvalidPromise : Addr} {C_InvalidRule : Addr} {C_NotBeneath : Addr} {C_InvalidPlace : Addr} {C_NotParted : Addr} {C_NothingLeft : Addr} {C_TooMany : Addr} {C_Unsound : Addr} {C_NotMendable : Addr} {C_NotSharing : Addr} {C_Stale : Addr} {C_OverPower : Addr} {C_Rejected : Addr} {C_Occupied : Addr} (D0 : DefAt K mg "_law_told" s__law_told ["text", "promise"] f fd) (c_harmful : CalledX P w K mg base 4 "harmful" ["entry", "promise"] (sp_harmful C_Promise C_InvalidEntry)) (E_InvalidEntry : ErrC P w K mg base C_InvalidEntry "InvalidEntry" "text") (n_LentError : mg "LentError" = some (.ref C_LentError)) (n_InvalidName : mg "InvalidName" = some (.ref C_InvalidName)) (n_InvalidProgram : mg "InvalidProgram" = some (.ref C_InvalidProgram)) (n_InvalidPromise : mg "InvalidPromise" = some (.ref C_InvalidPromise)) (n_InvalidRule : mg "InvalidRule" = some (.ref C_InvalidRule)) (n_NotBeneath : mg "NotBeneath" = some (.ref C_NotBeneath)) (n_InvalidPlace : mg "InvalidPlace" = some (.ref C_InvalidPlace)) (n_NotParted : mg "NotParted" = some (.ref C_NotParted)) (n_NothingLeft : mg "NothingLeft" = some (.ref C_NothingLeft)) (n_TooMany : mg "TooMany" = some (.ref C_TooMany)) (n_Unsound : mg "Unsound" = some (.ref C_Unsound)) (n_NotMendable : mg "NotMendable" = some (.ref C_NotMendable)) (n_NotSharing : mg "NotSharing" = some (.ref C_NotSharing)) (n_Stale : mg "Stale" = some (.ref C_Stale)) (n_OverPower : mg "OverPower" = some (.ref C_OverPower)) (n_Rejected : mg "Rejected" = some (.ref C_Rejected)) (n_Occupied : mg "Occupied" = some (.ref C_Occupied)) (n_InvalidEntry : mg "InvalidEntry" = some (.ref C_InvalidEntry)) (xm_InvalidEntry_LentError : PySem.W.exmOne K (.ref C_InvalidEntry) (.ref C_LentError) = some true) (ki_InvalidEntry_InvalidName : PySem.W.kitOne K (.ref C_InvalidEntry) (.ref C_InvalidName) = some false) (ki_InvalidEntry_InvalidProgram : PySem.W.kitOne K (.ref C_InvalidEntry) (.ref C_InvalidProgram) = some false) (ki_InvalidEntry_InvalidPromise : PySem.W.kitOne K (.ref C_InvalidEntry) (.ref C_InvalidPromise) = some false) (ki_InvalidEntry_InvalidRule : PySem.W.kitOne K (.ref C_InvalidEntry) (.ref C_InvalidRule) = some false) (ki_InvalidEntry_NotBeneath : PySem.W.kitOne K (.ref C_InvalidEntry) (.ref C_NotBeneath) = some false) (ki_InvalidEntry_InvalidPlace : PySem.W.kitOne K (.ref C_InvalidEntry) (.ref C_InvalidPlace) = some false) (ki_InvalidEntry_NotParted : PySem.W.kitOne K (.ref C_InvalidEntry) (.ref C_NotParted) = some false) (ki_InvalidEntry_NothingLeft : PySem.W.kitOne K (.ref C_InvalidEntry) (.ref C_NothingLeft) = some false) (ki_InvalidEntry_TooMany : PySem.W.kitOne K (.ref C_InvalidEntry) (.ref C_TooMany) = some false) (ki_InvalidEntry_Unsound : PySem.W.kitOne K (.ref C_InvalidEntry) (.ref C_Unsound) = some false) (ki_InvalidEntry_NotMendable : PySem.W.kitOne K (.ref C_InvalidEntry) (.ref C_NotMendable) = some false) (ki_InvalidEntry_NotSharing : PySem.W.kitOne K (.ref C_InvalidEntry) (.ref C_NotSharing) = some false) (ki_InvalidEntry_Stale : PySem.W.kitOne K (.ref C_InvalidEntry) (.ref C_Stale) = some false) (ki_InvalidEntry_OverPower : PySem.W.kitOne K (.ref C_InvalidEntry) (.ref C_OverPower) = some false) (ki_InvalidEntry_Rejected : PySem.W.kitOne K (.ref C_InvalidEntry) (.ref C_Rejected) = some false) (ki_InvalidEntry_Occupied : PySem.W.kitOne K (.ref C_InvalidEntry) (.ref C_Occupied) = some false) (ki_InvalidEntry_ValueError : PySem.W.kitOne K (.ref C_InvalidEntry) (.type "ValueError") = some true) (ki_InvalidEntry_InvalidEntry : PySem.W.kitOne K (.ref C_InvalidEntry) (.ref C_InvalidEntry) = some true) (z_isinstance : mg "isinstance" = none) (z_ValueError : mg "ValueError" = none) : FnOk P w K mg base CX0 (5) f fd ["text", "promise"] (toSp K (sp__law_told C_Promise)) := by
  obtain ⟨f_harmful, d_harmful, m_harmful, k_harmful, b_harmful, F_harmful⟩ := c_harmful
  refine fn_ok D0.F sc__law_told (len__law_told _) fun B cdv A outer s H E hr => ⟨_, _, dss_cons (ds_try_asA (i := 2) rfl rfl sc__law_told.nd rfl rfl ⟨rfl, by decide, .inl n_LentError⟩ takes0N XRel.no
      (fun W V B pn xe gb xr tk po => dss_one (ds_ret (de_tup (da_cons (de_str) (da_cons (de_callX F_harmful tk xr (hr.mono (by decide)) m_harmful k_harmful b_harmful (da_cons (dv 0) (da_cons (dv 1) (da_nil)))) (da_nil))))))
      (fun a oe cls d pn B fs xs hz hf => dss_cons (ds_if (dt_tru (de_isEt (a := a) (cls := cls) (d := d) (fs := fs) (C := C_InvalidEntry) xs E_InvalidEntry.ec hz hf (dv 2) (.cons n_InvalidPlace (.cons n_NotBeneath (.cons n_InvalidRule (.cons n_InvalidPromise (.cons n_InvalidProgram (.cons n_InvalidName (.nil))))))) (hm := z_isinstance)))
        (dss_one (ds_ret (de_tup (da_cons (de_str) (da_cons (de_str) (da_nil))))))
        (dss_nil))
      (dss_cons (ds_if (dt_tru (de_isEt (a := a) (cls := cls) (d := d) (fs := fs) (C := C_InvalidEntry) xs E_InvalidEntry.ec hz hf (dv 2) (.cons n_OverPower (.cons n_Stale (.cons n_NotSharing (.cons n_NotMendable (.cons n_Unsound (.cons n_TooMany (.cons n_NothingLeft (.cons n_NotParted (.nil))))))))) (hm := z_isinstance)))
        (dss_one (ds_ret (de_tup (da_cons (de_str) (da_cons (de_str) (da_nil))))))
        (dss_nil))
      (dss_cons (ds_if (dt_tru (de_isEt (a := a) (cls := cls) (d := d) (fs := fs) (C := C_InvalidEntry) xs E_InvalidEntry.ec hz hf (dv 2) (.cons n_Occupied (.cons n_Rejected (.nil))) (hm := z_isinstance)))
        (dss_one (ds_ret (de_tup (da_cons (de_str) (da_cons (de_str) (da_nil))))))
        (dss_nil))
      (dss_one (ds_if (DW.dt (dw_and (dt_tru (de_isE (a := a) (cls := cls) (d := d) (fs := fs) (C := C_InvalidEntry) (C2 := C_InvalidEntry) xs E_InvalidEntry.ec hz hf (dv 2) z_isinstance n_InvalidEntry)) (dw_and1 (dt_tru (de_isEb (a := a) (cls := cls) (d := d) (fs := fs) (C := C_InvalidEntry) "ValueError" xs E_InvalidEntry.ec hz hf (dv 2) z_isinstance z_ValueError (by decide +kernel))))))
        (dss_one (ds_ret (de_tup (da_cons (de_str) (da_cons (de_xf (a := a) (cls := cls) (d := d) (fs := fs) (C := C_InvalidEntry) xs E_InvalidEntry.xf E_InvalidEntry.no hz hf (dv 2)) (da_nil))))))
        (dss_nil)))))))
    (dss_one (ds_ret (de_tup (da_cons (de_str) (da_cons (de_str) (da_nil)))))), ?_⟩
  rintro ds μ Q EE ⟨t, x, l, r, rfl, ht, hl, hr2, hx, q⟩
  walk_at "dl0"
  walk_at "s"
  simp
  refine ⟨t, x, l, r, rfl, ht, hl, hr2, hx, ?_⟩
  unfold toldD at q
  cases h : entP t with
  | some p =>
    obtain ⟨s, d, w⟩ := p
    rw [h] at q
    exact ⟨sz_le (by omega), q⟩
  | none =>
    rw [h] at q
    refine (asV_yes (K := K) xm_InvalidEntry_LentError).mpr fun a ha => ?_
    have hKK : (cxOf CX0 P w K mg base ["text", "promise", "e"] "_law_told" (defScope s__law_told) f cdv A outer s H E).K = K := rfl
    simp only [hKK]
    simp [PySem.W.kitAny, *]
    exact sz_le (by omega)
def sp_Promise___str__ (C : Addr) : DSp := fun ds μ Q _ => ∃ x l r, ds = [.ptr x] ∧ μ x = some (promC C l r) ∧ PW l ∧ PW r ∧ Q (.str (l ++ " " ++ r)) μ
theorem len_Promise___str__ (C : Addr) : ∀ ds μ Q E, sp_Promise___str__ C ds μ Q E → ds.length = 1 := by
  rintro ds μ Q E ⟨a, x, y, rfl, _⟩; rfl
abbrev s_Promise___str__ : Stmt := inClass (topS 28) 8
theorem sc_Promise___str__ : FnScope ["self"] ["self"] (defScope s_Promise___str__) := ⟨rfl, rfl, rfl, by decide +kernel, rfl, by decide +kernel, by decide +kernel⟩
set_option maxHeartbeats 1000000 in
theorem ok_Promise___str__ {P : Program} {w : World} {K : PySem.W.Frag} {mg : Str → Option Value} {base : Heap} {f : Addr} {fd : FuncData} {C_Promise : Addr} (D0 : MethAt K C_Promise "__str__" "Promise.__str__" s_Promise___str__ ["self"] f fd) (K_Promise : Klass K mg C_Promise "Promise" ["_look", "_reserved"]) : FnOk P w K mg base CX0 (1) f fd ["self"] (toSp K (sp_Promise___str__ C_Promise)) := by
  refine fn_ok D0.F sc_Promise___str__ (len_Promise___str__ _) fun B cdv A outer s H E hr => ⟨_, _, dss_one (ds_ret (de_joined (.cons (de_fmt (de_fld K_Promise.cl (K_Promise.na 0 _ rfl) (dv 0))) (.cons (de_str) (.cons (de_fmt (de_fld K_Promise.cl (K_Promise.na 1 _ rfl) (dv 0))) (.nil)))))), ?_⟩
  rintro ds μ Q EE ⟨x, l, r, rfl, hx, hl, hr, q⟩
  walk_at "dl0"
  simp [vw_prom hx]
  have hp : ∀ {w : Str}, PW w → w.length ≤ 5 := by rintro w (rfl | rfl) <;> decide
  have h1 := hp hl
  have h2 := hp hr
  have h3 : (" " : Str).length = 1 := by decide
  simp only [Str.length_append, h3]
  exact ⟨sz_le (by omega), sz_le (by omega), sz_le (by omega), sz_le (by omega), q⟩
def sp__law_standings : DSp := fun ds μ Q _ => ds = [] ∧ Q (.lst stdV) μ
theorem len__law_standings : ∀ ds μ Q E, sp__law_standings ds μ Q E → ds.length = 0 := by
  rintro ds μ Q E ⟨rfl, _⟩; rfl
@[simp ↓] theorem e__law_standings {μ : Mu} {Q : QD} {E : XDt} : sp__law_standings [] μ Q E = Q (.lst stdV) μ := by simp [sp__law_standings]
abbrev s__law_standings : Stmt := topS 38
theorem sc__law_standings : FnScope [] [] (defScope s__law_standings) := ⟨rfl, rfl, rfl, by decide +kernel, rfl, by decide +kernel, by decide +kernel⟩
set_option maxHeartbeats 1000000 in
theorem ok__law_standings {P : Program} {w : World} {K : PySem.W.Frag} {mg : Str → Option Value} {base : Heap} {f : Addr} {fd : FuncData}  (D0 : DefAt K mg "_law_standings" s__law_standings [] f fd)  : FnOk P w K mg base CX0 (1) f fd [] (toSp K sp__law_standings) := by
  refine fn_ok D0.F sc__law_standings (len__law_standings) fun B cdv A outer s H E hr => ⟨_, _, dss_one (ds_ret (de_lst false (da_cons (de_str) (da_cons (de_str) (da_cons (de_str) (da_nil)))))), ?_⟩
  rintro ds μ Q EE ⟨rfl, q⟩
  simp
  exact ⟨sz_le (by decide), q⟩
def sp__law_deeds : DSp := fun ds μ Q _ => ds = [] ∧ Q (.lst deedV) μ
theorem len__law_deeds : ∀ ds μ Q E, sp__law_deeds ds μ Q E → ds.length = 0 := by
  rintro ds μ Q E ⟨rfl, _⟩; rfl
@[simp ↓] theorem e__law_deeds {μ : Mu} {Q : QD} {E : XDt} : sp__law_deeds [] μ Q E = Q (.lst deedV) μ := by simp [sp__law_deeds]
abbrev s__law_deeds : Stmt := topS 39
theorem sc__law_deeds : FnScope [] [] (defScope s__law_deeds) := ⟨rfl, rfl, rfl, by decide +kernel, rfl, by decide +kernel, by decide +kernel⟩
set_option maxHeartbeats 1000000 in
theorem ok__law_deeds {P : Program} {w : World} {K : PySem.W.Frag} {mg : Str → Option Value} {base : Heap} {f : Addr} {fd : FuncData}  (D0 : DefAt K mg "_law_deeds" s__law_deeds [] f fd)  : FnOk P w K mg base CX0 (1) f fd [] (toSp K sp__law_deeds) := by
  refine fn_ok D0.F sc__law_deeds (len__law_deeds) fun B cdv A outer s H E hr => ⟨_, _, dss_one (ds_ret (de_lst false (da_cons (de_str) (da_cons (de_str) (da_cons (de_str) (da_cons (de_str) (da_cons (de_str) (da_cons (de_str) (da_cons (de_str) (da_nil)))))))))), ?_⟩
  rintro ds μ Q EE ⟨rfl, q⟩
  simp
  exact ⟨sz_le (by decide), q⟩
def sp__law_relations : DSp := fun ds μ Q _ => ds = [] ∧ Q (.lst relV) μ
theorem len__law_relations : ∀ ds μ Q E, sp__law_relations ds μ Q E → ds.length = 0 := by
  rintro ds μ Q E ⟨rfl, _⟩; rfl
@[simp ↓] theorem e__law_relations {μ : Mu} {Q : QD} {E : XDt} : sp__law_relations [] μ Q E = Q (.lst relV) μ := by simp [sp__law_relations]
abbrev s__law_relations : Stmt := topS 41
theorem sc__law_relations : FnScope [] [] (defScope s__law_relations) := ⟨rfl, rfl, rfl, by decide +kernel, rfl, by decide +kernel, by decide +kernel⟩
set_option maxHeartbeats 1000000 in
theorem ok__law_relations {P : Program} {w : World} {K : PySem.W.Frag} {mg : Str → Option Value} {base : Heap} {f : Addr} {fd : FuncData}  (D0 : DefAt K mg "_law_relations" s__law_relations [] f fd)  : FnOk P w K mg base CX0 (1) f fd [] (toSp K sp__law_relations) := by
  refine fn_ok D0.F sc__law_relations (len__law_relations) fun B cdv A outer s H E hr => ⟨_, _, dss_one (ds_ret (de_lst false (da_cons (de_str) (da_cons (de_str) (da_cons (de_str) (da_cons (de_str) (da_cons (de_str) (da_nil)))))))), ?_⟩
  rintro ds μ Q EE ⟨rfl, q⟩
  simp
  exact ⟨sz_le (by decide), q⟩
def sp__law_entries : DSp := fun ds μ Q _ => ds = [] ∧ Q (.lst (allE.map .str)) μ
theorem len__law_entries : ∀ ds μ Q E, sp__law_entries ds μ Q E → ds.length = 0 := by
  rintro ds μ Q E ⟨rfl, _⟩; rfl
@[simp ↓] theorem e__law_entries {μ : Mu} {Q : QD} {E : XDt} : sp__law_entries [] μ Q E = Q (.lst (allE.map .str)) μ := by simp [sp__law_entries]
abbrev s__law_entries : Stmt := topS 42
theorem sc__law_entries : FnScope ["rows", "standing", "deed", "word"] [] (defScope s__law_entries) := ⟨rfl, rfl, rfl, by decide +kernel, rfl, by decide +kernel, by decide +kernel⟩
set_option maxHeartbeats 1000000 in
theorem ok__law_entries {P : Program} {w : World} {K : PySem.W.Frag} {mg : Str → Option Value} {base : Heap} {f : Addr} {fd : FuncData}  (D0 : DefAt K mg "_law_entries" s__law_entries [] f fd) (c__law_standings : Called P w K mg base 1 "_law_standings" [] sp__law_standings) (c__law_deeds : Called P w K mg base 1 "_law_deeds" [] sp__law_deeds) (c__law_relations : Called P w K mg base 1 "_law_relations" [] sp__law_relations) : FnOk P w K mg base CX0 (2) f fd [] (toSp K sp__law_entries) := by
  obtain ⟨f__law_standings, d__law_standings, m__law_standings, k__law_standings, b__law_standings, F__law_standings⟩ := c__law_standings
  obtain ⟨f__law_deeds, d__law_deeds, m__law_deeds, k__law_deeds, b__law_deeds, F__law_deeds⟩ := c__law_deeds
  obtain ⟨f__law_relations, d__law_relations, m__law_relations, k__law_relations, b__law_relations, F__law_relations⟩ := c__law_relations
  refine fn_ok D0.F sc__law_entries (len__law_entries) fun B cdv A outer s H E hr => ⟨_, _, dss_cons (ds_set 0 sc__law_entries.nd (de_lst true (da_nil)))
    (dss_cons (ds_for PassesOwn.never rfl (di_list (de_call0 F__law_standings (hr.mono (by decide)) m__law_standings k__law_standings b__law_standings)) (dg_name 1 sc__law_entries.nd)
      (dss_one (ds_for PassesOwn.never rfl (di_list (de_call0 F__law_deeds (hr.mono (by decide)) m__law_deeds k__law_deeds b__law_deeds)) (dg_name 2 sc__law_entries.nd)
        (dss_one (ds_for PassesOwn.never rfl (di_list (de_call0 F__law_relations (hr.mono (by decide)) m__law_relations k__law_relations b__law_relations)) (dg_name 3 sc__law_entries.nd)
          (dss_one (ds_expr (de_bm PySem.F.plainAttrs_list PySem.F.slot_list_append PySem.F.type_list_append dm_append (dv 0) (da_cons (de_op do_add (de_op do_add (de_op do_add (de_op do_add (dv 1) (de_str)) (dv 2)) (de_str)) (dv 3)) (da_nil))))))))))
    (dss_one (ds_ret (de_frz (dv 0))))), ?_⟩
  rintro ds μ Q EE ⟨rfl, q⟩
  walk_at "dl0"
  walk_at "s"
  simp
  refine fun p hp => ?_
  subst hN
  walk_at "s"
  simp
  show loopL _ _ _ (stdL.map .str) _ _
  refine loop_it (fun r ρ μ' => ∃ (d1 d2 : List Str) (k1 k2 k3 : Option D), stdL = d1 ++ d2 ∧ r = d2.map .str ∧ ρ = [some (.ptr p), k1, k2, k3] ∧ μ' = mup μ p (.lst ((wrE d1 deedL relL).map .str))) ⟨[], stdL, none, none, none, rfl, rfl, rfl, rfl⟩ ?_ ?_
  · rintro ρ μ' ⟨d1, d2, k1, k2, k3, e, h1, rfl, rfl⟩
    have h2 : d2 = [] := by simpa using h1.symm
    subst h2
    rw [List.append_nil] at e
    subst e
    show N _ _
    subst hN
    simp [mdel_mup hp]
    exact q
  · rintro y r ρ μ' M ⟨d1, d2, k1, k2, k3, e, h1, rfl, rfl⟩ hM
    cases d2 with
    | nil => simp at h1
    | cons s d2 =>
      simp only [List.map_cons, List.cons.injEq] at h1
      obtain ⟨rfl, rfl⟩ := h1
      have hs : s ∈ stdL := by rw [e]; simp
      have hd1 : d1.length ≤ 2 := by have := congrArg List.length e; simp at this; omega
      simp
      show loopL _ _ _ (deedL.map .str) _ _
      refine loop_it (fun r ρ μ' => ∃ (e1 e2 : List Str) (k2 k3 : Option D), deedL = e1 ++ e2 ∧ r = e2.map .str ∧ ρ = [some (.ptr p), some (.str s), k2, k3] ∧ μ' = mup μ p (.lst ((wrE d1 deedL relL ++ wrE [s] e1 relL).map .str))) ⟨[], deedL, k2, k3, rfl, rfl, rfl, by simp [wrE]⟩ ?_ ?_
      · rintro ρ μ' ⟨e1, e2, k2, k3, e', h1, rfl, rfl⟩
        have h2 : e2 = [] := by simpa using h1.symm
        subst h2
        rw [List.append_nil] at e'
        subst e'
        simp
        refine hM _ _ ⟨d1 ++ [s], d2, _, _, _, by rw [e]; simp, rfl, rfl, by simp [wrE]⟩
      · rintro y r ρ μ' M2 ⟨e1, e2, k2, k3, e', h1, rfl, rfl⟩ hM2
        cases e2 with
        | nil => simp at h1
        | cons d e2 =>
          simp only [List.map_cons, List.cons.injEq] at h1
          obtain ⟨rfl, rfl⟩ := h1
          have hd : d ∈ deedL := by rw [e']; simp
          have he1 : e1.length ≤ 6 := by have := congrArg List.length e'; simp at this; omega
          simp
          show loopL _ _ _ (relL.map .str) _ _
          refine loop_it (fun r ρ μ' => ∃ (f1 f2 : List Str) (k3 : Option D), relL = f1 ++ f2 ∧ r = f2.map .str ∧ ρ = [some (.ptr p), some (.str s), some (.str d), k3] ∧ μ' = mup μ p (.lst ((wrE d1 deedL relL ++ wrE [s] e1 relL ++ wrE [s] [d] f1).map .str))) ⟨[], relL, k3, rfl, rfl, rfl, by simp [wrE]⟩ ?_ ?_
          · rintro ρ μ' ⟨f1, f2, k3, e'', h1, rfl, rfl⟩
            have h2 : f2 = [] := by simpa using h1.symm
            subst h2
            rw [List.append_nil] at e''
            subst e''
            simp
            exact hM2 _ _ ⟨e1 ++ [d], e2, _, _, by rw [e']; simp, rfl, rfl, by simp [wrE]⟩
          · rintro y r ρ μ' M3 ⟨f1, f2, k3, e'', h1, rfl, rfl⟩ hM3
            cases f2 with
            | nil => simp at h1
            | cons v f2 =>
              simp only [List.map_cons, List.cons.injEq] at h1
              obtain ⟨rfl, rfl⟩ := h1
              have hv : v ∈ relL := by rw [e'']; simp
              have hf1 : f1.length ≤ 4 := by have := congrArg List.length e''; simp at this; omega
              have l1 := (wd_std s hs).2.2.2.2.2
              have l2 := (wd_deed d hd).2.2.2.2.2
              have l3 := (wd_rel v hv).2.2.2.2.2
              have lb : (" " : Str).length = 1 := by decide +kernel
              have lw : (wrE d1 deedL relL ++ wrE [s] e1 relL ++ wrE [s] [d] f1).length ≤ 200 := by
                simp only [List.length_append, wrE_len, List.length_cons, List.length_nil]
                have h1 : d1.length * (7 * 5) ≤ 2 * 35 := Nat.mul_le_mul hd1 (by decide)
                omega
              simp only [List.length_append] at lw
              simp [app_len, lb, szl]
              refine ⟨by omega, by omega, by omega, by omega, by omega, hM3 _ _ ⟨f1 ++ [v], f2, _, by rw [e'']; simp, rfl, rfl, by simp [wrE, entOf]⟩⟩
def sp__law_harmful : DSp := fun ds μ Q _ => ∃ s d w look res, ds = [.str (entOf s d w), .str look, .str res] ∧ s ∈ stdL ∧ d ∈ deedL ∧ w ∈ relL ∧ Q (.bl (harmW s d w look res)) μ
theorem len__law_harmful : ∀ ds μ Q E, sp__law_harmful ds μ Q E → ds.length = 3 := by
  rintro ds μ Q E ⟨s, d, w, look, res, rfl, _⟩; rfl
theorem e__law_harmful {s d w look res : Str} {μ : Mu} {Q : QD} {E : XDt} (hs : s ∈ stdL) (hd : d ∈ deedL) (hw : w ∈ relL) (h : Q (.bl (harmW s d w look res)) μ) : sp__law_harmful [.str (entOf s d w), .str look, .str res] μ Q E := ⟨_, _, _, _, _, rfl, hs, hd, hw, h⟩
abbrev s__law_harmful : Stmt := topS 43
theorem sc__law_harmful : FnScope ["entry", "look", "reserved", "standing", "deed", "word", "relied"] ["entry", "look", "reserved"] (defScope s__law_harmful) := ⟨rfl, rfl, rfl, by decide +kernel, rfl, by decide +kernel, by decide +kernel⟩
set_option maxHeartbeats 1000000 in
theorem ok__law_harmful {P : Program} {w : World} {K : PySem.W.Frag} {mg : Str → Option Value} {base : Heap} {f : Addr} {fd : FuncData}  (D0 : DefAt K mg "_law_harmful" s__law_harmful ["entry", "look", "reserved"] f fd)  : FnOk P w K mg base CX0 (1) f fd ["entry", "look", "reserved"] (toSp K sp__law_harmful) := by
  refine fn_ok D0.F sc__law_harmful (len__law_harmful) fun B cdv A outer s H E hr => ⟨_, _, dss_cons (ds_asg (de_bm PySem.F.plainAttrs_str PySem.F.slot_str_split PySem.F.type_str_split (dm_split false) (dv 0) (da_cons (de_str) (da_nil))) (dg_lst (n := 3) rfl (dgs_cons (dg_name 3 sc__law_harmful.nd) (dgs_cons (dg_name 4 sc__law_harmful.nd) (dgs_cons (dg_name 5 sc__law_harmful.nd) (dgs_nil))))))
    (dss_cons (ds_set 6 sc__law_harmful.nd (dv 1))
    (dss_cons (ds_if (dt_cmp (do_eq hr) (dv 3) (de_str))
      (dss_one (ds_set 6 sc__law_harmful.nd (dv 2)))
      (dss_nil))
    (dss_cons (ds_if (DW.dt (dw_and (dt_cmp do_in (dv 4) (de_lst false (da_cons (de_str) (da_cons (de_str) (da_nil)))) (by rfl)) (dw_and1 (dt_cmp (do_eq hr) (dv 5) (de_str)))))
      (dss_one (ds_ret (de_bl)))
      (dss_nil))
    (dss_cons (ds_if (DW.dt (dw_or (dt_cmp (do_eq hr) (dv 6) (de_str)) (dw_or1 (dt_cmp do_in (dv 4) (de_lst false (da_cons (de_str) (da_cons (de_str) (da_cons (de_str) (da_cons (de_str) (da_nil)))))) (by rfl)))))
      (dss_one (ds_ret (de_bl)))
      (dss_nil))
    (dss_cons (ds_if (dt_cmp (do_eq hr) (dv 4) (de_str))
      (dss_one (ds_ret (de_or (de_cmp (do_eq hr) (dv 5) (de_str)) (de_one (de_and (de_cmp (do_ne hr) (dv 3) (de_str)) (de_one (de_cmp do_in (dv 5) (de_lst false (da_cons (de_str) (da_cons (de_str) (da_nil)))) (by rfl))))))))
      (dss_nil))
    (dss_one (ds_ret (de_or (de_cmp (do_ne hr) (dv 3) (de_str)) (de_one (de_cmp do_in (dv 5) (de_lst false (da_cons (de_str) (da_cons (de_str) (da_cons (de_str) (da_nil))))) (by rfl))))))))))), ?_⟩
  rintro ds μ Q EE ⟨s, d, w, look, res, rfl, hs, hd, hw, q⟩
  have h3 := split3 (wd_std s hs).1 (wd_deed d hd).1 (wd_rel w hw).1
  have hl : (entOf s d w).length ≤ 26 := ent_small (ent_in hs hd hw)
  walk_at "dl0"
  walk_at "s"
  simp [h3]
  refine ⟨by decide +kernel, by show _ ≤ 16777216; omega, ?_⟩
  subst hN
  walk_at "s"
  simp
  subst hN
  clear h3 hl hs hd hw
  have k2 : 2 ≤ sizeLine := sz_le (by decide)
  have k3 : 3 ≤ sizeLine := sz_le (by decide)
  have k4 : 4 ≤ sizeLine := sz_le (by decide)
  simp
  simp only [k2, k3, k4, true_and]
  repeat' split
  all_goals first | (simpa [harmW, *] using q) | (exfalso; simp_all; done)

abbrev s__law_same_row : Stmt := topS 36
theorem sc__law_same_row : FnScope ["actual", "expected", "k"] ["actual", "expected"] (defScope s__law_same_row) := ⟨rfl, rfl, rfl, by decide +kernel, rfl, by decide +kernel, by decide +kernel⟩
set_option maxHeartbeats 1000000 in
theorem ok__law_same_row_n (n : Nat) {P : Program} {w : World} {K : PySem.W.Frag} {mg : Str → Option Value} {base : Heap} {f : Addr} {fd : FuncData}  (D0 : DefAt K mg "_law_same_row" s__law_same_row ["actual", "expected"] f fd) (c__law_same : Called P w K mg base (2*n+1) "_law_same" ["actual", "expected"] (sp_same n)) (z_len : mg "len" = none) (z_range : mg "range" = none) : FnOk P w K mg base CX0 (2*n+2) f fd ["actual", "expected"] (toSp K (sp_row n)) := by
  obtain ⟨f__law_same, d__law_same, m__law_same, k__law_same, b__law_same, F__law_same⟩ := c__law_same
  refine fn_ok D0.F sc__law_same_row ((len_row n)) fun B cdv A outer s H E hr => ⟨_, _, dss_cons (ds_if (dt_cmp (do_ne hr) (de_callB dc_len (by rfl) z_len (by decide +kernel) (da_cons (dv 0) (da_nil))) (de_callB dc_len (by rfl) z_len (by decide +kernel) (da_cons (dv 1) (da_nil))))
      (dss_one (ds_ret (de_bl)))
      (dss_nil))
    (dss_cons (ds_for PassesOwn.never rfl (di_range1 (by rfl) z_range (da_cons (de_callB dc_len (by rfl) z_len (by decide +kernel) (da_cons (dv 1) (da_nil))) (da_nil))) (dg_name 2 sc__law_same_row.nd)
      (dss_one (ds_if (dt_not (dt_tru (de_call F__law_same (hr.mono (by omega)) m__law_same k__law_same b__law_same (da_cons (de_ix (dv 0) (dv 2)) (da_cons (de_ix (dv 1) (dv 2)) (da_nil))))))
        (dss_one (ds_ret (de_bl)))
        (dss_nil))))
    (dss_one (ds_ret (de_bl)))), ?_⟩
  rintro ds μ Q EE ⟨x, y, xs, ys, as, bs, rfl, h, l1, l2, d1, d2, q⟩
  walk_at "dl0"
  rcases h with ⟨h1, h2⟩ | ⟨h1, h2⟩
  · simp [h1, h2]
    split
    · next h =>
      have hlen : xs.length = ys.length := by omega
      have la := dvs_len d1
      have lb := dvs_len d2
      refine ⟨by omega, loop_rng (fun j ρ μ' => μ' = μ ∧ (∃ k, ρ = [some x, some y, k]) ∧ ∀ i : Nat, (i : Int) < j → as[i]? = bs[i]?) (by omega) ⟨rfl, ⟨none, rfl⟩, by intros; omega⟩ ?_ ?_⟩
      · rintro ρ μ' ⟨rfl, ⟨k, rfl⟩, hi⟩
        have e : as = bs := List.ext_getElem? fun i => by
          by_cases hj : i < ys.length
          · exact hi i (by omega)
          · rw [List.getElem?_eq_none (by omega), List.getElem?_eq_none (by omega)]
        subst e
        rw [eqD_self] at q
        simp; exact q
      · rintro j ρ μ' N j0 j1 ⟨rfl, ⟨k, rfl⟩, hi⟩ hN
        have a1 : atI xs j = some xs[j.toNat] := by rw [atI_int j0]; exact List.getElem?_eq_getElem (by omega)
        have a2 : atI ys j = some ys[j.toNat] := by rw [atI_int j0]; exact List.getElem?_eq_getElem (by omega)
        obtain ⟨t1, p1, g1⟩ := dvs_get d1 j.toNat _ (List.getElem?_eq_getElem (by omega))
        obtain ⟨t2, p2, g2⟩ := dvs_get d2 j.toNat _ (List.getElem?_eq_getElem (by omega))
        simp [h1, h2, a1, a2, p1, p2]
        split
        · next e =>
          refine hN _ _ ⟨rfl, ⟨_, rfl⟩, fun i hi' => ?_⟩
          by_cases h9 : (i : Int) < j
          · exact hi i h9
          · have : i = j.toNat := by omega
            subst this
            rw [g1, g2]
            congr 1
            exact eqD_iff.mp e
        · next e =>
          rw [eqD_no.mpr] at q
          · exact q
          · intro e'
            cases e'
            rw [g1] at g2
            cases g2
            exact e eqD_self
    · next h =>
      have la := dvs_len d1
      have lb := dvs_len d2
      rw [eqD_no.mpr] at q
      · exact q
      · intro e; cases e; exact h (by omega)
  · simp [h1, h2]
    split
    · next h =>
      have hlen : xs.length = ys.length := by omega
      have la := dvs_len d1
      have lb := dvs_len d2
      refine ⟨by omega, loop_rng (fun j ρ μ' => μ' = μ ∧ (∃ k, ρ = [some x, some y, k]) ∧ ∀ i : Nat, (i : Int) < j → as[i]? = bs[i]?) (by omega) ⟨rfl, ⟨none, rfl⟩, by intros; omega⟩ ?_ ?_⟩
      · rintro ρ μ' ⟨rfl, ⟨k, rfl⟩, hi⟩
        have e : as = bs := List.ext_getElem? fun i => by
          by_cases hj : i < ys.length
          · exact hi i (by omega)
          · rw [List.getElem?_eq_none (by omega), List.getElem?_eq_none (by omega)]
        subst e
        rw [eqD_self] at q
        simp; exact q
      · rintro j ρ μ' N j0 j1 ⟨rfl, ⟨k, rfl⟩, hi⟩ hN
        have a1 : atI xs j = some xs[j.toNat] := by rw [atI_int j0]; exact List.getElem?_eq_getElem (by omega)
        have a2 : atI ys j = some ys[j.toNat] := by rw [atI_int j0]; exact List.getElem?_eq_getElem (by omega)
        obtain ⟨t1, p1, g1⟩ := dvs_get d1 j.toNat _ (List.getElem?_eq_getElem (by omega))
        obtain ⟨t2, p2, g2⟩ := dvs_get d2 j.toNat _ (List.getElem?_eq_getElem (by omega))
        simp [h1, h2, a1, a2, p1, p2]
        split
        · next e =>
          refine hN _ _ ⟨rfl, ⟨_, rfl⟩, fun i hi' => ?_⟩
          by_cases h9 : (i : Int) < j
          · exact hi i h9
          · have : i = j.toNat := by omega
            subst this
            rw [g1, g2]
            congr 1
            exact eqD_iff.mp e
        · next e =>
          rw [eqD_no.mpr] at q
          · exact q
          · intro e'
            cases e'
            rw [g1] at g2
            cases g2
            exact e eqD_self
    · next h =>
      have la := dvs_len d1
      have lb := dvs_len d2
      rw [eqD_no.mpr] at q
      · exact q
      · intro e; cases e; exact h (by omega)

abbrev s__law_same : Stmt := topS 37
theorem sc__law_same : FnScope ["actual", "expected"] ["actual", "expected"] (defScope s__law_same) := ⟨rfl, rfl, rfl, by decide +kernel, rfl, by decide +kernel, by decide +kernel⟩
set_option maxHeartbeats 1000000 in
theorem ok__law_same_n (n : Nat) {P : Program} {w : World} {K : PySem.W.Frag} {mg : Str → Option Value} {base : Heap} {f : Addr} {fd : FuncData}  (D0 : DefAt K mg "_law_same" s__law_same ["actual", "expected"] f fd) (c__law_same_row : Called P w K mg base (2*n) "_law_same_row" ["actual", "expected"] (sp_rowN n)) (z_isinstance : mg "isinstance" = none) (z_bool : mg "bool" = none) (z_int : mg "int" = none) (z_str : mg "str" = none) (z_list : mg "list" = none) (z_tuple : mg "tuple" = none) : FnOk P w K mg base CX0 (2*n+1) f fd ["actual", "expected"] (toSp K (sp_same n)) := by
  obtain ⟨f__law_same_row, d__law_same_row, m__law_same_row, k__law_same_row, b__law_same_row, F__law_same_row⟩ := c__law_same_row
  refine fn_ok D0.F sc__law_same ((len_same n)) fun B cdv A outer s H E hr => ⟨_, _, dss_cons (ds_if (dt_cmp do_is (dv 1) (de_non))
      (dss_one (ds_ret (de_cmp do_is (dv 0) (de_non))))
      (dss_nil))
    (dss_cons (ds_if (dt_tru (de_isi "bool" (by decide) (dv 1) z_isinstance z_bool (by decide +kernel)))
      (dss_one (ds_ret (de_and (de_isi "bool" (by decide) (dv 0) z_isinstance z_bool (by decide +kernel)) (de_one (de_cmp (do_eq hr) (dv 0) (dv 1))))))
      (dss_nil))
    (dss_cons (ds_if (dt_tru (de_isi "int" (by decide) (dv 1) z_isinstance z_int (by decide +kernel)))
      (dss_one (ds_ret (de_and (de_isi "int" (by decide) (dv 0) z_isinstance z_int (by decide +kernel)) (de_and (de_not (de_isi "bool" (by decide) (dv 0) z_isinstance z_bool (by decide +kernel))) (de_one (de_cmp (do_eq hr) (dv 0) (dv 1)))))))
      (dss_nil))
    (dss_cons (ds_if (dt_tru (de_isi "str" (by decide) (dv 1) z_isinstance z_str (by decide +kernel)))
      (dss_one (ds_ret (de_and (de_isi "str" (by decide) (dv 0) z_isinstance z_str (by decide +kernel)) (de_one (de_cmp (do_eq hr) (dv 0) (dv 1))))))
      (dss_nil))
    (dss_cons (ds_if (dt_tru (de_isi "list" (by decide) (dv 1) z_isinstance z_list (by decide +kernel)))
      (dss_one (ds_ret (de_and (de_isi "list" (by decide) (dv 0) z_isinstance z_list (by decide +kernel)) (de_one (de_call F__law_same_row (hr.mono (by omega)) m__law_same_row k__law_same_row b__law_same_row (da_cons (dv 0) (da_cons (dv 1) (da_nil))))))))
      (dss_nil))
    (dss_one (ds_ret (de_and (de_isi "tuple" (by decide) (dv 0) z_isinstance z_tuple (by decide +kernel)) (de_one (de_call F__law_same_row (hr.mono (by omega)) m__law_same_row k__law_same_row b__law_same_row (da_cons (dv 0) (da_cons (dv 1) (da_nil)))))))))))), ?_⟩
  rintro ds μ Q EE ⟨x, y, a, b, rfl, p1, p2, q⟩
  walk_at "dl0"
  have nx : isNonD x = isNonD (vw μ x) := isNonD_vw
  have ny : isNonD y = isNonD (vw μ y) := isNonD_vw
  rcases dview_cases p1 with ⟨rfl, e1⟩ | ⟨b1, rfl, e1⟩ | ⟨b1, rfl, e1⟩ | ⟨b1, rfl, e1⟩ | ⟨m1, xs, as, z1, rfl, e1, l1, k1⟩ | ⟨m1, xs, as, z1, rfl, e1, l1, k1⟩ <;> rcases dview_cases p2 with ⟨rfl, e2⟩ | ⟨b2, rfl, e2⟩ | ⟨b2, rfl, e2⟩ | ⟨b2, rfl, e2⟩ | ⟨m2, ys, bs, z2, rfl, e2, l2, k2⟩ | ⟨m2, ys, bs, z2, rfl, e2, l2, k2⟩ <;> rw [e1] at nx <;> rw [e2] at ny <;> simp [-isNonD, nx, ny, e1, e2, nd_n, nd_b, nd_i, nd_s, nd_l, nd_t]
  all_goals first
    | (rw [eqD_no.mpr (by simp)] at q; exact q)
    | (rw [eqD_self] at q; exact q)
    | (simp only [eqD_b, eqD_i, eqD_s] at q; exact q)
    | (subst z1
       cases z2
       first
         | exact ⟨x, y, _, _, _, _, rfl, .inl ⟨e1, e2⟩, l1, l2, k1, k2, q⟩
         | (rw [eqD_t] at q; exact ⟨x, y, _, _, _, _, rfl, .inr ⟨e1, e2⟩, l1, l2, k1, k2, q⟩))
abbrev sp__law_same : DSp := sp_same 19
theorem ok__law_same {P : Program} {w : World} {K : PySem.W.Frag} {mg : Str → Option Value} {base : Heap} {f f1 : Addr} {fd fd1 : FuncData} (D0 : DefAt K mg "_law_same" s__law_same ["actual", "expected"] f fd) (D1 : DefAt K mg "_law_same_row" s__law_same_row ["actual", "expected"] f1 fd1) (z_isinstance : mg "isinstance" = none) (z_bool : mg "bool" = none) (z_int : mg "int" = none) (z_str : mg "str" = none) (z_list : mg "list" = none) (z_tuple : mg "tuple" = none) (z_len : mg "len" = none) (z_range : mg "range" = none) : FnOk P w K mg base CX0 40 f fd ["actual", "expected"] (toSp K sp__law_same) := by
  have all : ∀ n, FnOk P w K mg base CX0 (2*n+1) f fd ["actual", "expected"] (toSp K (sp_same n)) := by
    intro n
    induction n with
    | zero =>
      refine ok__law_same_n 0 D0 ⟨f1, fd1, D1.m, D1.F.kp, D1.b, ⟨?_, ?_⟩⟩ z_isinstance z_bool z_int z_str z_list z_tuple
      · rintro vs H Q E ⟨_, _, _, _, _, _, _, h, _⟩; exact h.elim
      · intros; rename_i hsp; obtain ⟨_, _, _, _, _, _, _, h, _⟩ := hsp; exact h.elim
    | succ n ih => exact ok__law_same_n (n + 1) D0 (D1.called (ok__law_same_row_n n D1 (D0.called ih) z_len z_range)) z_isinstance z_bool z_int z_str z_list z_tuple
  exact (all 19).mono (by decide)
def sp__law_judged (C : Addr) : DSp := fun ds μ Q _ => ∃ t x l r, ds = [.str t, .ptr x, .str l, .str r] ∧ t.length ≤ 1000 ∧ PW l ∧ PW r ∧ μ x = some (promC C l r) ∧ Q (.bl true) μ
theorem len__law_judged (C : Addr) : ∀ ds μ Q E, sp__law_judged C ds μ Q E → ds.length = 4 := by
  rintro ds μ Q E ⟨t, x, l, r, rfl, _⟩; rfl
theorem e__law_judged {C x : Addr} {t l r : Str} {μ : Mu} {Q : QD} {E : XDt} (ht : t.length ≤ 1000) (hl : PW l) (hr : PW r) (hx : μ x = some (promC C l r)) (q : Q (.bl true) μ) : sp__law_judged C [.str t, .ptr x, .str l, .str r] μ Q E := ⟨t, x, l, r, rfl, ht, hl, hr, hx, q⟩
theorem oF_pr {C x : Addr} {l r : Str} {μ : Mu} {P : List (Str × D) → Prop} (h : μ x = some (promC C l r)) (q : P [("_look", .str l), ("_reserved", .str r)]) : oF C (vw μ (.ptr x)) P := by rw [vw_prom h]; exact ⟨rfl, q⟩
abbrev s__law_judged : Stmt := topS 47
theorem sc__law_judged : FnScope ["text", "promise", "look", "reserved", "due"] ["text", "promise", "look", "reserved"] (defScope s__law_judged) := ⟨rfl, rfl, rfl, by decide +kernel, rfl, by decide +kernel, by decide +kernel⟩
set_option maxHeartbeats 1000000 in
theorem ok__law_judged {P : Program} {w : World} {K : PySem.W.Frag} {mg : Str → Option Value} {base : Heap} {f : Addr} {fd : FuncData} {C_Promise : Addr} (D0 : DefAt K mg "_law_judged" s__law_judged ["text", "promise", "look", "reserved"] f fd) (c__law_entries : Called P w K mg base 2 "_law_entries" [] sp__law_entries) (c__law_harmful : Called P w K mg base 1 "_law_harmful" ["entry", "look", "reserved"] sp__law_harmful) (c__law_same : Called P w K mg base 40 "_law_same" ["actual", "expected"] sp__law_same) (c_Promise___str__ : CalledM P w K mg base 1 C_Promise "__str__" ["self"] (sp_Promise___str__ C_Promise)) (c__law_told : Called P w K mg base 5 "_law_told" ["text", "promise"] (sp__law_told C_Promise)) (z_str : mg "str" = none) : FnOk P w K mg base CX0 (41) f fd ["text", "promise", "look", "reserved"] (toSp K (sp__law_judged C_Promise)) := by
  obtain ⟨f__law_entries, d__law_entries, m__law_entries, k__law_entries, b__law_entries, F__law_entries⟩ := c__law_entries
  obtain ⟨f__law_harmful, d__law_harmful, m__law_harmful, k__law_harmful, b__law_harmful, F__law_harmful⟩ := c__law_harmful
  obtain ⟨f__law_same, d__law_same, m__law_same, k__law_same, b__law_same, F__law_same⟩ := c__law_same
  obtain ⟨f_Promise___str__, d_Promise___str__, k_Promise___str__, b_Promise___str__, F_Promise___str__⟩ := c_Promise___str__
  obtain ⟨f__law_told, d__law_told, m__law_told, k__law_told, b__law_told, F__law_told⟩ := c__law_told
  refine fn_ok D0.F sc__law_judged (len__law_judged _) fun B cdv A outer s H E hr => ⟨_, _, dss_cons (ds_set 4 sc__law_judged.nd (de_tup (da_cons (de_str) (da_cons (dv 0) (da_nil)))))
    (dss_cons (ds_if (dt_cmp do_in (dv 0) (de_call0 F__law_entries (hr.mono (by decide)) m__law_entries k__law_entries b__law_entries) (by rfl))
      (dss_one (ds_set 4 sc__law_judged.nd (de_tup (da_cons (de_str) (da_cons (de_call F__law_harmful (hr.mono (by decide)) m__law_harmful k__law_harmful b__law_harmful (da_cons (dv 0) (da_cons (dv 2) (da_cons (dv 3) (da_nil))))) (da_nil))))))
      (dss_nil))
    (dss_one (ds_ret (de_and (de_call F__law_same (hr.mono (by decide)) m__law_same k__law_same b__law_same (da_cons (de_call F__law_told (hr.mono (by decide)) m__law_told k__law_told b__law_told (da_cons (dv 0) (da_cons (dv 1) (da_nil)))) (da_cons (dv 4) (da_nil)))) (de_one (de_call F__law_same (hr.mono (by decide)) m__law_same k__law_same b__law_same (da_cons (de_callTy (dc_strO ⟨k_Promise___str__.at_, k_Promise___str__.fn⟩ (fnr_of F_Promise___str__ b_Promise___str__) (hr.mono (by decide))) (by rfl) z_str (by decide +kernel) (da_cons (dv 1) (da_nil))) (da_cons (de_op do_add (de_op do_add (dv 2) (de_str)) (dv 3)) (da_nil))))))))), ?_⟩
  rintro ds μ Q EE ⟨t, x, l, r, rfl, ht, hl, hr2, hx, q⟩
  walk_at "dl0"
  walk_at "s"
  simp
  refine ⟨sz_le (by omega), ?_⟩
  subst hN
  walk_at "s"
  simp
  have H : N [some (.str t), some (.ptr x), some (.str l), some (.str r), some (toldD t l r)] μ := by
    have hp5 : ∀ {w : Str}, PW w → w.length ≤ 5 := by rintro w (rfl | rfl) <;> decide
    have a1 := hp5 hl
    have a2 := hp5 hr2
    have hs1 : (" " : Str).length = 1 := by decide +kernel
    have hdv : ∀ μ, dview μ 19 (toldD t l r) = some (toldD t l r) := by
      intro μ
      unfold toldD
      split <;> rfl
    subst hN
    simp [vw_prom hx]
    refine ⟨t, x, l, r, rfl, ht, hl, hr2, hx, ?_⟩
    simp only [hdv, eqD_self, if_true]
    refine oF_pr hx ⟨x, l, r, rfl, hx, hl, hr2, ?_⟩
    refine ⟨by rw [szl]; omega, by rw [szl, app_len]; omega, ?_⟩
    simp only [eqD_self]
    exact q
  unfold toldD at H
  split
  · next h =>
    obtain ⟨⟨s, d, w⟩, h2⟩ := entP_in.mp h
    rw [h2] at H
    obtain ⟨rfl, hs, hd, hw⟩ := entP_some h2
    exact e__law_harmful hs hd hw ⟨sz_le (by omega), H⟩
  · next h =>
    cases h2 : entP t with
    | none => rw [h2] at H; exact H
    | some p => exact (h (entP_in.mpr ⟨p, h2⟩)).elim
def sp_Promise_look_setter (C : Addr) : DSp := fun ds μ Q _ => ∃ x l r w, ds = [.ptr x, .str w] ∧ μ x = some (promC C l r) ∧ PW w ∧ Q .non (mup μ x (promC C w r))
theorem len_Promise_look_setter (C : Addr) : ∀ ds μ Q E, sp_Promise_look_setter C ds μ Q E → ds.length = 2 := by
  rintro ds μ Q E ⟨a, x, r, w, rfl, _⟩; rfl
abbrev s_Promise_look_setter : Stmt := inClass (topS 28) 4
theorem sc_Promise_look_setter : FnScope ["self", "word"] ["self", "word"] (defScope s_Promise_look_setter) := ⟨rfl, rfl, rfl, by decide +kernel, rfl, by decide +kernel, by decide +kernel⟩
set_option maxHeartbeats 1000000 in
theorem ok_Promise_look_setter {P : Program} {w : World} {K : PySem.W.Frag} {mg : Str → Option Value} {base : Heap} {f : Addr} {fd : FuncData} {C_Promise : Addr} (D0 : PSetAt K C_Promise "look" "Promise.look" s_Promise_look_setter ["self", "word"] f fd) (c_checked_word : Called P w K mg base 1 "checked_word" ["word"] sp_checked_word) (K_Promise : Klass K mg C_Promise "Promise" ["_look", "_reserved"]) : FnOk P w K mg base CX0 (2) f fd ["self", "word"] (toSp K (sp_Promise_look_setter C_Promise)) := by
  obtain ⟨f_checked_word, d_checked_word, m_checked_word, k_checked_word, b_checked_word, F_checked_word⟩ := c_checked_word
  refine fn_ok D0.F sc_Promise_look_setter (len_Promise_look_setter _) fun B cdv A outer s H E hr => ⟨_, _, dss_one (ds_fld K_Promise.cl (K_Promise.na 0 _ rfl) (dv 0) (de_call F_checked_word (hr.mono (by decide)) m_checked_word k_checked_word b_checked_word (da_cons (dv 1) (da_nil)))), ?_⟩
  rintro ds μ Q EE ⟨x, l, r, w, rfl, hx, hw, q⟩
  walk_at "dl0"
  simp
  refine e_checked_word hw ?_
  rw [hx]
  refine ⟨rfl, by simp, ?_⟩
  simpa [fput, promC] using q
def sp_Promise_reserved_setter (C : Addr) : DSp := fun ds μ Q _ => ∃ x l r w, ds = [.ptr x, .str w] ∧ μ x = some (promC C l r) ∧ PW w ∧ Q .non (mup μ x (promC C l w))
theorem len_Promise_reserved_setter (C : Addr) : ∀ ds μ Q E, sp_Promise_reserved_setter C ds μ Q E → ds.length = 2 := by
  rintro ds μ Q E ⟨a, x, r, w, rfl, _⟩; rfl
abbrev s_Promise_reserved_setter : Stmt := inClass (topS 28) 6
theorem sc_Promise_reserved_setter : FnScope ["self", "word"] ["self", "word"] (defScope s_Promise_reserved_setter) := ⟨rfl, rfl, rfl, by decide +kernel, rfl, by decide +kernel, by decide +kernel⟩
set_option maxHeartbeats 1000000 in
theorem ok_Promise_reserved_setter {P : Program} {w : World} {K : PySem.W.Frag} {mg : Str → Option Value} {base : Heap} {f : Addr} {fd : FuncData} {C_Promise : Addr} (D0 : PSetAt K C_Promise "reserved" "Promise.reserved" s_Promise_reserved_setter ["self", "word"] f fd) (c_checked_word : Called P w K mg base 1 "checked_word" ["word"] sp_checked_word) (K_Promise : Klass K mg C_Promise "Promise" ["_look", "_reserved"]) : FnOk P w K mg base CX0 (2) f fd ["self", "word"] (toSp K (sp_Promise_reserved_setter C_Promise)) := by
  obtain ⟨f_checked_word, d_checked_word, m_checked_word, k_checked_word, b_checked_word, F_checked_word⟩ := c_checked_word
  refine fn_ok D0.F sc_Promise_reserved_setter (len_Promise_reserved_setter _) fun B cdv A outer s H E hr => ⟨_, _, dss_one (ds_fld K_Promise.cl (K_Promise.na 1 _ rfl) (dv 0) (de_call F_checked_word (hr.mono (by decide)) m_checked_word k_checked_word b_checked_word (da_cons (dv 1) (da_nil)))), ?_⟩
  rintro ds μ Q EE ⟨x, l, r, w, rfl, hx, hw, q⟩
  walk_at "dl0"
  simp
  refine e_checked_word hw ?_
  rw [hx]
  refine ⟨rfl, by simp, ?_⟩
  simpa [fput, promC] using q
def sp_Promise_change (C : Addr) : DSp := fun ds μ Q _ => ∃ x l r p w, ds = [.ptr x, .str p, .str w] ∧ μ x = some (promC C l r) ∧ PW w ∧ ((p = "look" ∧ Q .non (mup μ x (promC C w r))) ∨ (p = "reserved" ∧ Q .non (mup μ x (promC C l w))))
theorem len_Promise_change (C : Addr) : ∀ ds μ Q E, sp_Promise_change C ds μ Q E → ds.length = 3 := by
  rintro ds μ Q E ⟨a, x, r, w, p, rfl, _⟩; rfl
abbrev s_Promise_change : Stmt := inClass (topS 28) 7
theorem sc_Promise_change : FnScope ["self", "part", "word"] ["self", "part", "word"] (defScope s_Promise_change) := ⟨rfl, rfl, rfl, by decide +kernel, rfl, by decide +kernel, by decide +kernel⟩
set_option maxHeartbeats 1000000 in
theorem ok_Promise_change {P : Program} {w : World} {K : PySem.W.Frag} {mg : Str → Option Value} {base : Heap} {f : Addr} {fd : FuncData} {C_Promise : Addr} (D0 : MethAt K C_Promise "change" "Promise.change" s_Promise_change ["self", "part", "word"] f fd) (c_Promise_look_setter : CalledP P w K mg base 2 C_Promise "look" ["self", "word"] (sp_Promise_look_setter C_Promise)) (c_Promise_reserved_setter : CalledP P w K mg base 2 C_Promise "reserved" ["self", "word"] (sp_Promise_reserved_setter C_Promise)) (K_Promise : Klass K mg C_Promise "Promise" ["_look", "_reserved"]) : FnOk P w K mg base CX0 (5) f fd ["self", "part", "word"] (toSp K (sp_Promise_change C_Promise)) := by
  obtain ⟨f_Promise_look_setter, d_Promise_look_setter, s_Promise_look_setter, b_Promise_look_setter, F_Promise_look_setter⟩ := c_Promise_look_setter
  obtain ⟨f_Promise_reserved_setter, d_Promise_reserved_setter, s_Promise_reserved_setter, b_Promise_reserved_setter, F_Promise_reserved_setter⟩ := c_Promise_reserved_setter
  refine fn_ok D0.F sc_Promise_change (len_Promise_change _) fun B cdv A outer s H E hr => ⟨_, _, dss_one (ds_if (dt_cmp (do_eq hr) (dv 1) (de_str))
      (dss_one (ds_pset K_Promise.cl s_Promise_look_setter (fnr_of F_Promise_look_setter b_Promise_look_setter) (hr.mono (by decide)) (dv 0) (dv 2)))
      (dss_one (ds_if (dt_cmp (do_eq hr) (dv 1) (de_str))
        (dss_one (ds_pset K_Promise.cl s_Promise_reserved_setter (fnr_of F_Promise_reserved_setter b_Promise_reserved_setter) (hr.mono (by decide)) (dv 0) (dv 2)))
        (dss_one (ds_never))))), ?_⟩
  rintro ds μ Q EE ⟨x, l, r, p, w, rfl, hx, hw, ⟨rfl, q⟩ | ⟨rfl, q⟩⟩
  · walk_at "dl0"
    simp [vw_prom hx]
    exact ⟨x, l, r, w, rfl, hx, hw, q⟩
  · walk_at "dl0"
    simp [vw_prom hx]
    exact ⟨x, l, r, w, rfl, hx, hw, q⟩
abbrev sp__law_draw : DSp := sp_draw
abbrev sp__law_draw_p : DSp := sp_draw_p
theorem len__law_draw : ∀ ds μ Q E, sp_draw_p ds μ Q E → ds.length = 2 := by
  rintro ds μ Q E ⟨a, l, ns, p, r, c, sz, rfl, _⟩; rfl
abbrev s__law_draw : Stmt := topS 34
theorem sc__law_draw : FnScope ["source", "size", "number", "drawn", "mixed"] ["source", "size"] (defScope s__law_draw) := ⟨rfl, rfl, rfl, by decide +kernel, rfl, by decide +kernel, by decide +kernel⟩
set_option maxHeartbeats 1000000 in
theorem ok__law_draw_p {P : Program} {w : World} {K : PySem.W.Frag} {mg : Str → Option Value} {base : Heap} {f : Addr} {fd : FuncData}  (D0 : DefAt K mg "_law_draw" s__law_draw ["source", "size"] f fd) (z_len : mg "len" = none) (z_int : mg "int" = none) : FnOk P w K mg base CX0 (1) f fd ["source", "size"] (toSp K sp__law_draw_p) := by
  refine fn_ok D0.F sc__law_draw (len__law_draw) fun B cdv A outer s H E hr => ⟨_, _, dss_cons (ds_if (dt_cmp do_ge (de_ix (dv 0) (de_int)) (de_callB dc_len (by rfl) z_len (by decide +kernel) (da_cons (de_ix (dv 0) (de_int)) (da_nil))))
      (dss_one (ds_ret (de_int)))
      (dss_nil))
    (dss_cons (ds_set 2 sc__law_draw.nd (de_ix (de_ix (dv 0) (de_int)) (de_ix (dv 0) (de_int))))
    (dss_cons (ds_if (dt_cmp do_lt (dv 2) (de_int))
      (dss_one (ds_set 2 sc__law_draw.nd (de_op do_sub (de_neg (de_int)) (dv 2))))
      (dss_nil))
    (dss_cons (ds_if (dt_cmp do_lt (de_ix (dv 0) (de_int)) (de_int))
      (dss_cons (ds_asg (dv 2) (dg_sub (dv 0) (de_int)))
      (dss_one (ds_asg (de_int) (dg_sub (dv 0) (de_int)))))
      (dss_nil))
    (dss_cons (ds_asg (de_op do_add (de_ix (dv 0) (de_int)) (de_int)) (dg_sub (dv 0) (de_int)))
    (dss_cons (ds_if (dt_cmp do_ge (dv 2) (de_op do_pow (de_int) (de_int)))
      (dss_cons (ds_set 3 sc__law_draw.nd (de_op do_mod (de_callTy dc_int (by rfl) z_int (by decide +kernel) (da_cons (de_ix (dv 0) (de_int)) (da_nil))) (dv 1)))
      (dss_cons (ds_asg (de_op do_div (de_ix (dv 0) (de_int)) (dv 1)) (dg_sub (dv 0) (de_int)))
      (dss_one (ds_if (DW.dt (dw_and (dt_cmp do_gt (de_ix (dv 0) (de_int)) (de_int)) (dw_and1 (dt_cmp do_lt (de_ix (dv 0) (de_int)) (de_int)))))
        (dss_one (ds_ret (dv 3)))
        (dss_nil)))))
      (dss_one (ds_if (dt_cmp (do_eq hr) (de_ix (dv 0) (de_int)) (de_int))
        (dss_cons (ds_set 4 sc__law_draw.nd (de_op do_mod (de_callTy dc_int (by rfl) z_int (by decide +kernel) (da_cons (de_op do_add (de_op do_add (de_op do_mul (dv 2) (de_int)) (de_op do_mul (de_ix (dv 0) (de_int)) (de_int))) (de_int)) (da_nil))) (de_int)))
        (dss_one (ds_ret (de_op do_mod (de_callTy dc_int (by rfl) z_int (by decide +kernel) (da_cons (de_op do_mod (de_callTy dc_int (by rfl) z_int (by decide +kernel) (da_cons (de_op do_add (de_op do_mul (dv 4) (de_int)) (de_int)) (da_nil))) (de_int)) (da_nil))) (dv 1)))))
        (dss_cons (ds_set 4 sc__law_draw.nd (de_op do_mod (de_callTy dc_int (by rfl) z_int (by decide +kernel) (da_cons (de_op do_add (de_op do_add (de_op do_mul (dv 2) (de_int)) (de_op do_mul (de_ix (dv 0) (de_int)) (de_int))) (de_int)) (da_nil))) (de_int)))
        (dss_one (ds_set 3 sc__law_draw.nd (de_op do_mod (de_callTy dc_int (by rfl) z_int (by decide +kernel) (da_cons (de_op do_mod (de_callTy dc_int (by rfl) z_int (by decide +kernel) (da_cons (de_op do_add (de_op do_mul (dv 4) (de_int)) (de_int)) (da_nil))) (de_int)) (da_nil))) (dv 1))))))))
    (dss_cons (ds_asg (de_op do_add (de_ix (dv 0) (de_int)) (de_int)) (dg_sub (dv 0) (de_int)))
    (dss_cons (ds_asg (de_neg (de_int)) (dg_sub (dv 0) (de_int)))
    (dss_one (ds_ret (dv 3)))))))))), ?_⟩
  rintro ds μ Q EE ⟨a, l, ns, p, r, c, sz, rfl, ne, ha, hl, p0, s0, s1, q⟩
  have nel : l ≠ a := fun e => ne e.symm
  walk_at "dl0"
  walk_at "s"
  simp [vw_pd, ha, hl]
  split
  · have := q 0 p r c (Int.le_refl 0) s0 p0
    rwa [mup_self ha] at this
  · next hb =>
    have hp : p.toNat < ns.length := by omega
    have hz : atI (ns.map D.int) p = some (.int (ns[p.toNat])) := by
      rw [atI_int p0, List.getElem?_map, List.getElem?_eq_getElem hp]; rfl
    subst hN
    revert hz
    generalize ns[p.toNat] = z
    intro hz
    walk_at "s"
    simp [vw_pd, ha, hl, hz]
    subst hN
    have c1 : CPow 10 18 := by unfold CPow; decide
    refine seq_cut (fun ρ μ' => μ = μ' ∧ ∃ z : Int, ρ = [some (.ptr a), some (.int sz), some (.int z), none, none]) (fun N hN => ?_) ?_
    · simp
      split
      · exact hN _ _ ⟨rfl, _, rfl⟩
      · exact hN _ _ ⟨rfl, _, rfl⟩
    rintro _ _ ⟨rfl, z', rfl⟩
    refine seq_cut (fun ρ μ' => ρ = [some (.ptr a), some (.int sz), some (.int z'), none, none] ∧ ∃ r c : Int, μ' = mup μ a (srcC l p r c)) (fun N hN => ?_) ?_
    · simp [vw_pd, ha]
      split
      · exact hN _ _ ⟨rfl, _, _, rfl⟩
      · exact hN _ _ ⟨rfl, r, c, (mup_self ha).symm⟩
    rintro _ _ ⟨rfl, r', c', rfl⟩
    walk_at "s"
    simp [vw_pd]
    subst hN
    have cm : ∀ x k : Int, -1000000000 ≤ k → k ≤ 1000000000 → CMul x k := fun x k h1 h2 => by unfold CMul; omega
    have cd : ∀ x : Int, CDiv x sz := fun x => by unfold CDiv; omega
    have hq : ∀ n r c, 0 ≤ p → Q (.int (n % sz)) (mup μ a (srcC l p r c)) := fun n r c _ => q _ p r c (Int.emod_nonneg _ (by omega)) (Int.emod_lt_of_pos _ s0) p0
    have hq1 : ∀ n r c, Q (.int (n % sz)) (mup μ a (srcC l (p + 1) r c)) := fun n r c => q _ (p + 1) r c (Int.emod_nonneg _ (by omega)) (Int.emod_lt_of_pos _ s0) (by omega)
    refine seq_cut (fun ρ μ' => ∃ (n r c : Int) (x : Option D), ρ = [some (.ptr a), some (.int sz), some (.int z'), some (.int (n % sz)), x] ∧ μ' = mup μ a (srcC l p r c)) (fun N hN => ?_) ?_
    · simp [vw_pd, szl, c1, cm, cd, s0]
      split
      · split
        · split
          · exact hq _ _ _ p0
          · exact hN _ _ ⟨_, _, _, _, rfl, rfl⟩
        · exact hN _ _ ⟨_, _, _, _, rfl, rfl⟩
      · split
        · exact hq _ _ _ p0
        · exact hN _ _ ⟨_, _, _, _, rfl, rfl⟩
    rintro _ _ ⟨n, r2, c2, x, rfl, rfl⟩
    walk_at "s"
    simp [vw_pd]
    subst hN
    walk_at "s"
    simp [vw_pd]
    subst hN
    simp
    exact hq1 _ _ _
theorem ok__law_draw {P : Program} {w : World} {K : PySem.W.Frag} {mg : Str → Option Value} {base : Heap} {f : Addr} {fd : FuncData}  (D0 : DefAt K mg "_law_draw" s__law_draw ["source", "size"] f fd) (z_len : mg "len" = none) (z_int : mg "int" = none) : FnOk P w K mg base CX0 1 f fd ["source", "size"] (toSp K sp__law_draw) := (ok__law_draw_p D0 z_len z_int).imp fun vs H Q E h => src_imp h
def sp__law_pick : DSp := fun ds μ Q _ => ∃ x, ds = [.src, x] ∧ ((∃ xs, (vw μ x = .lst xs ∨ vw μ x = .tup xs) ∧ 0 < xs.length ∧ xs.length ≤ 16000000 ∧ ∀ d ∈ xs, Q d μ) ∨ (∃ s, x = .str (mk s) ∧ 0 < s.length ∧ s.length ≤ 16000000 ∧ ∀ c ∈ s, Q (.str (mk [c])) μ))
theorem len__law_pick : ∀ ds μ Q E, sp__law_pick ds μ Q E → ds.length = 2 := by
  rintro ds μ Q E ⟨a, rfl, _⟩; rfl
@[simp ↓] theorem e__law_pick {x : D} {μ : Mu} {Q : QD} {E : XDt} : sp__law_pick [.src, x] μ Q E = (match vw μ x with | .lst xs => 0 < xs.length ∧ xs.length ≤ 16000000 ∧ ∀ d ∈ xs, Q d μ | .tup xs => 0 < xs.length ∧ xs.length ≤ 16000000 ∧ ∀ d ∈ xs, Q d μ | .str s => 0 < s.length ∧ s.length ≤ 16000000 ∧ ∀ c ∈ s.cps.toList, Q (.str (mk [c])) μ | _ => False) := by
  refine propext ⟨?_, fun h => ?_⟩
  · rintro ⟨y, h, ⟨xs, e | e, h1, h2, h3⟩ | ⟨s, rfl, h1, h2, h3⟩⟩ <;> cases h
    · rw [e]; exact ⟨h1, h2, h3⟩
    · rw [e]; exact ⟨h1, h2, h3⟩
    · simpa using ⟨h1, h2, h3⟩
  · split at h
    · next xs e => exact ⟨x, rfl, .inl ⟨xs, .inl e, h⟩⟩
    · next xs e => exact ⟨x, rfl, .inl ⟨xs, .inr e, h⟩⟩
    · next s e =>
      refine ⟨x, rfl, .inr ⟨s.cps.toList, ?_, h⟩⟩
      rw [DL.mk_of]
      cases x <;> first | (cases e; rfl) | (simp [vw] at e) | skip
      rename_i a
      cases h9 : μ a with
      | none => rw [h9] at e; cases e
      | some c => rw [h9] at e; cases c <;> cases e
    · exact h.elim
abbrev s__law_pick : Stmt := topS 35
theorem sc__law_pick : FnScope ["source", "row"] ["source", "row"] (defScope s__law_pick) := ⟨rfl, rfl, rfl, by decide +kernel, rfl, by decide +kernel, by decide +kernel⟩
set_option maxHeartbeats 1000000 in
theorem ok__law_pick {P : Program} {w : World} {K : PySem.W.Frag} {mg : Str → Option Value} {base : Heap} {f : Addr} {fd : FuncData}  (D0 : DefAt K mg "_law_pick" s__law_pick ["source", "row"] f fd) (c__law_draw : Called P w K mg base 1 "_law_draw" ["source", "size"] sp__law_draw) (z_len : mg "len" = none) : FnOk P w K mg base CX0 (2) f fd ["source", "row"] (toSp K sp__law_pick) := by
  obtain ⟨f__law_draw, d__law_draw, m__law_draw, k__law_draw, b__law_draw, F__law_draw⟩ := c__law_draw
  refine fn_ok D0.F sc__law_pick (len__law_pick) fun B cdv A outer s H E hr => ⟨_, _, dss_one (ds_ret (de_ix (dv 1) (de_call F__law_draw (hr.mono (by decide)) m__law_draw k__law_draw b__law_draw (da_cons (dv 0) (da_cons (de_callB dc_len (by rfl) z_len (by decide +kernel) (da_cons (dv 1) (da_nil))) (da_nil)))))), ?_⟩
  rintro ds μ Q EE ⟨x, rfl, ⟨xs, h, p0, p1, q⟩ | ⟨s, rfl, p0, p1, q⟩⟩
  · rcases h with h | h
    · simp [h, sp__law_draw]
      refine ⟨p0, by omega, fun n n0 n1 => ?_⟩
      have hn : n.toNat < xs.length := by omega
      rw [atI_int n0, List.getElem?_eq_getElem hn]; exact q _ (List.getElem_mem _)
    · simp [h, sp__law_draw]
      refine ⟨p0, by omega, fun n n0 n1 => ?_⟩
      have hn : n.toNat < xs.length := by omega
      rw [atI_int n0, List.getElem?_eq_getElem hn]; exact q _ (List.getElem_mem _)
  · simp [sp__law_draw]
    refine ⟨sz_le p1, p0, by omega, fun n n0 n1 => ⟨sz_le p1, ?_⟩⟩
    have hn : n.toNat < s.length := by omega
    rw [atI_int n0, List.getElem?_eq_getElem hn]; exact q _ (List.getElem_mem _)
def sp__law_sign : DSp := fun ds μ Q _ => ds = [.src] ∧ ∀ t : Str, t.length = 1 → Q (.str t) μ
theorem len__law_sign : ∀ ds μ Q E, sp__law_sign ds μ Q E → ds.length = 1 := by
  rintro ds μ Q E ⟨rfl, _⟩; rfl
@[simp ↓] theorem e__law_sign {μ : Mu} {Q : QD} {E : XDt} : sp__law_sign [.src] μ Q E = (∀ t : Str, t.length = 1 → Q (.str t) μ) := propext ⟨fun h => h.2, fun h => ⟨rfl, h⟩⟩
abbrev s__law_sign : Stmt := topS 44
theorem sc__law_sign : FnScope ["source", "signs"] ["source"] (defScope s__law_sign) := ⟨rfl, rfl, rfl, by decide +kernel, rfl, by decide +kernel, by decide +kernel⟩
set_option maxHeartbeats 1000000 in
theorem ok__law_sign {P : Program} {w : World} {K : PySem.W.Frag} {mg : Str → Option Value} {base : Heap} {f : Addr} {fd : FuncData}  (D0 : DefAt K mg "_law_sign" s__law_sign ["source"] f fd) (c__law_draw : Called P w K mg base 1 "_law_draw" ["source", "size"] sp__law_draw) (c__law_pick : Called P w K mg base 2 "_law_pick" ["source", "row"] sp__law_pick) : FnOk P w K mg base CX0 (3) f fd ["source"] (toSp K sp__law_sign) := by
  obtain ⟨f__law_draw, d__law_draw, m__law_draw, k__law_draw, b__law_draw, F__law_draw⟩ := c__law_draw
  obtain ⟨f__law_pick, d__law_pick, m__law_pick, k__law_pick, b__law_pick, F__law_pick⟩ := c__law_pick
  refine fn_ok D0.F sc__law_sign (len__law_sign) fun B cdv A outer s H E hr => ⟨_, _, dss_cons (ds_if (dt_cmp (do_eq hr) (de_call F__law_draw (hr.mono (by decide)) m__law_draw k__law_draw b__law_draw (da_cons (dv 0) (da_cons (de_int) (da_nil)))) (de_int))
      (dss_one (ds_ret (de_call F__law_pick (hr.mono (by decide)) m__law_pick k__law_pick b__law_pick (da_cons (dv 0) (da_cons (de_str) (da_nil))))))
      (dss_nil))
    (dss_cons (ds_set 1 sc__law_sign.nd (de_str))
    (dss_one (ds_ret (de_call F__law_pick (hr.mono (by decide)) m__law_pick k__law_pick b__law_pick (da_cons (dv 0) (da_cons (de_op do_add (dv 1) (de_str)) (da_nil))))))), ?_⟩
  rintro ds μ Q EE ⟨rfl, q⟩
  walk_at "dl0"
  walk_at "s"
  simp
  intro n n0 n1
  have h1 : ∀ c : Nat, (mk [c]).length = 1 := fun c => by rw [mk_length]; rfl
  split
  · exact ⟨by decide +kernel, by decide +kernel, fun c _ => q _ (h1 c)⟩
  · subst hN
    walk_at "s"
    simp
    subst hN
    simp
    have ha : (" !\"#$&'()*+,-./0123456789:;<=>?@ABCDEFGHIJKLMNOPQRSTUVWXYZ[\\]^_`" : Str).length ≤ 100 := by decide +kernel
    have hb : ("abcdefghijklmnopqrstuvwxyz{|}~\n" : Str).length = 31 := by decide +kernel
    refine ⟨sz_le (by omega), by rw [app_len]; omega, by rw [app_len]; omega, fun c _ => q _ (h1 c)⟩
def sp__law_spoilt : DSp := fun ds μ Q _ => ∃ e, ds = [.src, .str e] ∧ e ∈ allE ∧ ∀ t : Str, t.length ≤ 400 → Q (.str t) μ
theorem len__law_spoilt : ∀ ds μ Q E, sp__law_spoilt ds μ Q E → ds.length = 2 := by
  rintro ds μ Q E ⟨e, rfl, _⟩; rfl
theorem iteI {c : Prop} [Decidable c] {A B : Prop} (h1 : c → A) (h2 : ¬ c → B) : if c then A else B := by
  split
  · next h => exact h1 h
  · next h => exact h2 h
abbrev s__law_spoilt : Stmt := topS 45
theorem sc__law_spoilt : FnScope ["source", "text", "kind", "at", "words", "row", "odd", "k"] ["source", "text"] (defScope s__law_spoilt) := ⟨rfl, rfl, rfl, by decide +kernel, rfl, by decide +kernel, by decide +kernel⟩
set_option maxHeartbeats 1000000 in
theorem ok__law_spoilt {P : Program} {w : World} {K : PySem.W.Frag} {mg : Str → Option Value} {base : Heap} {f : Addr} {fd : FuncData}  (D0 : DefAt K mg "_law_spoilt" s__law_spoilt ["source", "text"] f fd) (c__law_draw : Called P w K mg base 1 "_law_draw" ["source", "size"] sp__law_draw) (c__law_pick : Called P w K mg base 2 "_law_pick" ["source", "row"] sp__law_pick) (c__law_sign : Called P w K mg base 3 "_law_sign" ["source"] sp__law_sign) (z_len : mg "len" = none) (z_range : mg "range" = none) : FnOk P w K mg base CX0 (4) f fd ["source", "text"] (toSp K sp__law_spoilt) := by
  obtain ⟨f__law_draw, d__law_draw, m__law_draw, k__law_draw, b__law_draw, F__law_draw⟩ := c__law_draw
  obtain ⟨f__law_pick, d__law_pick, m__law_pick, k__law_pick, b__law_pick, F__law_pick⟩ := c__law_pick
  obtain ⟨f__law_sign, d__law_sign, m__law_sign, k__law_sign, b__law_sign, F__law_sign⟩ := c__law_sign
  refine fn_okF D0.F sc__law_spoilt (len__law_spoilt) fun B cdv A outer s H E hr => ⟨_, _, dss_cons (ds_set 2 sc__law_spoilt.nd (de_call F__law_draw (hr.mono (by decide)) m__law_draw k__law_draw b__law_draw (da_cons (dv 0) (da_cons (de_int) (da_nil)))))
    (dss_cons (ds_set 3 sc__law_spoilt.nd (de_call F__law_draw (hr.mono (by decide)) m__law_draw k__law_draw b__law_draw (da_cons (dv 0) (da_cons (de_int) (da_nil)))))
    (dss_cons (ds_set 4 sc__law_spoilt.nd (de_bm PySem.F.plainAttrs_str PySem.F.slot_str_split PySem.F.type_str_split (dm_split true) (dv 1) (da_cons (de_str) (da_nil))))
    (dss_cons (ds_set 5 sc__law_spoilt.nd (de_lst false (da_cons (de_str) (da_cons (de_str) (da_cons (de_str) (da_cons (de_str) (da_cons (de_str) (da_cons (de_str) (da_cons (de_str) (da_cons (de_str) (da_cons (de_str) (da_cons (de_str) (da_cons (de_str) (da_cons (de_str) (da_cons (de_str) (da_nil))))))))))))))))
    (dss_cons (ds_set 6 sc__law_spoilt.nd (de_call F__law_pick (hr.mono (by decide)) m__law_pick k__law_pick b__law_pick (da_cons (dv 0) (da_cons (dv 5) (da_nil)))))
    (dss_cons (ds_if (dt_cmp do_lt (dv 2) (de_int))
      (dss_one (ds_asg (dv 6) (dg_sub (dv 4) (dv 3))))
      (dss_one (ds_if (dt_cmp (do_eq hr) (dv 2) (de_int))
        (dss_one (ds_set 4 sc__law_spoilt.nd (de_op do_addC (de_sl false (dv 4) (do_none) (do_some (dv 3))) (de_sl false (dv 4) (do_some (de_op do_add (dv 3) (de_int))) (do_none)))))
        (dss_one (ds_if (dt_cmp (do_eq hr) (dv 2) (de_int))
          (dss_one (ds_expr (de_bm PySem.F.plainAttrs_list PySem.F.slot_list_insert PySem.F.type_list_insert dm_insert (dv 4) (da_cons (dv 3) (da_cons (de_ix (dv 4) (dv 3)) (da_nil))))))
          (dss_one (ds_if (dt_cmp (do_eq hr) (dv 2) (de_int))
            (dss_one (ds_asg (de_op do_add (de_op do_add (de_ix (dv 4) (dv 3)) (de_str)) (dv 6)) (dg_sub (dv 4) (dv 3))))
            (dss_one (ds_if (dt_cmp (do_eq hr) (dv 2) (de_int))
              (dss_one (ds_asg (de_op do_add (de_op do_add (dv 6) (de_str)) (de_ix (dv 4) (dv 3))) (dg_sub (dv 4) (dv 3))))
              (dss_one (ds_if (dt_cmp (do_eq hr) (dv 2) (de_int))
                (dss_one (ds_expr (de_bm PySem.F.plainAttrs_list PySem.F.slot_list_insert PySem.F.type_list_insert dm_insert (dv 4) (da_cons (dv 3) (da_cons (de_str) (da_nil))))))
                (dss_one (ds_if (dt_cmp (do_eq hr) (dv 2) (de_int))
                  (dss_one (ds_expr (de_bm PySem.F.plainAttrs_list PySem.F.slot_list_append PySem.F.type_list_append dm_append (dv 4) (da_cons (de_str) (da_nil)))))
                  (dss_one (ds_if (dt_cmp (do_eq hr) (dv 2) (de_int))
                    (dss_one (ds_asg (de_bm0 PySem.F.plainAttrs_str PySem.F.slot_str_upper PySem.F.type_str_upper dm_upper (de_ix (dv 4) (dv 3))) (dg_sub (dv 4) (dv 3))))
                    (dss_one (ds_if (dt_cmp (do_eq hr) (dv 2) (de_int))
                      (dss_one (ds_set 4 sc__law_spoilt.nd (de_op do_addC (de_sl false (dv 4) (do_some (de_int)) (do_none)) (de_sl false (dv 4) (do_none) (do_some (de_int))))))
                      (dss_one (ds_if (dt_cmp (do_eq hr) (dv 2) (de_int))
                        (dss_cons (ds_set 7 sc__law_spoilt.nd (de_call F__law_draw (hr.mono (by decide)) m__law_draw k__law_draw b__law_draw (da_cons (dv 0) (da_cons (de_op do_add (de_callB dc_len (by rfl) z_len (by decide +kernel) (da_cons (dv 1) (da_nil))) (de_int)) (da_nil)))))
                        (dss_one (ds_ret (de_op do_add (de_op do_add (de_sl false (dv 1) (do_none) (do_some (dv 7))) (de_call F__law_sign (hr.mono (by decide)) m__law_sign k__law_sign b__law_sign (da_cons (dv 0) (da_nil)))) (de_sl false (dv 1) (do_some (dv 7)) (do_none))))))
                        (dss_one (ds_if (dt_cmp (do_eq hr) (dv 2) (de_int))
                          (dss_cons (ds_set 7 sc__law_spoilt.nd (de_call F__law_draw (hr.mono (by decide)) m__law_draw k__law_draw b__law_draw (da_cons (dv 0) (da_cons (de_callB dc_len (by rfl) z_len (by decide +kernel) (da_cons (dv 1) (da_nil))) (da_nil)))))
                          (dss_one (ds_ret (de_op do_add (de_sl false (dv 1) (do_none) (do_some (dv 7))) (de_sl false (dv 1) (do_some (de_op do_add (dv 7) (de_int))) (do_none))))))
                          (dss_one (ds_if (dt_cmp (do_eq hr) (dv 2) (de_int))
                            (dss_one (ds_ret (de_call F__law_pick (hr.mono (by decide)) m__law_pick k__law_pick b__law_pick (da_cons (dv 0) (da_cons (de_lst false (da_cons (de_op do_add (dv 1) (de_str)) (da_cons (de_op do_add (de_str) (dv 1)) (da_cons (de_op do_add (de_op do_add (dv 1) (de_str)) (dv 1)) (da_cons (de_op do_add (de_op do_add (dv 1) (de_str)) (dv 1)) (da_nil)))))) (da_nil))))))
                            (dss_one (ds_if (dt_cmp (do_eq hr) (dv 2) (de_int))
                              (dss_one (ds_ret (de_call F__law_pick (hr.mono (by decide)) m__law_pick k__law_pick b__law_pick (da_cons (dv 0) (da_cons (de_lst false (da_cons (de_str) (da_cons (de_str) (da_cons (de_str) (da_cons (de_str) (da_cons (de_str) (da_cons (de_str) (da_cons (de_str) (da_cons (de_str) (da_nil)))))))))) (da_nil))))))
                              (dss_one (ds_ret (de_bm PySem.F.plainAttrs_str PySem.F.slot_str_join PySem.F.type_str_join dm_join (de_str) (da_cons (de_lcA false (own := [("k", 7)]) rfl sc__law_spoilt.nd (di_range1 (by rfl) z_range (da_cons (de_call F__law_draw (hr.mono (by decide)) m__law_draw k__law_draw b__law_draw (da_cons (dv 0) (da_cons (de_int) (da_nil)))) (da_nil))) (blkOk_by (N := ["source", "text", "kind", "at", "words", "row", "odd", "k"]) (sc := defScope s__law_spoilt) (by decide +kernel)) (fun _ _ _ _ _ => dg_name 7 sc__law_spoilt.nd) (keep_name (by decide)) (fun _ _ _ _ _ => dts_nil) (fun _ _ _ _ _ => de_call F__law_sign (hr.mono (by decide)) m__law_sign k__law_sign b__law_sign (da_cons (dv 0) (da_nil)))) (da_nil))))))))))))))))))))))))))))))
    (dss_one (ds_ret (de_bm PySem.F.plainAttrs_str PySem.F.slot_str_join PySem.F.type_str_join dm_join (de_str) (da_cons (dv 4) (da_nil)))))))))), ?_⟩
  rintro ds μ Q EE ⟨e, rfl, he, q⟩
  obtain ⟨s, hs, d, hd, w, hw, rfl⟩ := ent_of he
  have h3 := split3 (wd_std s hs).1 (wd_deed d hd).1 (wd_rel w hw).1
  have hl : (entOf s d w).length ≤ 26 := ent_small he
  have hk : ¬ (" " : Str).length = 0 := by decide +kernel
  walk_at "dl0"
  walk_at "s"
  simp
  intro kind k0 k1
  subst hN
  walk_at "s"
  simp
  intro at_ a0 a1
  subst hN
  walk_at "s"
  simp [h3]
  refine ⟨hk, sz_le (by omega), fun p hp => ?_⟩
  subst hN
  walk_at "s"
  simp
  refine ⟨sz_le (by omega), ?_⟩
  subst hN
  walk_at "s"
  simp
  have hs0 : Sub μ (mup μ p (.lst [.str s, .str d, .str w])) := (Sub.refl μ).mup hp
  have hp0 : mup μ p (.lst [.str s, .str d, .str w]) p = some (.lst [.str s, .str d, .str w]) := mup_same
  generalize mup μ p (.lst [.str s, .str d, .str w]) = μ1 at *
  suffices H : ∀ o : Str, o.length ≤ 8 → N [some .src, some (.str (entOf s d w)), some (.int kind), some (.int at_), some (.ptr p), some (.lst [.str "apart", .str "look", .str "see", .str "same", .str "over", .str "*", .str "", .str "overbo", .str "boxes", .str "reserved", .str "mark", .str "peek", .str "Look"]), some (.str o), none] μ1 by
    refine ⟨H _ (by decide +kernel), H _ (by decide +kernel), H _ (by decide +kernel), H _ (by decide +kernel), H _ (by decide +kernel), H _ (by decide +kernel), H _ (by decide +kernel), H _ (by decide +kernel), H _ (by decide +kernel), H _ (by decide +kernel), H _ (by decide +kernel), H _ (by decide +kernel), H _ (by decide +kernel)⟩
  intro o ho
  have ls : s.length ≤ 8 ∧ (Txt.upper s).length ≤ 8 := (by decide +kernel : ∀ s ∈ stdL, s.length ≤ 8 ∧ (Txt.upper s).length ≤ 8) s hs
  have ld : d.length ≤ 8 ∧ (Txt.upper d).length ≤ 8 := (by decide +kernel : ∀ s ∈ deedL, s.length ≤ 8 ∧ (Txt.upper s).length ≤ 8) d hd
  have lw : w.length ≤ 8 ∧ (Txt.upper w).length ≤ 8 := (by decide +kernel : ∀ s ∈ relL, s.length ≤ 8 ∧ (Txt.upper s).length ≤ 8) w hw
  subst hN
  walk_at "s"
  have fin : ∀ (ws : List Str) (r : D) (k : Option D) (p2 : Addr) (μ' : Mu), μ' p2 = some (.lst (ws.map .str)) → (∀ w ∈ ws, w.length ≤ 30) → ws.length ≤ 6 → Sub μ μ' → N [some .src, some (.str (entOf s d w)), some (.int kind), some (.int at_), some (.ptr p2), some r, some (.str o), k] μ' := by
    intro ws r k p2 μ' h2 hw hl hS
    subst hN
    simp [vw_of h2]
    have h1 : (" " : Str).length = 1 := by decide +kernel
    have hj := sum_le hw
    have hj1 := join_len1 (c := 32) ws
    rw [← sp_mk] at hj1
    have h30 : ws.length * 30 ≤ 180 := by omega
    rw [h1]
    exact ⟨by omega, Fg.to (q _ (by omega)) hS⟩
  have hc1 : ("," : Str).length = 1 := by decide +kernel
  have hc2 : ("\n" : Str).length = 1 := by decide +kernel
  have hc3 : (" " : Str).length = 1 := by decide +kernel
  have hc4 : ("" : Str).length = 0 := by decide +kernel
  have hcut : ∀ lo hi, (cutS (entOf s d w) lo hi).length ≤ 26 := fun lo hi => Nat.le_trans (cutS_length _ _ _) hl
  obtain rfl | rfl | rfl : at_ = 0 ∨ at_ = 1 ∨ at_ = 2 := by omega
  all_goals
    simp [vw_of hp0, hp0]
    refine iteI (fun hkk => ?_) (fun hkk => ?_)
    · exact fin [_, _, _] _ _ _ _ mup_same (by simp; omega) (by simp) (sub_set hs0 hp)
    refine iteI (fun hkk => ?_) (fun hkk => ?_)
    · rw [cutD_upto _ (by decide), cutD_behind _ (by decide)]
      refine ⟨by simp; exact sz_le (by omega), fun a ha => ?_⟩
      exact fin [_, _] _ _ _ _ mup_same (by simp; omega) (by simp) (hs0.mup (hs0.none ha))
    refine iteI (fun hkk => ?_) (fun hkk => ?_)
    · exact ⟨sz_lt (by omega), fin [_, _, _, _] _ _ _ _ mup_same (by simp; omega) (by simp) (sub_set hs0 hp)⟩
    refine iteI (fun hkk => ?_) (fun hkk => ?_)
    · exact ⟨sz_le (by omega), sz_le (by rw [app_len]; omega), fin [_, _, _] _ _ _ _ mup_same (by simp [app_len]; omega) (by simp) (sub_set hs0 hp)⟩
    refine iteI (fun hkk => ?_) (fun hkk => ?_)
    · exact ⟨sz_le (by omega), sz_le (by rw [app_len]; omega), fin [_, _, _] _ _ _ _ mup_same (by simp [app_len]; omega) (by simp) (sub_set hs0 hp)⟩
    refine iteI (fun hkk => ?_) (fun hkk => ?_)
    · exact ⟨sz_lt (by omega), fin [_, _, _, _] _ _ _ _ mup_same (by simp [hc4]; omega) (by simp) (sub_set hs0 hp)⟩
    refine iteI (fun hkk => ?_) (fun hkk => ?_)
    · exact ⟨sz_lt (by omega), fin [_, _, _, _] _ _ _ _ mup_same (by simp [hc4]; omega) (by simp) (sub_set hs0 hp)⟩
    refine iteI (fun hkk => ?_) (fun hkk => ?_)
    · exact ⟨by omega, fin [_, _, _] _ _ _ _ mup_same (by simp; omega) (by simp) (sub_set hs0 hp)⟩
    refine iteI (fun hkk => ?_) (fun hkk => ?_)
    · rw [cutD_upto _ (by decide), cutD_behind _ (by decide)]
      refine ⟨by simp; exact sz_le (by omega), fun a ha => ?_⟩
      exact fin [_, _, _] _ _ _ _ mup_same (by simp; omega) (by simp) (hs0.mup (hs0.none ha))
    refine iteI (fun hkk => ?_) (fun hkk => ?_)
    · refine ⟨sz_le (by omega), by omega, fun n n0 n1 => ⟨sz_le (by omega), fun t ht => ?_⟩⟩
      have c1 := hcut none (some n)
      have c2 := hcut (some n) none
      exact ⟨sz_le (by omega), sz_le (by omega), sz_le (by rw [app_len]; omega), Fg.to (q _ (by rw [app_len, app_len]; omega)) hs0⟩
    refine iteI (fun hkk => ?_) (fun hkk => ?_)
    · refine ⟨sz_le (by omega), by unfold entOf; simp only [app_len]; omega, by omega, fun n n0 n1 => ?_⟩
      have c1 := hcut none (some n)
      have c2 := hcut (some (n + 1)) none
      exact ⟨sz_le (by omega), sz_le (by omega), Fg.to (q _ (by rw [app_len]; omega)) hs0⟩
    refine iteI (fun hkk => ?_) (fun hkk => ?_)
    · simp only [app_len, hc2, hc3]
      exact ⟨sz_le (by omega), sz_le (by omega), sz_le (by omega), sz_le (by omega), sz_le (by omega), sz_le (by omega), sz_le (by omega), Fg.to (q _ (by rw [app_len]; omega)) hs0, Fg.to (q _ (by rw [app_len]; omega)) hs0, Fg.to (q _ (by rw [app_len, app_len]; omega)) hs0, Fg.to (q _ (by rw [app_len, app_len]; omega)) hs0⟩
    refine iteI (fun hkk => ?_) (fun hkk => ?_)
    · refine ⟨sz_le (by omega), ?_⟩
      exact ⟨Fg.to (q _ (by decide +kernel)) hs0, Fg.to (q _ (by decide +kernel)) hs0, Fg.to (q _ (by decide +kernel)) hs0, Fg.to (q _ (by decide +kernel)) hs0, Fg.to (q _ (by decide +kernel)) hs0, Fg.to (q _ (by decide +kernel)) hs0, Fg.to (q _ (by decide +kernel)) hs0, Fg.to (q _ (by decide +kernel)) hs0⟩
    intro n n0 n1
    refine ⟨by omega, fun p1 hp1 => ?_⟩
    refine comp_rel (fun _ s => s.length = 1) (acc := []) (by simp [rngD]; omega) (fun x hx acc M ha hM => ?_) ?_
    · simp
      intro t ht
      exact ⟨sz_lt ha, hM t ht⟩
    · intro ss hl1 hl2 _
      have hs1 := sum_le (k := 1) (ps := ss) fun w hw => by obtain ⟨_, _, h⟩ := hl2 w hw; omega
      have hl3 : ss.length ≤ 24 := by rw [hl1]; simp [rngD]; omega
      simp only [mup_same, List.nil_append, strsOf_map, mdel_mup hp1, hc4]
      exact ⟨by omega, Fg.to (q _ (by rw [join_len0]; omega)) hs0⟩
abbrev sp__law_begin : DSp := sp_begin
theorem len__law_begin : ∀ ds μ Q E, sp_begin_p ds μ Q E → ds.length = 1 := by
  rintro ds μ Q E ⟨ns, h | h, _⟩ <;> subst h <;> rfl
abbrev sp__law_begin_p : DSp := sp_begin_p
abbrev s__law_begin : Stmt := topS 33
theorem sc__law_begin : FnScope ["script"] ["script"] (defScope s__law_begin) := ⟨rfl, rfl, rfl, by decide +kernel, rfl, by decide +kernel, by decide +kernel⟩
set_option maxHeartbeats 1000000 in
theorem ok__law_begin_p {P : Program} {w : World} {K : PySem.W.Frag} {mg : Str → Option Value} {base : Heap} {f : Addr} {fd : FuncData}  (D0 : DefAt K mg "_law_begin" s__law_begin ["script"] f fd) (z_list : mg "list" = none) : FnOk P w K mg base CX0 (1) f fd ["script"] (toSp K sp__law_begin_p) := by
  refine fn_ok D0.F sc__law_begin (len__law_begin) fun B cdv A outer s H E hr => ⟨_, _, dss_one (ds_ret (de_lst true (da_cons (de_callTy (dc_list true) (by rfl) z_list (by decide +kernel) (da_cons (dv 0) (da_nil))) (da_cons (de_int) (da_cons (de_neg (de_int)) (da_cons (de_int) (da_nil))))))), ?_⟩
  rintro ds μ Q EE ⟨ns, h | h, q⟩ <;> subst h
  · simp
    intro l hl
    refine ⟨sz_le (by decide), fun a ha => ?_⟩
    have ne : a ≠ l := fun e => by subst e; simp at ha
    rw [mup_ne ne] at ha
    exact q a l hl ne ha
  · simp
    intro l hl
    refine ⟨sz_le (by decide), fun a ha => ?_⟩
    have ne : a ≠ l := fun e => by subst e; simp at ha
    rw [mup_ne ne] at ha
    exact q a l hl ne ha
theorem ok__law_begin {P : Program} {w : World} {K : PySem.W.Frag} {mg : Str → Option Value} {base : Heap} {f : Addr} {fd : FuncData}  (D0 : DefAt K mg "_law_begin" s__law_begin ["script"] f fd) (z_list : mg "list" = none) : FnOk P w K mg base CX0 1 f fd ["script"] (toSp K sp__law_begin) := (ok__law_begin_p D0 z_list).imp fun vs H Q E h => begin_imp h
def sp__law_strong : DSp := fun ds μ Q _ => ds = [] ∧ Q (.lst strongV) μ
theorem len__law_strong : ∀ ds μ Q E, sp__law_strong ds μ Q E → ds.length = 0 := by
  rintro ds μ Q E ⟨rfl, _⟩; rfl
@[simp ↓] theorem e__law_strong {μ : Mu} {Q : QD} {E : XDt} : sp__law_strong [] μ Q E = Q (.lst strongV) μ := by simp [sp__law_strong]
abbrev s__law_strong : Stmt := topS 40
theorem sc__law_strong : FnScope [] [] (defScope s__law_strong) := ⟨rfl, rfl, rfl, by decide +kernel, rfl, by decide +kernel, by decide +kernel⟩
set_option maxHeartbeats 1000000 in
theorem ok__law_strong {P : Program} {w : World} {K : PySem.W.Frag} {mg : Str → Option Value} {base : Heap} {f : Addr} {fd : FuncData}  (D0 : DefAt K mg "_law_strong" s__law_strong [] f fd)  : FnOk P w K mg base CX0 (1) f fd [] (toSp K sp__law_strong) := by
  refine fn_ok D0.F sc__law_strong (len__law_strong) fun B cdv A outer s H E hr => ⟨_, _, dss_one (ds_ret (de_lst false (da_cons (de_str) (da_cons (de_str) (da_cons (de_str) (da_cons (de_str) (da_nil))))))), ?_⟩
  rintro ds μ Q EE ⟨rfl, q⟩
  simp
  exact ⟨sz_le (by decide), q⟩
abbrev sp_law : DSp := spLaw
theorem len_law : ∀ ds μ Q E, spLaw ds μ Q E → ds.length = 1 := by
  rintro ds μ Q E ⟨ns, rfl, _⟩; rfl
abbrev s_law : Stmt := topS 48
theorem sc_law : FnScope ["script", "source", "entries", "entry", "odd", "words", "look", "reserved", "promise", "other", "standing", "deed", "word", "first", "second", "fresh", "one"] ["script"] (defScope s_law) := ⟨rfl, rfl, rfl, by decide +kernel, rfl, by decide +kernel, by decide +kernel⟩
set_option maxHeartbeats 1000000 in
theorem ok_law {P : Program} {w : World} {K : PySem.W.Frag} {mg : Str → Option Value} {base : Heap} {f : Addr} {fd : FuncData} {C_Promise : Addr} (D0 : DefAt K mg "law" s_law ["script"] f fd) (c__law_begin : Called P w K mg base 1 "_law_begin" ["script"] sp__law_begin) (c__law_entries : Called P w K mg base 2 "_law_entries" [] sp__law_entries) (c__law_draw : Called P w K mg base 1 "_law_draw" ["source", "size"] sp__law_draw) (c__law_strong : Called P w K mg base 1 "_law_strong" [] sp__law_strong) (c__law_pick : Called P w K mg base 2 "_law_pick" ["source", "row"] sp__law_pick) (c__law_spoilt : Called P w K mg base 4 "_law_spoilt" ["source", "text"] sp__law_spoilt) (c_Promise___init__ : Made P w K mg base 2 C_Promise ["self", "look", "reserved"] (sp_Promise___init__ C_Promise)) (c__law_judged : Called P w K mg base 41 "_law_judged" ["text", "promise", "look", "reserved"] (sp__law_judged C_Promise)) (c_Promise_change : CalledM P w K mg base 5 C_Promise "change" ["self", "part", "word"] (sp_Promise_change C_Promise)) (c__law_relations : Called P w K mg base 1 "_law_relations" [] sp__law_relations) (K_Promise : Klass K mg C_Promise "Promise" ["_look", "_reserved"]) : FnOk P w K mg base CX0 (42) f fd ["script"] (toSp K sp_law) := by
  obtain ⟨f__law_begin, d__law_begin, m__law_begin, k__law_begin, b__law_begin, F__law_begin⟩ := c__law_begin
  obtain ⟨f__law_entries, d__law_entries, m__law_entries, k__law_entries, b__law_entries, F__law_entries⟩ := c__law_entries
  obtain ⟨f__law_draw, d__law_draw, m__law_draw, k__law_draw, b__law_draw, F__law_draw⟩ := c__law_draw
  obtain ⟨f__law_strong, d__law_strong, m__law_strong, k__law_strong, b__law_strong, F__law_strong⟩ := c__law_strong
  obtain ⟨f__law_pick, d__law_pick, m__law_pick, k__law_pick, b__law_pick, F__law_pick⟩ := c__law_pick
  obtain ⟨f__law_spoilt, d__law_spoilt, m__law_spoilt, k__law_spoilt, b__law_spoilt, F__law_spoilt⟩ := c__law_spoilt
  obtain ⟨f_Promise___init__, d_Promise___init__, k_Promise___init__, b_Promise___init__, F_Promise___init__⟩ := c_Promise___init__
  obtain ⟨f__law_judged, d__law_judged, m__law_judged, k__law_judged, b__law_judged, F__law_judged⟩ := c__law_judged
  obtain ⟨f_Promise_change, d_Promise_change, k_Promise_change, b_Promise_change, F_Promise_change⟩ := c_Promise_change
  obtain ⟨f__law_relations, d__law_relations, m__law_relations, k__law_relations, b__law_relations, F__law_relations⟩ := c__law_relations
  refine fn_okF D0.F sc_law (len_law) fun B cdv A outer s H E hr => ⟨_, _, dss_cons (ds_set 1 sc_law.nd (de_call F__law_begin (hr.mono (by decide)) m__law_begin k__law_begin b__law_begin (da_cons (dv 0) (da_nil))))
    (dss_cons (ds_set 2 sc_law.nd (de_call0 F__law_entries (hr.mono (by decide)) m__law_entries k__law_entries b__law_entries))
    (dss_cons (ds_if (dt_cmp (do_eq hr) (de_call F__law_draw (hr.mono (by decide)) m__law_draw k__law_draw b__law_draw (da_cons (dv 1) (da_cons (de_int) (da_nil)))) (de_int))
      (dss_one (ds_setLcA false (i := 2) (own := [("entry", 3)]) rfl sc_law.nd rfl rfl (sw_true rfl rfl rfl (by decide +kernel)) (di_list (dv 2)) (blkOk_by (N := ["script", "source", "entries", "entry", "odd", "words", "look", "reserved", "promise", "other", "standing", "deed", "word", "first", "second", "fresh", "one"]) (sc := defScope s_law) (by decide +kernel)) (fun _ _ _ _ _ => dg_name 3 sc_law.nd) (keep_name (by decide)) (fun _ _ _ _ _ => dts_one (dt_cmp do_in (de_ix (de_bm PySem.F.plainAttrs_str PySem.F.slot_str_split PySem.F.type_str_split (dm_split false) (dv 3) (da_cons (de_str) (da_nil))) (de_int)) (de_call0 F__law_strong (hr.mono (by decide)) m__law_strong k__law_strong b__law_strong) (by rfl))) (fun _ _ _ _ _ => dv 3)))
      (dss_nil))
    (dss_cons (ds_set 3 sc_law.nd (de_call F__law_pick (hr.mono (by decide)) m__law_pick k__law_pick b__law_pick (da_cons (dv 1) (da_cons (dv 2) (da_nil)))))
    (dss_cons (ds_set 4 sc_law.nd (de_call F__law_spoilt (hr.mono (by decide)) m__law_spoilt k__law_spoilt b__law_spoilt (da_cons (dv 1) (da_cons (dv 3) (da_nil)))))
    (dss_cons (ds_set 5 sc_law.nd (de_lst false (da_cons (de_str) (da_cons (de_str) (da_nil)))))
    (dss_cons (ds_set 6 sc_law.nd (de_call F__law_pick (hr.mono (by decide)) m__law_pick k__law_pick b__law_pick (da_cons (dv 1) (da_cons (dv 5) (da_nil)))))
    (dss_cons (ds_set 7 sc_law.nd (de_call F__law_pick (hr.mono (by decide)) m__law_pick k__law_pick b__law_pick (da_cons (dv 1) (da_cons (dv 5) (da_nil)))))
    (dss_cons (ds_set 8 sc_law.nd (de_make k_Promise___init__ F_Promise___init__ (hr.mono (by decide)) b_Promise___init__ K_Promise.m (da_cons (dv 6) (da_cons (dv 7) (da_nil)))))
    (dss_cons (ds_if (DW.dt (dw_or (dt_not (dt_tru (de_call F__law_judged (hr.mono (by decide)) m__law_judged k__law_judged b__law_judged (da_cons (dv 3) (da_cons (dv 8) (da_cons (dv 6) (da_cons (dv 7) (da_nil)))))))) (dw_or1 (dt_not (dt_tru (de_call F__law_judged (hr.mono (by decide)) m__law_judged k__law_judged b__law_judged (da_cons (dv 4) (da_cons (dv 8) (da_cons (dv 6) (da_cons (dv 7) (da_nil)))))))))))
      (dss_one (ds_ret (de_bl)))
      (dss_nil))
    (dss_cons (ds_set 9 sc_law.nd (de_str))
    (dss_cons (ds_if (dt_cmp (do_eq hr) (dv 7) (de_str))
      (dss_one (ds_set 9 sc_law.nd (de_str)))
      (dss_nil))
    (dss_cons (ds_if (DW.dt (dw_or (dt_cmp do_isnot (de_meth K_Promise.cl k_Promise_change F_Promise_change (hr.mono (by decide)) b_Promise_change (dv 8) (da_cons (de_str) (da_cons (dv 9) (da_nil)))) (de_non)) (dw_or1 (dt_not (dt_tru (de_call F__law_judged (hr.mono (by decide)) m__law_judged k__law_judged b__law_judged (da_cons (dv 3) (da_cons (dv 8) (da_cons (dv 6) (da_cons (dv 9) (da_nil)))))))))))
      (dss_one (ds_ret (de_bl)))
      (dss_nil))
    (dss_cons (ds_asg (de_bm PySem.F.plainAttrs_str PySem.F.slot_str_split PySem.F.type_str_split (dm_split false) (dv 3) (da_cons (de_str) (da_nil))) (dg_lst (n := 3) rfl (dgs_cons (dg_name 10 sc_law.nd) (dgs_cons (dg_name 11 sc_law.nd) (dgs_cons (dg_name 12 sc_law.nd) (dgs_nil))))))
    (dss_cons (ds_for PassesOwn.never rfl (di_list (dv 5)) (dg_name 13 sc_law.nd)
      (dss_one (ds_for PassesOwn.never rfl (di_list (dv 5)) (dg_name 14 sc_law.nd)
        (dss_cons (ds_set 15 sc_law.nd (de_make k_Promise___init__ F_Promise___init__ (hr.mono (by decide)) b_Promise___init__ K_Promise.m (da_cons (dv 13) (da_cons (dv 14) (da_nil)))))
        (dss_cons (ds_for PassesOwn.never rfl (di_list (de_call0 F__law_relations (hr.mono (by decide)) m__law_relations k__law_relations b__law_relations)) (dg_name 16 sc_law.nd)
          (dss_one (ds_if (dt_not (dt_tru (de_call F__law_judged (hr.mono (by decide)) m__law_judged k__law_judged b__law_judged (da_cons (de_op do_add (de_op do_add (de_op do_add (de_op do_add (dv 10) (de_str)) (dv 11)) (de_str)) (dv 16)) (da_cons (dv 15) (da_cons (dv 13) (da_cons (dv 14) (da_nil))))))))
            (dss_one (ds_ret (de_bl)))
            (dss_nil))))
        (dss_one (ds_if (dt_not (dt_tru (de_call F__law_judged (hr.mono (by decide)) m__law_judged k__law_judged b__law_judged (da_cons (dv 4) (da_cons (dv 15) (da_cons (dv 13) (da_cons (dv 14) (da_nil))))))))
          (dss_one (ds_ret (de_bl)))
          (dss_nil))))))))
    (dss_cons (ds_if (dt_cmp do_isnot (de_meth K_Promise.cl k_Promise_change F_Promise_change (hr.mono (by decide)) b_Promise_change (dv 8) (da_cons (de_str) (da_cons (dv 9) (da_nil)))) (de_non))
      (dss_one (ds_ret (de_bl)))
      (dss_nil))
    (dss_one (ds_ret (de_call F__law_judged (hr.mono (by decide)) m__law_judged k__law_judged b__law_judged (da_cons (dv 3) (da_cons (dv 8) (da_cons (dv 9) (da_cons (dv 9) (da_nil))))))))))))))))))))))), ?_⟩
  rintro ds μ Q EE ⟨ns, rfl, hns, q⟩
  walk_at "dl0"
  walk_at "s"
  simp [sp__law_begin, sp_begin]
  subst hN
  walk_at "s"
  simp
  subst hN
  walk_at "s"
  simp
  have H : ∀ es : List Str, es ≠ [] → es.length ≤ 105 → (∀ e ∈ es, e ∈ allE) → N [some (.scr ns), some .src, some (.lst (es.map .str)), none, none, none, none, none, none, none, none, none, none, none, none, none, none] μ := by
    intro es he0 hel hes
    subst hN
    walk_at "s"
    simp
    have : 0 < es.length := List.length_pos_iff.mpr he0
    refine ⟨by omega, by omega, fun e he => ?_⟩
    have hea := hes e he
    subst hN
    walk_at "s"
    simp
    refine ⟨e, rfl, hea, fun odd hodd => ?_⟩
    obtain ⟨s, hs, d, hd, w, hw, rfl⟩ := ent_of hea
    have h3 := split3 (wd_std s hs).1 (wd_deed d hd).1 (wd_rel w hw).1
    have hel2 : (entOf s d w).length ≤ 26 := ent_small hea
    clear he hes he0 this
    have h2 : 2 ≤ sizeLine := by rw [szl]; decide
    subst hN
    walk_at "s"
    simp
    refine ⟨h2, ?_⟩
    subst hN
    walk_at "s"
    simp
    suffices H : ∀ l : Str, PW l → N [some (.scr ns), some .src, some (.lst (es.map .str)), some (.str (entOf s d w)), some (.str odd), some (.lst [.str "fresh", .str "kept"]), some (.str l), none, none, none, none, none, none, none, none, none, none] μ from ⟨H _ (.inl rfl), H _ (.inr rfl)⟩
    intro l hl
    subst hN
    walk_at "s"
    simp
    suffices H : ∀ r : Str, PW r → N [some (.scr ns), some .src, some (.lst (es.map .str)), some (.str (entOf s d w)), some (.str odd), some (.lst [.str "fresh", .str "kept"]), some (.str l), some (.str r), none, none, none, none, none, none, none, none, none] μ from ⟨H _ (.inl rfl), H _ (.inr rfl)⟩
    intro r hr
    subst hN
    walk_at "s"
    simp
    intro x hx0
    refine ⟨x, l, r, rfl, mup_same, hl, hr, rfl, ?_⟩
    rw [mup_mup]
    have K1 := (Kn.nil (μ := μ)).add (c := promC C_Promise l r) hx0
    generalize mup μ x (promC C_Promise l r) = μ1 at *
    clear hx0
    subst hN
    walk_at "s"
    simp
    refine e__law_judged (by omega) hl hr (K1.g 0) ?_
    simp
    refine e__law_judged (by omega) hl hr (K1.g 0) ?_
    simp
    subst hN
    walk_at "s"
    simp
    subst hN
    walk_at "s"
    simp
    suffices H : ∀ z : Str, PW z → N [some (.scr ns), some .src, some (.lst (es.map .str)), some (.str (entOf s d w)), some (.str odd), some (.lst [.str "fresh", .str "kept"]), some (.str l), some (.str r), some (.ptr x), some (.str z), none, none, none, none, none, none, none] μ1 by
      split
      · exact H _ (.inl rfl)
      · exact H _ (.inr rfl)
    intro z hz
    subst hN
    walk_at "s"
    simp [vw_prom (K1.g 0)]
    refine ⟨x, l, r, _, z, rfl, K1.g 0, hz, .inr ⟨rfl, ?_⟩⟩
    replace K1 := K1.setAt 0 (promC C_Promise l z)
    generalize mup μ1 x (promC C_Promise l z) = μ2 at *
    simp
    refine e__law_judged (by omega) hl hz (K1.g 0) ?_
    simp
    subst hN
    walk_at "s"
    simp [h3]
    have hk : ¬ (" " : Str).length = 0 := by decide +kernel
    refine ⟨hk, by rw [szl]; omega, ?_⟩
    have fin : ∀ (ρ4 : DR) (μ' : Mu), ρ4.length = 4 → Kn μ' [(x, promC C_Promise l z)] → N ([some (.scr ns), some .src, some (.lst (es.map .str)), some (.str (entOf s d w)), some (.str odd), some (.lst [.str "fresh", .str "kept"]), some (.str l), some (.str r), some (.ptr x), some (.str z), some (.str s), some (.str d), some (.str w)] ++ ρ4) μ' := by
      intro ρ4 μ' h4 hK
      obtain ⟨a13, a14, a15, a16, rfl⟩ : ∃ a b c d, ρ4 = [a, b, c, d] := by
        match ρ4, h4 with
        | [a, b, c, d], _ => exact ⟨a, b, c, d, rfl⟩
      simp only [List.cons_append, List.nil_append]
      subst hN
      walk_at "s"
      refine for_hide fun L hL => ?_
      simp
      subst hL
      have hPW : ∀ w ∈ ([.str "fresh", .str "kept"] : List D), ∃ s, w = .str s ∧ PW s := by
        intro w hw
        simp only [List.mem_cons, List.not_mem_nil, or_false] at hw
        rcases hw with rfl | rfl
        · exact ⟨_, rfl, .inl rfl⟩
        · exact ⟨_, rfl, .inr rfl⟩
      refine loop_it (fun xs ρ μ => (∀ w ∈ xs, ∃ s, w = .str s ∧ PW s) ∧ ∃ a b c d' L, ρ = [some (.scr ns), some .src, some (.lst (es.map .str)), some (.str (entOf s d w)), some (.str odd), some (.lst [.str "fresh", .str "kept"]), some (.str l), some (.str r), some (.ptr x), some (.str z), some (.str s), some (.str d), some (.str w), a, b, c, d'] ∧ Kn μ (L ++ [(x, promC C_Promise l z)])) ⟨hPW, _, _, _, _, [], rfl, hK⟩ ?_ ?_
      · rintro ρ μ7 ⟨-, a, b, c, d', L, rfl, hK⟩
        replace hK : Kn μ7 [(x, promC C_Promise l z)] := by simpa using hK.drop L.length
        show N _ _
        subst hN
        walk_at "s"
        simp [vw_prom (hK.g 0)]
        refine ⟨x, l, z, _, z, rfl, hK.g 0, hz, .inl ⟨rfl, ?_⟩⟩
        replace hK := hK.setAt 0 (promC C_Promise z z)
        generalize mup μ7 x (promC C_Promise z z) = μ8 at *
        simp
        subst hN
        simp
        exact e__law_judged (by omega) hz hz (hK.g 0) (Fg.here (q _))
      · rintro u rest ρ μ7 N' ⟨hN0, a, b, c, d', L, rfl, hK⟩ hN'
        replace hK : Kn μ7 [(x, promC C_Promise l z)] := by simpa using hK.drop L.length
        obtain ⟨u, rfl, hu⟩ := hN0 u (by simp)
        refine for_hide fun L hL => ?_
        simp
        subst hL
        refine loop_it (fun xs ρ μ => (∀ w ∈ xs, ∃ s, w = .str s ∧ PW s) ∧ ∃ b c d' L, ρ = [some (.scr ns), some .src, some (.lst (es.map .str)), some (.str (entOf s d w)), some (.str odd), some (.lst [.str "fresh", .str "kept"]), some (.str l), some (.str r), some (.ptr x), some (.str z), some (.str s), some (.str d), some (.str w), some (.str u), b, c, d'] ∧ Kn μ (L ++ [(x, promC C_Promise l z)])) ⟨hPW, _, _, _, [], rfl, hK⟩ ?_ ?_
        · rintro ρ μ8 ⟨-, b, c, d', L, rfl, hK⟩
          exact hN' _ _ ⟨fun w hw => hN0 w (List.mem_cons_of_mem _ hw), _, _, _, _, L, rfl, hK⟩
        · rintro v rest2 ρ μ8 N2 ⟨hN3, b, c, d', L, rfl, hK⟩ hN4
          replace hK : Kn μ8 [(x, promC C_Promise l z)] := by simpa using hK.drop L.length
          obtain ⟨v, rfl, hv⟩ := hN3 v (by simp)
          walk_at "s"
          simp
          intro y hy0
          refine ⟨y, u, v, rfl, mup_same, hu, hv, rfl, ?_⟩
          rw [mup_mup]
          replace hK := hK.add (c := promC C_Promise u v) hy0
          generalize mup μ8 y (promC C_Promise u v) = μ9 at *
          subst hN
          walk_at "s"
          refine for_hide fun L hL => ?_
          simp
          subst hL
          refine loop_it (fun xs ρ μ => (∀ w ∈ xs, ∃ s, w = .str s ∧ s ∈ relL) ∧ ∃ d' L, ρ = [some (.scr ns), some .src, some (.lst (es.map .str)), some (.str (entOf s d w)), some (.str odd), some (.lst [.str "fresh", .str "kept"]), some (.str l), some (.str r), some (.ptr x), some (.str z), some (.str s), some (.str d), some (.str w), some (.str u), some (.str v), some (.ptr y), d'] ∧ Kn μ (L ++ [(y, promC C_Promise u v), (x, promC C_Promise l z)])) ⟨?_, _, [], rfl, hK⟩ ?_ ?_
          · intro w hw
            obtain ⟨o, ho, rfl⟩ := List.mem_map.mp hw
            exact ⟨_, rfl, ho⟩
          · rintro ρ μ8 ⟨-, d', L, rfl, hK⟩
            replace hK : Kn μ8 [(y, promC C_Promise u v), (x, promC C_Promise l z)] := by simpa using hK.drop L.length
            show N _ _
            subst hN
            simp
            refine e__law_judged (by omega) hu hv (hK.g 0) ?_
            simp
            exact hN4 _ _ ⟨fun w hw => hN3 w (List.mem_cons_of_mem _ hw), _, _, _, [_], rfl, hK⟩
          · rintro o rest3 ρ μ8 N5 ⟨hN6, d', L, rfl, hK⟩ hN7
            replace hK : Kn μ8 [(y, promC C_Promise u v), (x, promC C_Promise l z)] := by simpa using hK.drop L.length
            obtain ⟨o, rfl, ho⟩ := hN6 o (by simp)
            have hoe : (entOf s d o).length ≤ 26 := ent_small (ent_in hs hd ho)
            unfold entOf at hoe
            simp only [app_len] at hoe
            simp [app_len]
            refine ⟨by rw [szl]; omega, by rw [szl]; omega, by rw [szl]; omega, by rw [szl]; omega, ?_⟩
            refine e__law_judged (by simp only [app_len]; omega) hu hv (hK.g 0) ?_
            exact hN7 _ _ ⟨fun w hw => hN6 w (List.mem_cons_of_mem _ hw), _, [], rfl, hK⟩
    exact fin [none, none, none, none] _ rfl K1
  intro n0_ _ _
  split
  · intro p hp
    refine comp_strs (fun e => decide ((Txt.split e " ").getD 1 "" ∈ strongL)) (by rw [allE_len]; omega) (fun e he acc M ha hM => ?_) ?_
    · obtain ⟨s, hs, d, hd, w, hw, rfl⟩ := ent_of he
      have h3 := split3 (wd_std s hs).1 (wd_deed d hd).1 (wd_rel w hw).1
      have hel2 : (entOf s d w).length ≤ 26 := ent_small he
      rw [h3] at hM
      simp [h3]
      refine ⟨by decide +kernel, by rw [szl]; omega, ?_⟩
      have e1 : (d = "mark" ∨ d = "fill" ∨ d = "pack" ∨ d = "work") = (d ∈ strongL) := by simp [strongL]
      simp only [e1]
      split
      · next h => rw [if_pos (by simpa using h)] at hM; exact ⟨sz_lt ha, hM⟩
      · next h => rw [if_neg (by simpa using h)] at hM; exact hM
    · simp only [mup_same, mdel_mup hp]
      exact H _ (by decide +kernel) (Nat.le_trans (List.length_filter_le _ _) (by rw [allE_len]; omega)) fun e he => (List.mem_filter.mp he).1
  · exact H _ (by decide +kernel) (by rw [allE_len]; omega) fun e he => he
abbrev s_InvalidEntry___init__ : Stmt := inClass (topS 4) 0
theorem sc_InvalidEntry___init__ : NdefX.NScope ["self", "text", "__class__"] ["self", "text"] ["__class__"] (defScope s_InvalidEntry___init__) := NdefX.nscope_by (by decide +kernel)
theorem su_InvalidEntry___init__ : (defScope s_InvalidEntry___init__).names.lookup ("super" : Str) = some .globalImplicit := by decide +kernel
set_option maxHeartbeats 8000000 in
theorem all_mk {l : PySem.W.OpenLaw} {w : World} {K : PySem.W.Frag} {h : Heap} {mg : Str → Option Value} {fa : Addr} (X : K.In h) (G : h.Ns mainGlobals mg) (hfa : mg "law" = some (.ref fa))
    {C_InvalidEntry : Addr}
    {C_LentError : Addr}
    {C_InvalidName : Addr}
    {C_InvalidProgram : Addr}
    {C_InvalidPromise : Addr}
    {C_InvalidRule : Addr}
    {C_NotBeneath : Addr}
    {C_InvalidPlace : Addr}
    {C_NotParted : Addr}
    {C_NothingLeft : Addr}
    {C_TooMany : Addr}
    {C_Unsound : Addr}
    {C_NotMendable : Addr}
    {C_NotSharing : Addr}
    {C_Stale : Addr}
    {C_OverPower : Addr}
    {C_Rejected : Addr}
    {C_Occupied : Addr}
    {f_InvalidEntry cc_InvalidEntry cda_InvalidEntry N_InvalidEntry : Addr} {nm_InvalidEntry q_InvalidEntry : Str} {bs_InvalidEntry bm_InvalidEntry : List Value} {sn_InvalidEntry : List Str} {sub_InvalidEntry : List Value} {ab_InvalidEntry : Bool} {col_InvalidEntry : Option Bool} {dd_InvalidEntry od_InvalidEntry an_InvalidEntry c2_InvalidEntry cld_InvalidEntry : Option Addr} {k0_InvalidEntry k1_InvalidEntry k2_InvalidEntry k3_InvalidEntry k5_InvalidEntry : Option Value} {oc_InvalidEntry kV_InvalidEntry dc_InvalidEntry pm_InvalidEntry ct_InvalidEntry c1_InvalidEntry cl_InvalidEntry : Value} {sl_InvalidEntry c3_InvalidEntry csl_InvalidEntry : Array (Option Value)} {vs_InvalidEntry : Array Value} {fi_InvalidEntry : Str} {tf_InvalidEntry : Tok}
    {C_Promise : Addr}
    {f0 : Addr} {od0 an0 : Option Addr} {sl0 : Array (Option Value)} {oc0 kV0 dc0 pm0 cd0 ct0 : Value}
    {f1 : Addr} {od1 an1 : Option Addr} {sl1 : Array (Option Value)} {oc1 kV1 dc1 pm1 cd1 ct1 : Value}
    {f2 : Addr} {od2 an2 : Option Addr} {sl2 : Array (Option Value)} {oc2 kV2 dc2 pm2 cd2 ct2 : Value}
    {f3 : Addr} {od3 an3 : Option Addr} {sl3 : Array (Option Value)} {oc3 kV3 dc3 pm3 cd3 ct3 : Value}
    {f4 : Addr} {od4 an4 : Option Addr} {sl4 : Array (Option Value)} {oc4 kV4 dc4 pm4 cd4 ct4 : Value}
    {p4 : Addr} {re4 : List Value}
    {f5 : Addr} {od5 an5 : Option Addr} {sl5 : Array (Option Value)} {oc5 kV5 dc5 pm5 cd5 ct5 : Value}
    {p5 : Addr} {re5 : List Value}
    {f6 : Addr} {od6 an6 : Option Addr} {sl6 : Array (Option Value)} {oc6 kV6 dc6 pm6 cd6 ct6 : Value}
    {f7 : Addr} {od7 an7 : Option Addr} {sl7 : Array (Option Value)} {oc7 kV7 dc7 pm7 cd7 ct7 : Value}
    {f8 : Addr} {od8 an8 : Option Addr} {sl8 : Array (Option Value)} {oc8 kV8 dc8 pm8 cd8 ct8 : Value}
    {f9 : Addr} {od9 an9 : Option Addr} {sl9 : Array (Option Value)} {oc9 kV9 dc9 pm9 cd9 ct9 : Value}
    {f10 : Addr} {od10 an10 : Option Addr} {sl10 : Array (Option Value)} {oc10 kV10 dc10 pm10 cd10 ct10 : Value}
    {f11 : Addr} {od11 an11 : Option Addr} {sl11 : Array (Option Value)} {oc11 kV11 dc11 pm11 cd11 ct11 : Value}
    {f12 : Addr} {od12 an12 : Option Addr} {sl12 : Array (Option Value)} {oc12 kV12 dc12 pm12 cd12 ct12 : Value}
    {f13 : Addr} {od13 an13 : Option Addr} {sl13 : Array (Option Value)} {oc13 kV13 dc13 pm13 cd13 ct13 : Value}
    {f14 : Addr} {od14 an14 : Option Addr} {sl14 : Array (Option Value)} {oc14 kV14 dc14 pm14 cd14 ct14 : Value}
    {f15 : Addr} {od15 an15 : Option Addr} {sl15 : Array (Option Value)} {oc15 kV15 dc15 pm15 cd15 ct15 : Value}
    {f16 : Addr} {od16 an16 : Option Addr} {sl16 : Array (Option Value)} {oc16 kV16 dc16 pm16 cd16 ct16 : Value}
    {f17 : Addr} {od17 an17 : Option Addr} {sl17 : Array (Option Value)} {oc17 kV17 dc17 pm17 cd17 ct17 : Value}
    {f18 : Addr} {od18 an18 : Option Addr} {sl18 : Array (Option Value)} {oc18 kV18 dc18 pm18 cd18 ct18 : Value}
    {p18 : Addr} {re18 : List Value} {gv18 : Value}
    {f19 : Addr} {od19 an19 : Option Addr} {sl19 : Array (Option Value)} {oc19 kV19 dc19 pm19 cd19 ct19 : Value}
    {p19 : Addr} {re19 : List Value} {gv19 : Value}
    {f20 : Addr} {od20 an20 : Option Addr} {sl20 : Array (Option Value)} {oc20 kV20 dc20 pm20 cd20 ct20 : Value}
    {f21 : Addr} {od21 an21 : Option Addr} {sl21 : Array (Option Value)} {oc21 kV21 dc21 pm21 cd21 ct21 : Value}
    {f22 : Addr} {od22 an22 : Option Addr} {sl22 : Array (Option Value)} {oc22 kV22 dc22 pm22 cd22 ct22 : Value}
    {f23 : Addr} {od23 an23 : Option Addr} {sl23 : Array (Option Value)} {oc23 kV23 dc23 pm23 cd23 ct23 : Value}
    {f24 : Addr} {od24 an24 : Option Addr} {sl24 : Array (Option Value)} {oc24 kV24 dc24 pm24 cd24 ct24 : Value}
    {f25 : Addr} {od25 an25 : Option Addr} {sl25 : Array (Option Value)} {oc25 kV25 dc25 pm25 cd25 ct25 : Value}
    {f26 : Addr} {od26 an26 : Option Addr} {sl26 : Array (Option Value)} {oc26 kV26 dc26 pm26 cd26 ct26 : Value}
    {f27 : Addr} {od27 an27 : Option Addr} {sl27 : Array (Option Value)} {oc27 kV27 dc27 pm27 cd27 ct27 : Value}
    {t_RELATIONS : Addr} {ts_RELATIONS : List Value} {tz_RELATIONS : Nat} {td_RELATIONS : Option Addr} {tl_RELATIONS : Array (Option Value)}
    {t_DEEDS : Addr} {ts_DEEDS : List Value} {tz_DEEDS : Nat} {td_DEEDS : Option Addr} {tl_DEEDS : Array (Option Value)}
    {t_STANDINGS : Addr} {ts_STANDINGS : List Value} {tz_STANDINGS : Nat} {td_STANDINGS : Option Addr} {tl_STANDINGS : Array (Option Value)}
    {t_MOVING : Addr} {ts_MOVING : List Value} {tz_MOVING : Nat} {td_MOVING : Option Addr} {tl_MOVING : Array (Option Value)}
    {t_STRONG : Addr} {ts_STRONG : List Value} {tz_STRONG : Nat} {td_STRONG : Option Addr} {tl_STRONG : Array (Option Value)}
    (aC_InvalidEntry : PySem.W.nsIn K mainGlobals "InvalidEntry" = some (some (.ref C_InvalidEntry)))
    (aC_LentError : PySem.W.nsIn K mainGlobals "LentError" = some (some (.ref C_LentError)))
    (aC_InvalidName : PySem.W.nsIn K mainGlobals "InvalidName" = some (some (.ref C_InvalidName)))
    (aC_InvalidProgram : PySem.W.nsIn K mainGlobals "InvalidProgram" = some (some (.ref C_InvalidProgram)))
    (aC_InvalidPromise : PySem.W.nsIn K mainGlobals "InvalidPromise" = some (some (.ref C_InvalidPromise)))
    (aC_InvalidRule : PySem.W.nsIn K mainGlobals "InvalidRule" = some (some (.ref C_InvalidRule)))
    (aC_NotBeneath : PySem.W.nsIn K mainGlobals "NotBeneath" = some (some (.ref C_NotBeneath)))
    (aC_InvalidPlace : PySem.W.nsIn K mainGlobals "InvalidPlace" = some (some (.ref C_InvalidPlace)))
    (aC_NotParted : PySem.W.nsIn K mainGlobals "NotParted" = some (some (.ref C_NotParted)))
    (aC_NothingLeft : PySem.W.nsIn K mainGlobals "NothingLeft" = some (some (.ref C_NothingLeft)))
    (aC_TooMany : PySem.W.nsIn K mainGlobals "TooMany" = some (some (.ref C_TooMany)))
    (aC_Unsound : PySem.W.nsIn K mainGlobals "Unsound" = some (some (.ref C_Unsound)))
    (aC_NotMendable : PySem.W.nsIn K mainGlobals "NotMendable" = some (some (.ref C_NotMendable)))
    (aC_NotSharing : PySem.W.nsIn K mainGlobals "NotSharing" = some (some (.ref C_NotSharing)))
    (aC_Stale : PySem.W.nsIn K mainGlobals "Stale" = some (some (.ref C_Stale)))
    (aC_OverPower : PySem.W.nsIn K mainGlobals "OverPower" = some (some (.ref C_OverPower)))
    (aC_Rejected : PySem.W.nsIn K mainGlobals "Rejected" = some (some (.ref C_Rejected)))
    (aC_Occupied : PySem.W.nsIn K mainGlobals "Occupied" = some (some (.ref C_Occupied)))
    (tp_ : (l.prog.main.scope.names.lookup ("super" : Str)).isSome = false) (zz_super : PySem.W.nsIn K mainGlobals "super" = some none) (oq_ : PySem.W.nsIn K cStatics "thirdparty.any" = some none) (hn_ : PySem.W.specialIn K (.builtin "object.__class__") "__get__" = some (some (.builtin "getset_descriptor.__get__"))) (ht_ : PySem.W.takesIn K (.builtin "object.__class__") = some true)
    (lc_InvalidEntry : K.lookup C_InvalidEntry = some (excClassObj nm_InvalidEntry q_InvalidEntry C_InvalidEntry N_InvalidEntry bs_InvalidEntry bm_InvalidEntry true sn_InvalidEntry sub_InvalidEntry ab_InvalidEntry col_InvalidEntry dd_InvalidEntry k0_InvalidEntry k1_InvalidEntry k2_InvalidEntry k3_InvalidEntry k5_InvalidEntry "ValueError.__new__")) (rv_InvalidEntry : PySem.HandSPX.refsVE bm_InvalidEntry = true) (sa_InvalidEntry : PySem.W.findIn K (.ref C_InvalidEntry) "__setattr__" = some (some (.builtin "object.__setattr__"))) (eb_InvalidEntry : PySem.W.subIn K (.ref C_InvalidEntry) (.type "BaseException") = some true) (tc_InvalidEntry : PySem.W.typeIn K (.ref C_InvalidEntry) = some (.type "type")) (kc_InvalidEntry : PySem.W.keepIn K (.ref C_InvalidEntry) = true) (ii_InvalidEntry : PySem.W.findIn K (.ref C_InvalidEntry) "__init__" = some (some (.ref f_InvalidEntry))) (tf_InvalidEntry' : PySem.W.typeIn K (.ref f_InvalidEntry) = some (.type "function"))
      (lf_InvalidEntry : K.lookup f_InvalidEntry = some ⟨oc_InvalidEntry, od_InvalidEntry, .func (PySem.W.fnX "__init__" "InvalidEntry.__init__" (defArgs s_InvalidEntry___init__) (defBody s_InvalidEntry___init__) (defScope s_InvalidEntry___init__) [("__class__", cc_InvalidEntry)] .none kV_InvalidEntry dc_InvalidEntry pm_InvalidEntry an_InvalidEntry (.ref cda_InvalidEntry) ct_InvalidEntry), sl_InvalidEntry⟩) (ci_InvalidEntry : PySem.W.codeIn K (.ref cda_InvalidEntry) "InvalidEntry.__init__" = true) (lk_InvalidEntry : K.lookup cda_InvalidEntry = some ⟨c1_InvalidEntry, c2_InvalidEntry, .fields vs_InvalidEntry, c3_InvalidEntry⟩) (v2_InvalidEntry : vs_InvalidEntry[2]? = some (.str fi_InvalidEntry tf_InvalidEntry)) (fe_InvalidEntry : ((l.prog.main.file : Str) == fi_InvalidEntry) = true) (lcc_InvalidEntry : K.lookup cc_InvalidEntry = some ⟨cl_InvalidEntry, cld_InvalidEntry, .cell (some (.ref C_InvalidEntry)), csl_InvalidEntry⟩)
      (si_InvalidEntry : PySem.W.ks_superIn K C_InvalidEntry C_InvalidEntry "__init__" = some (some (.builtin "ValueError.__init__"))) (ve_InvalidEntry : PySem.W.subIn K (.ref C_InvalidEntry) (.type "ValueError") = some true) (no_InvalidEntry : PySem.W.findIn K (.ref C_InvalidEntry) "text" = some none) (hg_InvalidEntry : PySem.W.findIn K (.ref C_InvalidEntry) "__getattribute__" = some (some (.builtin "BaseException.__getattribute__"))) (hk_InvalidEntry : PySem.W.findIn K (.ref C_InvalidEntry) "__getattr__" = some none) (hd_InvalidEntry : PySem.W.hasDictIn K C_InvalidEntry = true) (ha_InvalidEntry : PySem.W.findIn K (.ref C_InvalidEntry) "__class__" = some (some (.builtin "object.__class__"))) (hm_InvalidEntry : PySem.W.mroIn K C_InvalidEntry (.type "object") = some true)
    (xm_InvalidEntry_LentError : PySem.W.exmOne K (.ref C_InvalidEntry) (.ref C_LentError) = some true)
    (ki_InvalidEntry_InvalidName : PySem.W.kitOne K (.ref C_InvalidEntry) (.ref C_InvalidName) = some false)
    (ki_InvalidEntry_InvalidProgram : PySem.W.kitOne K (.ref C_InvalidEntry) (.ref C_InvalidProgram) = some false)
    (ki_InvalidEntry_InvalidPromise : PySem.W.kitOne K (.ref C_InvalidEntry) (.ref C_InvalidPromise) = some false)
    (ki_InvalidEntry_InvalidRule : PySem.W.kitOne K (.ref C_InvalidEntry) (.ref C_InvalidRule) = some false)
    (ki_InvalidEntry_NotBeneath : PySem.W.kitOne K (.ref C_InvalidEntry) (.ref C_NotBeneath) = some false)
    (ki_InvalidEntry_InvalidPlace : PySem.W.kitOne K (.ref C_InvalidEntry) (.ref C_InvalidPlace) = some false)
    (ki_InvalidEntry_NotParted : PySem.W.kitOne K (.ref C_InvalidEntry) (.ref C_NotParted) = some false)
    (ki_InvalidEntry_NothingLeft : PySem.W.kitOne K (.ref C_InvalidEntry) (.ref C_NothingLeft) = some false)
    (ki_InvalidEntry_TooMany : PySem.W.kitOne K (.ref C_InvalidEntry) (.ref C_TooMany) = some false)
    (ki_InvalidEntry_Unsound : PySem.W.kitOne K (.ref C_InvalidEntry) (.ref C_Unsound) = some false)
    (ki_InvalidEntry_NotMendable : PySem.W.kitOne K (.ref C_InvalidEntry) (.ref C_NotMendable) = some false)
    (ki_InvalidEntry_NotSharing : PySem.W.kitOne K (.ref C_InvalidEntry) (.ref C_NotSharing) = some false)
    (ki_InvalidEntry_Stale : PySem.W.kitOne K (.ref C_InvalidEntry) (.ref C_Stale) = some false)
    (ki_InvalidEntry_OverPower : PySem.W.kitOne K (.ref C_InvalidEntry) (.ref C_OverPower) = some false)
    (ki_InvalidEntry_Rejected : PySem.W.kitOne K (.ref C_InvalidEntry) (.ref C_Rejected) = some false)
    (ki_InvalidEntry_Occupied : PySem.W.kitOne K (.ref C_InvalidEntry) (.ref C_Occupied) = some false)
    (ki_InvalidEntry_ValueError : PySem.W.kitOne K (.ref C_InvalidEntry) (.type "ValueError") = some true)
    (ki_InvalidEntry_InvalidEntry : PySem.W.kitOne K (.ref C_InvalidEntry) (.ref C_InvalidEntry) = some true)
    (aC_Promise : PySem.W.nsIn K mainGlobals "Promise" = some (some (.ref C_Promise)))
    (a0 : PySem.W.nsIn K mainGlobals "checked_word" = some (some (.ref f0))) (l0 : K.lookup f0 = some ⟨oc0, od0, .func (PySem.W.fnOf "checked_word" "checked_word" (defArgs s_checked_word) (defBody s_checked_word) (defScope s_checked_word) .none kV0 dc0 pm0 an0 cd0 ct0), sl0⟩) (c0 : PySem.W.codeIn K cd0 "checked_word" = true) (k0 : PySem.W.keepIn K (.ref f0) = true)
    (a1 : PySem.W.findIn K (.ref C_Promise) "__init__" = some (some (.ref f1))) (i1 : PySem.W.isFn K (.ref f1) = true) (l1 : K.lookup f1 = some ⟨oc1, od1, .func (PySem.W.fnOf "__init__" "Promise.__init__" (defArgs s_Promise___init__) (defBody s_Promise___init__) (defScope s_Promise___init__) .none kV1 dc1 pm1 an1 cd1 ct1), sl1⟩) (c1 : PySem.W.codeIn K cd1 "Promise.__init__" = true) (k1 : PySem.W.keepIn K (.ref f1) = true)
    (a2 : PySem.W.nsIn K mainGlobals "words_of_entry" = some (some (.ref f2))) (l2 : K.lookup f2 = some ⟨oc2, od2, .func (PySem.W.fnOf "words_of_entry" "words_of_entry" (defArgs s_words_of_entry) (defBody s_words_of_entry) (defScope s_words_of_entry) .none kV2 dc2 pm2 an2 cd2 ct2), sl2⟩) (c2 : PySem.W.codeIn K cd2 "words_of_entry" = true) (k2 : PySem.W.keepIn K (.ref f2) = true)
    (a3 : PySem.W.nsIn K mainGlobals "can_move" = some (some (.ref f3))) (l3 : K.lookup f3 = some ⟨oc3, od3, .func (PySem.W.fnOf "can_move" "can_move" (defArgs s_can_move) (defBody s_can_move) (defScope s_can_move) .none kV3 dc3 pm3 an3 cd3 ct3), sl3⟩) (c3 : PySem.W.codeIn K cd3 "can_move" = true) (k3 : PySem.W.keepIn K (.ref f3) = true)
    (a4 : PySem.W.findIn K (.ref C_Promise) "reserved" = some (some (.ref p4))) (i4 : PySem.W.recIn K p4 "property" = some (.ref f4 :: re4)) (ga4 : PySem.W.specialIn K (.ref p4) "__get__" = some (some (.builtin "property.__get__"))) (tk4 : PySem.W.takesIn K (.ref p4) = some true) (l4 : K.lookup f4 = some ⟨oc4, od4, .func (PySem.W.fnOf "reserved" "Promise.reserved" (defArgs s_Promise_reserved) (defBody s_Promise_reserved) (defScope s_Promise_reserved) .none kV4 dc4 pm4 an4 cd4 ct4), sl4⟩) (c4 : PySem.W.codeIn K cd4 "Promise.reserved" = true) (k4 : PySem.W.keepIn K (.ref f4) = true)
    (a5 : PySem.W.findIn K (.ref C_Promise) "look" = some (some (.ref p5))) (i5 : PySem.W.recIn K p5 "property" = some (.ref f5 :: re5)) (ga5 : PySem.W.specialIn K (.ref p5) "__get__" = some (some (.builtin "property.__get__"))) (tk5 : PySem.W.takesIn K (.ref p5) = some true) (l5 : K.lookup f5 = some ⟨oc5, od5, .func (PySem.W.fnOf "look" "Promise.look" (defArgs s_Promise_look) (defBody s_Promise_look) (defScope s_Promise_look) .none kV5 dc5 pm5 an5 cd5 ct5), sl5⟩) (c5 : PySem.W.codeIn K cd5 "Promise.look" = true) (k5 : PySem.W.keepIn K (.ref f5) = true)
    (a6 : PySem.W.nsIn K mainGlobals "can_change" = some (some (.ref f6))) (l6 : K.lookup f6 = some ⟨oc6, od6, .func (PySem.W.fnOf "can_change" "can_change" (defArgs s_can_change) (defBody s_can_change) (defScope s_can_change) .none kV6 dc6 pm6 an6 cd6 ct6), sl6⟩) (c6 : PySem.W.codeIn K cd6 "can_change" = true) (k6 : PySem.W.keepIn K (.ref f6) = true)
    (a7 : PySem.W.nsIn K mainGlobals "harmful" = some (some (.ref f7))) (l7 : K.lookup f7 = some ⟨oc7, od7, .func (PySem.W.fnOf "harmful" "harmful" (defArgs s_harmful) (defBody s_harmful) (defScope s_harmful) .none kV7 dc7 pm7 an7 cd7 ct7), sl7⟩) (c7 : PySem.W.codeIn K cd7 "harmful" = true) (k7 : PySem.W.keepIn K (.ref f7) = true)
    (a8 : PySem.W.nsIn K mainGlobals "_law_told" = some (some (.ref f8))) (l8 : K.lookup f8 = some ⟨oc8, od8, .func (PySem.W.fnOf "_law_told" "_law_told" (defArgs s__law_told) (defBody s__law_told) (defScope s__law_told) .none kV8 dc8 pm8 an8 cd8 ct8), sl8⟩) (c8 : PySem.W.codeIn K cd8 "_law_told" = true) (k8 : PySem.W.keepIn K (.ref f8) = true)
    (a9 : PySem.W.findIn K (.ref C_Promise) "__str__" = some (some (.ref f9))) (i9 : PySem.W.isFn K (.ref f9) = true) (l9 : K.lookup f9 = some ⟨oc9, od9, .func (PySem.W.fnOf "__str__" "Promise.__str__" (defArgs s_Promise___str__) (defBody s_Promise___str__) (defScope s_Promise___str__) .none kV9 dc9 pm9 an9 cd9 ct9), sl9⟩) (c9 : PySem.W.codeIn K cd9 "Promise.__str__" = true) (k9 : PySem.W.keepIn K (.ref f9) = true)
    (a10 : PySem.W.nsIn K mainGlobals "_law_standings" = some (some (.ref f10))) (l10 : K.lookup f10 = some ⟨oc10, od10, .func (PySem.W.fnOf "_law_standings" "_law_standings" (defArgs s__law_standings) (defBody s__law_standings) (defScope s__law_standings) .none kV10 dc10 pm10 an10 cd10 ct10), sl10⟩) (c10 : PySem.W.codeIn K cd10 "_law_standings" = true) (k10 : PySem.W.keepIn K (.ref f10) = true)
    (a11 : PySem.W.nsIn K mainGlobals "_law_deeds" = some (some (.ref f11))) (l11 : K.lookup f11 = some ⟨oc11, od11, .func (PySem.W.fnOf "_law_deeds" "_law_deeds" (defArgs s__law_deeds) (defBody s__law_deeds) (defScope s__law_deeds) .none kV11 dc11 pm11 an11 cd11 ct11), sl11⟩) (c11 : PySem.W.codeIn K cd11 "_law_deeds" = true) (k11 : PySem.W.keepIn K (.ref f11) = true)
    (a12 : PySem.W.nsIn K mainGlobals "_law_relations" = some (some (.ref f12))) (l12 : K.lookup f12 = some ⟨oc12, od12, .func (PySem.W.fnOf "_law_relations" "_law_relations" (defArgs s__law_relations) (defBody s__law_relations) (defScope s__law_relations) .none kV12 dc12 pm12 an12 cd12 ct12), sl12⟩) (c12 : PySem.W.codeIn K cd12 "_law_relations" = true) (k12 : PySem.W.keepIn K (.ref f12) = true)
    (a13 : PySem.W.nsIn K mainGlobals "_law_entries" = some (some (.ref f13))) (l13 : K.lookup f13 = some ⟨oc13, od13, .func (PySem.W.fnOf "_law_entries" "_law_entries" (defArgs s__law_entries) (defBody s__law_entries) (defScope s__law_entries) .none kV13 dc13 pm13 an13 cd13 ct13), sl13⟩) (c13 : PySem.W.codeIn K cd13 "_law_entries" = true) (k13 : PySem.W.keepIn K (.ref f13) = true)
    (a14 : PySem.W.nsIn K mainGlobals "_law_harmful" = some (some (.ref f14))) (l14 : K.lookup f14 = some ⟨oc14, od14, .func (PySem.W.fnOf "_law_harmful" "_law_harmful" (defArgs s__law_harmful) (defBody s__law_harmful) (defScope s__law_harmful) .none kV14 dc14 pm14 an14 cd14 ct14), sl14⟩) (c14 : PySem.W.codeIn K cd14 "_law_harmful" = true) (k14 : PySem.W.keepIn K (.ref f14) = true)
    (a15 : PySem.W.nsIn K mainGlobals "_law_same_row" = some (some (.ref f15))) (l15 : K.lookup f15 = some ⟨oc15, od15, .func (PySem.W.fnOf "_law_same_row" "_law_same_row" (defArgs s__law_same_row) (defBody s__law_same_row) (defScope s__law_same_row) .none kV15 dc15 pm15 an15 cd15 ct15), sl15⟩) (c15 : PySem.W.codeIn K cd15 "_law_same_row" = true) (k15 : PySem.W.keepIn K (.ref f15) = true)
    (a16 : PySem.W.nsIn K mainGlobals "_law_same" = some (some (.ref f16))) (l16 : K.lookup f16 = some ⟨oc16, od16, .func (PySem.W.fnOf "_law_same" "_law_same" (defArgs s__law_same) (defBody s__law_same) (defScope s__law_same) .none kV16 dc16 pm16 an16 cd16 ct16), sl16⟩) (c16 : PySem.W.codeIn K cd16 "_law_same" = true) (k16 : PySem.W.keepIn K (.ref f16) = true)
    (a17 : PySem.W.nsIn K mainGlobals "_law_judged" = some (some (.ref f17))) (l17 : K.lookup f17 = some ⟨oc17, od17, .func (PySem.W.fnOf "_law_judged" "_law_judged" (defArgs s__law_judged) (defBody s__law_judged) (defScope s__law_judged) .none kV17 dc17 pm17 an17 cd17 ct17), sl17⟩) (c17 : PySem.W.codeIn K cd17 "_law_judged" = true) (k17 : PySem.W.keepIn K (.ref f17) = true)
    (a18 : PySem.W.takerIn K C_Promise "look" = some (some (.ref p18))) (ty18 : PySem.W.typeIn K (.ref p18) = some (.type "property")) (i18 : PySem.W.recIn K p18 "property" = some (gv18 :: .ref f18 :: re18)) (l18 : K.lookup f18 = some ⟨oc18, od18, .func (PySem.W.fnOf "look" "Promise.look" (defArgs s_Promise_look_setter) (defBody s_Promise_look_setter) (defScope s_Promise_look_setter) .none kV18 dc18 pm18 an18 cd18 ct18), sl18⟩) (c18 : PySem.W.codeIn K cd18 "Promise.look" = true) (k18 : PySem.W.keepIn K (.ref f18) = true)
    (a19 : PySem.W.takerIn K C_Promise "reserved" = some (some (.ref p19))) (ty19 : PySem.W.typeIn K (.ref p19) = some (.type "property")) (i19 : PySem.W.recIn K p19 "property" = some (gv19 :: .ref f19 :: re19)) (l19 : K.lookup f19 = some ⟨oc19, od19, .func (PySem.W.fnOf "reserved" "Promise.reserved" (defArgs s_Promise_reserved_setter) (defBody s_Promise_reserved_setter) (defScope s_Promise_reserved_setter) .none kV19 dc19 pm19 an19 cd19 ct19), sl19⟩) (c19 : PySem.W.codeIn K cd19 "Promise.reserved" = true) (k19 : PySem.W.keepIn K (.ref f19) = true)
    (a20 : PySem.W.findIn K (.ref C_Promise) "change" = some (some (.ref f20))) (i20 : PySem.W.isFn K (.ref f20) = true) (l20 : K.lookup f20 = some ⟨oc20, od20, .func (PySem.W.fnOf "change" "Promise.change" (defArgs s_Promise_change) (defBody s_Promise_change) (defScope s_Promise_change) .none kV20 dc20 pm20 an20 cd20 ct20), sl20⟩) (c20 : PySem.W.codeIn K cd20 "Promise.change" = true) (k20 : PySem.W.keepIn K (.ref f20) = true)
    (a21 : PySem.W.nsIn K mainGlobals "_law_draw" = some (some (.ref f21))) (l21 : K.lookup f21 = some ⟨oc21, od21, .func (PySem.W.fnOf "_law_draw" "_law_draw" (defArgs s__law_draw) (defBody s__law_draw) (defScope s__law_draw) .none kV21 dc21 pm21 an21 cd21 ct21), sl21⟩) (c21 : PySem.W.codeIn K cd21 "_law_draw" = true) (k21 : PySem.W.keepIn K (.ref f21) = true)
    (a22 : PySem.W.nsIn K mainGlobals "_law_pick" = some (some (.ref f22))) (l22 : K.lookup f22 = some ⟨oc22, od22, .func (PySem.W.fnOf "_law_pick" "_law_pick" (defArgs s__law_pick) (defBody s__law_pick) (defScope s__law_pick) .none kV22 dc22 pm22 an22 cd22 ct22), sl22⟩) (c22 : PySem.W.codeIn K cd22 "_law_pick" = true) (k22 : PySem.W.keepIn K (.ref f22) = true)
    (a23 : PySem.W.nsIn K mainGlobals "_law_sign" = some (some (.ref f23))) (l23 : K.lookup f23 = some ⟨oc23, od23, .func (PySem.W.fnOf "_law_sign" "_law_sign" (defArgs s__law_sign) (defBody s__law_sign) (defScope s__law_sign) .none kV23 dc23 pm23 an23 cd23 ct23), sl23⟩) (c23 : PySem.W.codeIn K cd23 "_law_sign" = true) (k23 : PySem.W.keepIn K (.ref f23) = true)
    (a24 : PySem.W.nsIn K mainGlobals "_law_spoilt" = some (some (.ref f24))) (l24 : K.lookup f24 = some ⟨oc24, od24, .func (PySem.W.fnOf "_law_spoilt" "_law_spoilt" (defArgs s__law_spoilt) (defBody s__law_spoilt) (defScope s__law_spoilt) .none kV24 dc24 pm24 an24 cd24 ct24), sl24⟩) (c24 : PySem.W.codeIn K cd24 "_law_spoilt" = true) (k24 : PySem.W.keepIn K (.ref f24) = true)
    (a25 : PySem.W.nsIn K mainGlobals "_law_begin" = some (some (.ref f25))) (l25 : K.lookup f25 = some ⟨oc25, od25, .func (PySem.W.fnOf "_law_begin" "_law_begin" (defArgs s__law_begin) (defBody s__law_begin) (defScope s__law_begin) .none kV25 dc25 pm25 an25 cd25 ct25), sl25⟩) (c25 : PySem.W.codeIn K cd25 "_law_begin" = true) (k25 : PySem.W.keepIn K (.ref f25) = true)
    (a26 : PySem.W.nsIn K mainGlobals "_law_strong" = some (some (.ref f26))) (l26 : K.lookup f26 = some ⟨oc26, od26, .func (PySem.W.fnOf "_law_strong" "_law_strong" (defArgs s__law_strong) (defBody s__law_strong) (defScope s__law_strong) .none kV26 dc26 pm26 an26 cd26 ct26), sl26⟩) (c26 : PySem.W.codeIn K cd26 "_law_strong" = true) (k26 : PySem.W.keepIn K (.ref f26) = true)
    (a27 : PySem.W.nsIn K mainGlobals "law" = some (some (.ref f27))) (l27 : K.lookup f27 = some ⟨oc27, od27, .func (PySem.W.fnOf "law" "law" (defArgs s_law) (defBody s_law) (defScope s_law) .none kV27 dc27 pm27 an27 cd27 ct27), sl27⟩) (c27 : PySem.W.codeIn K cd27 "law" = true) (k27 : PySem.W.keepIn K (.ref f27) = true)
    (pg_Promise : PySem.W.plainGet K C_Promise Str.empty = true) (hd_Promise : PySem.W.hasDictIn K C_Promise = true) (po_Promise : PySem.W.plainOver K C_Promise = true) (sa_Promise : PySem.W.findIn K (.ref C_Promise) "__setattr__" = some (some (.builtin "object.__setattr__")))
    (mk_Promise : PySem.W.makesIn K C_Promise = true) (kc_Promise : PySem.W.keepIn K (.ref C_Promise) = true)
    (na_Promise_0 : PySem.W.findIn K (.ref C_Promise) "_look" = some none)
    (na_Promise_1 : PySem.W.findIn K (.ref C_Promise) "_reserved" = some none)
    (g_RELATIONS : PySem.W.nsIn K mainGlobals "RELATIONS" = some (some (.ref t_RELATIONS))) (gl_RELATIONS : K.lookup t_RELATIONS = some ⟨.type "tuple", td_RELATIONS, .seq ts_RELATIONS.toArray tz_RELATIONS, tl_RELATIONS⟩) (gn_RELATIONS : ts_RELATIONS.length ≤ 1000) (gr_RELATIONS : Vals [.str "same", .str "over", .str "overbox", .str "under", .str "underbox"] ts_RELATIONS)
    (g_DEEDS : PySem.W.nsIn K mainGlobals "DEEDS" = some (some (.ref t_DEEDS))) (gl_DEEDS : K.lookup t_DEEDS = some ⟨.type "tuple", td_DEEDS, .seq ts_DEEDS.toArray tz_DEEDS, tl_DEEDS⟩) (gn_DEEDS : ts_DEEDS.length ≤ 1000) (gr_DEEDS : Vals [.str "see", .str "lend", .str "reserve", .str "mark", .str "fill", .str "pack", .str "work"] ts_DEEDS)
    (g_STANDINGS : PySem.W.nsIn K mainGlobals "STANDINGS" = some (some (.ref t_STANDINGS))) (gl_STANDINGS : K.lookup t_STANDINGS = some ⟨.type "tuple", td_STANDINGS, .seq ts_STANDINGS.toArray tz_STANDINGS, tl_STANDINGS⟩) (gn_STANDINGS : ts_STANDINGS.length ≤ 1000) (gr_STANDINGS : Vals [.str "look", .str "peek", .str "reserved"] ts_STANDINGS)
    (g_MOVING : PySem.W.nsIn K mainGlobals "MOVING" = some (some (.ref t_MOVING))) (gl_MOVING : K.lookup t_MOVING = some ⟨.type "tuple", td_MOVING, .seq ts_MOVING.toArray tz_MOVING, tl_MOVING⟩) (gn_MOVING : ts_MOVING.length ≤ 1000) (gr_MOVING : Vals [.str "pack", .str "work"] ts_MOVING)
    (g_STRONG : PySem.W.nsIn K mainGlobals "STRONG" = some (some (.ref t_STRONG))) (gl_STRONG : K.lookup t_STRONG = some ⟨.type "tuple", td_STRONG, .seq ts_STRONG.toArray tz_STRONG, tl_STRONG⟩) (gn_STRONG : ts_STRONG.length ≤ 1000) (gr_STRONG : Vals [.str "mark", .str "fill", .str "pack", .str "work"] ts_STRONG)
    (zz_len : PySem.W.nsIn K mainGlobals "len" = some none)
    (zz_isinstance : PySem.W.nsIn K mainGlobals "isinstance" = some none)
    (zz_ValueError : PySem.W.nsIn K mainGlobals "ValueError" = some none)
    (zz_range : PySem.W.nsIn K mainGlobals "range" = some none)
    (zz_bool : PySem.W.nsIn K mainGlobals "bool" = some none)
    (zz_int : PySem.W.nsIn K mainGlobals "int" = some none)
    (zz_str : PySem.W.nsIn K mainGlobals "str" = some none)
    (zz_list : PySem.W.nsIn K mainGlobals "list" = some none)
    (zz_tuple : PySem.W.nsIn K mainGlobals "tuple" = some none)
    : ∃ fd : FuncData, (∀ (s : Shared) (u : Value), BindsTo s fd ⟨[u], []⟩ [("script", u)]) ∧ ∀ base : Heap, K.In base → base.Ns mainGlobals mg → FnOk l.prog w K mg base CX0 42 fa fd ["script"] (toSp K spLaw) := by
  have e := hfa.symm.trans (PySem.W.mg_of X G a27)
  cases e
  have K_Promise : Klass K mg C_Promise "Promise" ["_look", "_reserved"] := ⟨PySem.W.mg_of X G aC_Promise, ⟨pg_Promise, hd_Promise, po_Promise, sa_Promise⟩, fun i f h => match i, h with | 0, h => by cases h; exact na_Promise_0 | 1, h => by cases h; exact na_Promise_1 | n + 2, h => by simp at h⟩
  have G_RELATIONS : Glob_RELATIONS K w mg := ⟨_, PySem.W.mg_of X G g_RELATIONS, rep_tupK gl_RELATIONS gr_RELATIONS gn_RELATIONS⟩
  have G_DEEDS : Glob_DEEDS K w mg := ⟨_, PySem.W.mg_of X G g_DEEDS, rep_tupK gl_DEEDS gr_DEEDS gn_DEEDS⟩
  have G_STANDINGS : Glob_STANDINGS K w mg := ⟨_, PySem.W.mg_of X G g_STANDINGS, rep_tupK gl_STANDINGS gr_STANDINGS gn_STANDINGS⟩
  have G_MOVING : Glob_MOVING K w mg := ⟨_, PySem.W.mg_of X G g_MOVING, rep_tupK gl_MOVING gr_MOVING gn_MOVING⟩
  have G_STRONG : Glob_STRONG K w mg := ⟨_, PySem.W.mg_of X G g_STRONG, rep_tupK gl_STRONG gr_STRONG gn_STRONG⟩
  have z_len : mg "len" = none := PySem.W.mg_none_of X G zz_len
  have z_isinstance : mg "isinstance" = none := PySem.W.mg_none_of X G zz_isinstance
  have z_ValueError : mg "ValueError" = none := PySem.W.mg_none_of X G zz_ValueError
  have z_range : mg "range" = none := PySem.W.mg_none_of X G zz_range
  have z_bool : mg "bool" = none := PySem.W.mg_none_of X G zz_bool
  have z_int : mg "int" = none := PySem.W.mg_none_of X G zz_int
  have z_str : mg "str" = none := PySem.W.mg_none_of X G zz_str
  have z_list : mg "list" = none := PySem.W.mg_none_of X G zz_list
  have z_tuple : mg "tuple" = none := PySem.W.mg_none_of X G zz_tuple
  have D0 : DefAt K mg "checked_word" s_checked_word ["word"] _ _ := defAt_of X G a0 l0 c0 k0 fun _ _ _ _ _ _ us hl => match us, hl with | [_], _ => rfl
  have D1 : MethAt K C_Promise "__init__" "Promise.__init__" s_Promise___init__ ["self", "look", "reserved"] _ _ := ⟨fun_mk l1 c1 k1, ⟨a1, i1, k1⟩, (fun_mk l1 c1 k1).binds fun _ _ _ _ _ _ us hl => match us, hl with | [_, _, _], _ => rfl⟩
  have D2 : DefAt K mg "words_of_entry" s_words_of_entry ["entry"] _ _ := defAt_of X G a2 l2 c2 k2 fun _ _ _ _ _ _ us hl => match us, hl with | [_], _ => rfl
  have D3 : DefAt K mg "can_move" s_can_move ["deed", "word"] _ _ := defAt_of X G a3 l3 c3 k3 fun _ _ _ _ _ _ us hl => match us, hl with | [_, _], _ => rfl
  have D4 : PropAt K C_Promise "reserved" "Promise.reserved" s_Promise_reserved ["self"] _ _ := ⟨fun_mk l4 c4 k4, ⟨_, ⟨a4, ga4, tk4, ⟨_, i4⟩⟩⟩, (fun_mk l4 c4 k4).binds fun _ _ _ _ _ _ us hl => match us, hl with | [_], _ => rfl⟩
  have D5 : PropAt K C_Promise "look" "Promise.look" s_Promise_look ["self"] _ _ := ⟨fun_mk l5 c5 k5, ⟨_, ⟨a5, ga5, tk5, ⟨_, i5⟩⟩⟩, (fun_mk l5 c5 k5).binds fun _ _ _ _ _ _ us hl => match us, hl with | [_], _ => rfl⟩
  have D6 : DefAt K mg "can_change" s_can_change ["standing", "deed", "word"] _ _ := defAt_of X G a6 l6 c6 k6 fun _ _ _ _ _ _ us hl => match us, hl with | [_, _, _], _ => rfl
  have D7 : DefAt K mg "harmful" s_harmful ["entry", "promise"] _ _ := defAt_of X G a7 l7 c7 k7 fun _ _ _ _ _ _ us hl => match us, hl with | [_, _], _ => rfl
  have D8 : DefAt K mg "_law_told" s__law_told ["text", "promise"] _ _ := defAt_of X G a8 l8 c8 k8 fun _ _ _ _ _ _ us hl => match us, hl with | [_, _], _ => rfl
  have D9 : MethAt K C_Promise "__str__" "Promise.__str__" s_Promise___str__ ["self"] _ _ := ⟨fun_mk l9 c9 k9, ⟨a9, i9, k9⟩, (fun_mk l9 c9 k9).binds fun _ _ _ _ _ _ us hl => match us, hl with | [_], _ => rfl⟩
  have D10 : DefAt K mg "_law_standings" s__law_standings [] _ _ := defAt_of X G a10 l10 c10 k10 fun _ _ _ _ _ _ us hl => match us, hl with | [], _ => rfl
  have D11 : DefAt K mg "_law_deeds" s__law_deeds [] _ _ := defAt_of X G a11 l11 c11 k11 fun _ _ _ _ _ _ us hl => match us, hl with | [], _ => rfl
  have D12 : DefAt K mg "_law_relations" s__law_relations [] _ _ := defAt_of X G a12 l12 c12 k12 fun _ _ _ _ _ _ us hl => match us, hl with | [], _ => rfl
  have D13 : DefAt K mg "_law_entries" s__law_entries [] _ _ := defAt_of X G a13 l13 c13 k13 fun _ _ _ _ _ _ us hl => match us, hl with | [], _ => rfl
  have D14 : DefAt K mg "_law_harmful" s__law_harmful ["entry", "look", "reserved"] _ _ := defAt_of X G a14 l14 c14 k14 fun _ _ _ _ _ _ us hl => match us, hl with | [_, _, _], _ => rfl
  have D15 : DefAt K mg "_law_same_row" s__law_same_row ["actual", "expected"] _ _ := defAt_of X G a15 l15 c15 k15 fun _ _ _ _ _ _ us hl => match us, hl with | [_, _], _ => rfl
  have D16 : DefAt K mg "_law_same" s__law_same ["actual", "expected"] _ _ := defAt_of X G a16 l16 c16 k16 fun _ _ _ _ _ _ us hl => match us, hl with | [_, _], _ => rfl
  have D17 : DefAt K mg "_law_judged" s__law_judged ["text", "promise", "look", "reserved"] _ _ := defAt_of X G a17 l17 c17 k17 fun _ _ _ _ _ _ us hl => match us, hl with | [_, _, _, _], _ => rfl
  have D18 : PSetAt K C_Promise "look" "Promise.look" s_Promise_look_setter ["self", "word"] _ _ := ⟨fun_mk l18 c18 k18, ⟨⟨_, a18, ty18, _, _, i18⟩⟩, (fun_mk l18 c18 k18).binds fun _ _ _ _ _ _ us hl => match us, hl with | [_, _], _ => rfl⟩
  have D19 : PSetAt K C_Promise "reserved" "Promise.reserved" s_Promise_reserved_setter ["self", "word"] _ _ := ⟨fun_mk l19 c19 k19, ⟨⟨_, a19, ty19, _, _, i19⟩⟩, (fun_mk l19 c19 k19).binds fun _ _ _ _ _ _ us hl => match us, hl with | [_, _], _ => rfl⟩
  have D20 : MethAt K C_Promise "change" "Promise.change" s_Promise_change ["self", "part", "word"] _ _ := ⟨fun_mk l20 c20 k20, ⟨a20, i20, k20⟩, (fun_mk l20 c20 k20).binds fun _ _ _ _ _ _ us hl => match us, hl with | [_, _, _], _ => rfl⟩
  have D21 : DefAt K mg "_law_draw" s__law_draw ["source", "size"] _ _ := defAt_of X G a21 l21 c21 k21 fun _ _ _ _ _ _ us hl => match us, hl with | [_, _], _ => rfl
  have D22 : DefAt K mg "_law_pick" s__law_pick ["source", "row"] _ _ := defAt_of X G a22 l22 c22 k22 fun _ _ _ _ _ _ us hl => match us, hl with | [_, _], _ => rfl
  have D23 : DefAt K mg "_law_sign" s__law_sign ["source"] _ _ := defAt_of X G a23 l23 c23 k23 fun _ _ _ _ _ _ us hl => match us, hl with | [_], _ => rfl
  have D24 : DefAt K mg "_law_spoilt" s__law_spoilt ["source", "text"] _ _ := defAt_of X G a24 l24 c24 k24 fun _ _ _ _ _ _ us hl => match us, hl with | [_, _], _ => rfl
  have D25 : DefAt K mg "_law_begin" s__law_begin ["script"] _ _ := defAt_of X G a25 l25 c25 k25 fun _ _ _ _ _ _ us hl => match us, hl with | [_], _ => rfl
  have D26 : DefAt K mg "_law_strong" s__law_strong [] _ _ := defAt_of X G a26 l26 c26 k26 fun _ _ _ _ _ _ us hl => match us, hl with | [], _ => rfl
  have D27 : DefAt K mg "law" s_law ["script"] _ _ := defAt_of X G a27 l27 c27 k27 fun _ _ _ _ _ _ us hl => match us, hl with | [_], _ => rfl
  refine ⟨PySem.W.fnOf "law" "law" (defArgs s_law) (defBody s_law) (defScope s_law) .none kV27 dc27 pm27 an27 cd27 ct27, fun s v => .of_eq rfl, fun base _ _ => ?_⟩
  have X_InvalidEntry := exc_of hg_InvalidEntry hk_InvalidEntry eb_InvalidEntry hd_InvalidEntry ha_InvalidEntry hn_ ht_ hm_InvalidEntry
  have E_InvalidEntry : ErrC l.prog w K mg base C_InvalidEntry "InvalidEntry" "text" := ⟨PySem.W.mg_of X G aC_InvalidEntry, ⟨⟨_, _, _, _, _, _, _, _, _, _, _, _, _, _, _, lc_InvalidEntry, rv_InvalidEntry⟩, sa_InvalidEntry, eb_InvalidEntry, tc_InvalidEntry, kc_InvalidEntry⟩,
    ⟨f_InvalidEntry, _, ii_InvalidEntry, tf_InvalidEntry', binds_of (f := f_InvalidEntry) (fun us hl => match us, hl with | [_, _], _ => rfl),
      err1_ok (supfn_mk lc_InvalidEntry rv_InvalidEntry sa_InvalidEntry eb_InvalidEntry tc_InvalidEntry kc_InvalidEntry lf_InvalidEntry ci_InvalidEntry lk_InvalidEntry v2_InvalidEntry fe_InvalidEntry lcc_InvalidEntry tp_ (PySem.W.mg_none_of X G zz_super) oq_ si_InvalidEntry ve_InvalidEntry) sc_InvalidEntry___init__ rfl rfl rfl su_InvalidEntry___init__ (fun L => ⟨_, rfl⟩) (fun L => rfl) (fun L => rfl) (fun L => rfl) no_InvalidEntry (by decide) (by decide)⟩, X_InvalidEntry.1, no_InvalidEntry, X_InvalidEntry.2⟩
  have n_LentError := PySem.W.mg_of X G aC_LentError
  have n_InvalidName := PySem.W.mg_of X G aC_InvalidName
  have n_InvalidProgram := PySem.W.mg_of X G aC_InvalidProgram
  have n_InvalidPromise := PySem.W.mg_of X G aC_InvalidPromise
  have n_InvalidRule := PySem.W.mg_of X G aC_InvalidRule
  have n_NotBeneath := PySem.W.mg_of X G aC_NotBeneath
  have n_InvalidPlace := PySem.W.mg_of X G aC_InvalidPlace
  have n_NotParted := PySem.W.mg_of X G aC_NotParted
  have n_NothingLeft := PySem.W.mg_of X G aC_NothingLeft
  have n_TooMany := PySem.W.mg_of X G aC_TooMany
  have n_Unsound := PySem.W.mg_of X G aC_Unsound
  have n_NotMendable := PySem.W.mg_of X G aC_NotMendable
  have n_NotSharing := PySem.W.mg_of X G aC_NotSharing
  have n_Stale := PySem.W.mg_of X G aC_Stale
  have n_OverPower := PySem.W.mg_of X G aC_OverPower
  have n_Rejected := PySem.W.mg_of X G aC_Rejected
  have n_Occupied := PySem.W.mg_of X G aC_Occupied
  have n_InvalidEntry := PySem.W.mg_of X G aC_InvalidEntry
  have R0 := ok_checked_word (P := l.prog) (w := w) (mg := mg) (base := base) D0 
  have R1 := ok_Promise___init__ (P := l.prog) (w := w) (mg := mg) (base := base) D1 (D0.called R0) K_Promise
  have R2 := ok_words_of_entry (P := l.prog) (w := w) (mg := mg) (base := base) D2 E_InvalidEntry z_len G_RELATIONS G_DEEDS G_STANDINGS
  have R3 := ok_can_move (P := l.prog) (w := w) (mg := mg) (base := base) D3 G_MOVING
  have R4 := ok_Promise_reserved (P := l.prog) (w := w) (mg := mg) (base := base) D4 K_Promise
  have R5 := ok_Promise_look (P := l.prog) (w := w) (mg := mg) (base := base) D5 K_Promise
  have R6 := ok_can_change (P := l.prog) (w := w) (mg := mg) (base := base) D6 
  have R7 := ok_harmful (P := l.prog) (w := w) (mg := mg) (base := base) D7 (D2.calledX R2) (D3.called R3) (D4.called R4) (D5.called R5) (D6.called R6) K_Promise G_STRONG
  have R8 := ok__law_told (P := l.prog) (w := w) (mg := mg) (base := base) D8 (D7.calledX R7) E_InvalidEntry n_LentError n_InvalidName n_InvalidProgram n_InvalidPromise n_InvalidRule n_NotBeneath n_InvalidPlace n_NotParted n_NothingLeft n_TooMany n_Unsound n_NotMendable n_NotSharing n_Stale n_OverPower n_Rejected n_Occupied n_InvalidEntry xm_InvalidEntry_LentError ki_InvalidEntry_InvalidName ki_InvalidEntry_InvalidProgram ki_InvalidEntry_InvalidPromise ki_InvalidEntry_InvalidRule ki_InvalidEntry_NotBeneath ki_InvalidEntry_InvalidPlace ki_InvalidEntry_NotParted ki_InvalidEntry_NothingLeft ki_InvalidEntry_TooMany ki_InvalidEntry_Unsound ki_InvalidEntry_NotMendable ki_InvalidEntry_NotSharing ki_InvalidEntry_Stale ki_InvalidEntry_OverPower ki_InvalidEntry_Rejected ki_InvalidEntry_Occupied ki_InvalidEntry_ValueError ki_InvalidEntry_InvalidEntry z_isinstance z_ValueError
  have R9 := ok_Promise___str__ (P := l.prog) (w := w) (mg := mg) (base := base) D9 K_Promise
  have R10 := ok__law_standings (P := l.prog) (w := w) (mg := mg) (base := base) D10 
  have R11 := ok__law_deeds (P := l.prog) (w := w) (mg := mg) (base := base) D11 
  have R12 := ok__law_relations (P := l.prog) (w := w) (mg := mg) (base := base) D12 
  have R13 := ok__law_entries (P := l.prog) (w := w) (mg := mg) (base := base) D13 (D10.called R10) (D11.called R11) (D12.called R12)
  have R14 := ok__law_harmful (P := l.prog) (w := w) (mg := mg) (base := base) D14 
  have R16 := ok__law_same (P := l.prog) (w := w) (mg := mg) (base := base) D16 D15 z_isinstance z_bool z_int z_str z_list z_tuple z_len z_range
  have R17 := ok__law_judged (P := l.prog) (w := w) (mg := mg) (base := base) D17 (D13.called R13) (D14.called R14) (D16.called R16) (D9.called R9) (D8.called R8) z_str
  have R18 := ok_Promise_look_setter (P := l.prog) (w := w) (mg := mg) (base := base) D18 (D0.called R0) K_Promise
  have R19 := ok_Promise_reserved_setter (P := l.prog) (w := w) (mg := mg) (base := base) D19 (D0.called R0) K_Promise
  have R20 := ok_Promise_change (P := l.prog) (w := w) (mg := mg) (base := base) D20 (D18.called R18) (D19.called R19) K_Promise
  have R21 := ok__law_draw (P := l.prog) (w := w) (mg := mg) (base := base) D21 z_len z_int
  have R22 := ok__law_pick (P := l.prog) (w := w) (mg := mg) (base := base) D22 (D21.called R21) z_len
  have R23 := ok__law_sign (P := l.prog) (w := w) (mg := mg) (base := base) D23 (D21.called R21) (D22.called R22)
  have R24 := ok__law_spoilt (P := l.prog) (w := w) (mg := mg) (base := base) D24 (D21.called R21) (D22.called R22) (D23.called R23) z_len z_range
  have R25 := ok__law_begin (P := l.prog) (w := w) (mg := mg) (base := base) D25 z_list
  have R26 := ok__law_strong (P := l.prog) (w := w) (mg := mg) (base := base) D26 
  have R27 := ok_law (P := l.prog) (w := w) (mg := mg) (base := base) D27 (D25.called R25) (D13.called R13) (D21.called R21) (D26.called R26) (D22.called R22) (D24.called R24) ⟨_, _, ⟨mk_Promise, a1, i1, kc_Promise⟩, D1.b, R1⟩ (D17.called R17) (D20.called R20) (D12.called R12) K_Promise
  exact R27
end K19
open PySem PySem.W PyProof.Rows
set_option maxHeartbeats 0 in
theorem PySem.Challenge.cw_fieldsandcalls_k19_harmful_entries_holds : PySem.Challenge.rw_fieldsandcalls_k19_harmful_entries.Holds := by
  w_on; o_law; k_head; (case hw => w_witness2)
  k_fill
  refine DL.walk (l := PySem.Challenge.rw_fieldsandcalls_k19_harmful_entries) (k := 42) ⟨rfl, by decide, by decide⟩ rfl rfl (fun w h Y => PySem.W.kIn_of Y) ?F
  case F =>
    intro w mg fa h KX G hmg
    refine' K19.all_mk KX G hmg ?aC_InvalidEntry ?aC_LentError ?aC_InvalidName ?aC_InvalidProgram ?aC_InvalidPromise ?aC_InvalidRule ?aC_NotBeneath ?aC_InvalidPlace ?aC_NotParted ?aC_NothingLeft ?aC_TooMany ?aC_Unsound ?aC_NotMendable ?aC_NotSharing ?aC_Stale ?aC_OverPower ?aC_Rejected ?aC_Occupied ?tp_ ?zz_super ?oq_ ?hn_ ?ht_ ?lc_InvalidEntry ?rv_InvalidEntry ?sa_InvalidEntry ?eb_InvalidEntry ?tc_InvalidEntry ?kc_InvalidEntry ?ii_InvalidEntry ?tf_InvalidEntry' ?lf_InvalidEntry ?ci_InvalidEntry ?lk_InvalidEntry ?v2_InvalidEntry ?fe_InvalidEntry ?lcc_InvalidEntry ?si_InvalidEntry ?ve_InvalidEntry ?no_InvalidEntry ?hg_InvalidEntry ?hk_InvalidEntry ?hd_InvalidEntry ?ha_InvalidEntry ?hm_InvalidEntry ?xm_InvalidEntry_LentError ?ki_InvalidEntry_InvalidName ?ki_InvalidEntry_InvalidProgram ?ki_InvalidEntry_InvalidPromise ?ki_InvalidEntry_InvalidRule ?ki_InvalidEntry_NotBeneath ?ki_InvalidEntry_InvalidPlace ?ki_InvalidEntry_NotParted ?ki_InvalidEntry_NothingLeft ?ki_InvalidEntry_TooMany ?ki_InvalidEntry_Unsound ?ki_InvalidEntry_NotMendable ?ki_InvalidEntry_NotSharing ?ki_InvalidEntry_Stale ?ki_InvalidEntry_OverPower ?ki_InvalidEntry_Rejected ?ki_InvalidEntry_Occupied ?ki_InvalidEntry_ValueError ?ki_InvalidEntry_InvalidEntry ?aC_Promise ?a0 ?l0 ?c0 ?k0 ?a1 ?i1 ?l1 ?c1 ?k1 ?a2 ?l2 ?c2 ?k2 ?a3 ?l3 ?c3 ?k3 ?a4 ?i4 ?ga4 ?tk4 ?l4 ?c4 ?k4 ?a5 ?i5 ?ga5 ?tk5 ?l5 ?c5 ?k5 ?a6 ?l6 ?c6 ?k6 ?a7 ?l7 ?c7 ?k7 ?a8 ?l8 ?c8 ?k8 ?a9 ?i9 ?l9 ?c9 ?k9 ?a10 ?l10 ?c10 ?k10 ?a11 ?l11 ?c11 ?k11 ?a12 ?l12 ?c12 ?k12 ?a13 ?l13 ?c13 ?k13 ?a14 ?l14 ?c14 ?k14 ?a15 ?l15 ?c15 ?k15 ?a16 ?l16 ?c16 ?k16 ?a17 ?l17 ?c17 ?k17 ?a18 ?ty18 ?i18 ?l18 ?c18 ?k18 ?a19 ?ty19 ?i19 ?l19 ?c19 ?k19 ?a20 ?i20 ?l20 ?c20 ?k20 ?a21 ?l21 ?c21 ?k21 ?a22 ?l22 ?c22 ?k22 ?a23 ?l23 ?c23 ?k23 ?a24 ?l24 ?c24 ?k24 ?a25 ?l25 ?c25 ?k25 ?a26 ?l26 ?c26 ?k26 ?a27 ?l27 ?c27 ?k27 ?pg_Promise ?hd_Promise ?po_Promise ?sa_Promise ?mk_Promise ?kc_Promise ?na_Promise_0 ?na_Promise_1 ?g_RELATIONS ?gl_RELATIONS ?gn_RELATIONS ?gr_RELATIONS ?g_DEEDS ?gl_DEEDS ?gn_DEEDS ?gr_DEEDS ?g_STANDINGS ?gl_STANDINGS ?gn_STANDINGS ?gr_STANDINGS ?g_MOVING ?gl_MOVING ?gn_MOVING ?gr_MOVING ?g_STRONG ?gl_STRONG ?gn_STRONG ?gr_STRONG ?zz_len ?zz_isinstance ?zz_ValueError ?zz_range ?zz_bool ?zz_int ?zz_str ?zz_list ?zz_tuple
    (case aC_InvalidEntry => k_is); (case aC_LentError => k_is); (case aC_InvalidName => k_is); (case aC_InvalidProgram => k_is); (case aC_InvalidPromise => k_is); (case aC_InvalidRule => k_is); (case aC_NotBeneath => k_is); (case aC_InvalidPlace => k_is); (case aC_NotParted => k_is); (case aC_NothingLeft => k_is); (case aC_TooMany => k_is); (case aC_Unsound => k_is); (case aC_NotMendable => k_is); (case aC_NotSharing => k_is); (case aC_Stale => k_is); (case aC_OverPower => k_is); (case aC_Rejected => k_is); (case aC_Occupied => k_is); (case tp_ => rfl); (case zz_super => k_is); (case oq_ => k_is); (case hn_ => k_is); (case ht_ => k_is); (case lc_InvalidEntry => k_is); (case rv_InvalidEntry => rfl); (case sa_InvalidEntry => k_is); (case eb_InvalidEntry => k_is); (case tc_InvalidEntry => k_is); (case kc_InvalidEntry => k_is); (case ii_InvalidEntry => k_is); (case tf_InvalidEntry' => k_is); (case lf_InvalidEntry => k_is); (case ci_InvalidEntry => k_is); (case lk_InvalidEntry => k_is); (case v2_InvalidEntry => rfl); (case fe_InvalidEntry => rfl); (case lcc_InvalidEntry => k_is); (case si_InvalidEntry => ks_is); (case ve_InvalidEntry => k_is); (case no_InvalidEntry => k_is); (case hg_InvalidEntry => k_is); (case hk_InvalidEntry => k_is); (case hd_InvalidEntry => k_is); (case ha_InvalidEntry => k_is); (case hm_InvalidEntry => k_is); (case xm_InvalidEntry_LentError => kts_exm); (case ki_InvalidEntry_InvalidName => kit_is); (case ki_InvalidEntry_InvalidProgram => kit_is); (case ki_InvalidEntry_InvalidPromise => kit_is); (case ki_InvalidEntry_InvalidRule => kit_is); (case ki_InvalidEntry_NotBeneath => kit_is); (case ki_InvalidEntry_InvalidPlace => kit_is); (case ki_InvalidEntry_NotParted => kit_is); (case ki_InvalidEntry_NothingLeft => kit_is); (case ki_InvalidEntry_TooMany => kit_is); (case ki_InvalidEntry_Unsound => kit_is); (case ki_InvalidEntry_NotMendable => kit_is); (case ki_InvalidEntry_NotSharing => kit_is); (case ki_InvalidEntry_Stale => kit_is); (case ki_InvalidEntry_OverPower => kit_is); (case ki_InvalidEntry_Rejected => kit_is); (case ki_InvalidEntry_Occupied => kit_is); (case ki_InvalidEntry_ValueError => kit_is); (case ki_InvalidEntry_InvalidEntry => kit_is); (case aC_Promise => k_is); (case a0 => k_is); (case l0 => k_is); (case c0 => k_is); (case k0 => k_is); (case a1 => k_is); (case i1 => k_is); (case l1 => k_is); (case c1 => k_is); (case k1 => k_is); (case a2 => k_is); (case l2 => k_is); (case c2 => k_is); (case k2 => k_is); (case a3 => k_is); (case l3 => k_is); (case c3 => k_is); (case k3 => k_is); (case a4 => k_is); (case i4 => k_is); (case ga4 => k_is); (case tk4 => k_is); (case l4 => k_is); (case c4 => k_is); (case k4 => k_is); (case a5 => k_is); (case i5 => k_is); (case ga5 => k_is); (case tk5 => k_is); (case l5 => k_is); (case c5 => k_is); (case k5 => k_is); (case a6 => k_is); (case l6 => k_is); (case c6 => k_is); (case k6 => k_is); (case a7 => k_is); (case l7 => k_is); (case c7 => k_is); (case k7 => k_is); (case a8 => k_is); (case l8 => k_is); (case c8 => k_is); (case k8 => k_is); (case a9 => k_is); (case i9 => k_is); (case l9 => k_is); (case c9 => k_is); (case k9 => k_is); (case a10 => k_is); (case l10 => k_is); (case c10 => k_is); (case k10 => k_is); (case a11 => k_is); (case l11 => k_is); (case c11 => k_is); (case k11 => k_is); (case a12 => k_is); (case l12 => k_is); (case c12 => k_is); (case k12 => k_is); (case a13 => k_is); (case l13 => k_is); (case c13 => k_is); (case k13 => k_is); (case a14 => k_is); (case l14 => k_is); (case c14 => k_is); (case k14 => k_is); (case a15 => k_is); (case l15 => k_is); (case c15 => k_is); (case k15 => k_is); (case a16 => k_is); (case l16 => k_is); (case c16 => k_is); (case k16 => k_is); (case a17 => k_is); (case l17 => k_is); (case c17 => k_is); (case k17 => k_is); (case a18 => k_is); (case ty18 => k_is); (case i18 => k_is); (case l18 => k_is); (case c18 => k_is); (case k18 => k_is); (case a19 => k_is); (case ty19 => k_is); (case i19 => k_is); (case l19 => k_is); (case c19 => k_is); (case k19 => k_is); (case a20 => k_is); (case i20 => k_is); (case l20 => k_is); (case c20 => k_is); (case k20 => k_is); (case a21 => k_is); (case l21 => k_is); (case c21 => k_is); (case k21 => k_is); (case a22 => k_is); (case l22 => k_is); (case c22 => k_is); (case k22 => k_is); (case a23 => k_is); (case l23 => k_is); (case c23 => k_is); (case k23 => k_is); (case a24 => k_is); (case l24 => k_is); (case c24 => k_is); (case k24 => k_is); (case a25 => k_is); (case l25 => k_is); (case c25 => k_is); (case k25 => k_is); (case a26 => k_is); (case l26 => k_is); (case c26 => k_is); (case k26 => k_is); (case a27 => k_is); (case l27 => k_is); (case c27 => k_is); (case k27 => k_is); (case pg_Promise => k_is); (case hd_Promise => k_is); (case po_Promise => k_is); (case sa_Promise => k_is); (case mk_Promise => k_is); (case kc_Promise => k_is); (case na_Promise_0 => k_is); (case na_Promise_1 => k_is); (case g_RELATIONS => k_is); (case gl_RELATIONS => k_is); (case gn_RELATIONS => decide); (case gr_RELATIONS => (repeat (first | exact .nil | refine .cons ⟨_, rfl⟩ ?_))); (case g_DEEDS => k_is); (case gl_DEEDS => k_is); (case gn_DEEDS => decide); (case gr_DEEDS => (repeat (first | exact .nil | refine .cons ⟨_, rfl⟩ ?_))); (case g_STANDINGS => k_is); (case gl_STANDINGS => k_is); (case gn_STANDINGS => decide); (case gr_STANDINGS => (repeat (first | exact .nil | refine .cons ⟨_, rfl⟩ ?_))); (case g_MOVING => k_is); (case gl_MOVING => k_is); (case gn_MOVING => decide); (case gr_MOVING => (repeat (first | exact .nil | refine .cons ⟨_, rfl⟩ ?_))); (case g_STRONG => k_is); (case gl_STRONG => k_is); (case gn_STRONG => decide); (case gr_STRONG => (repeat (first | exact .nil | refine .cons ⟨_, rfl⟩ ?_))); (case zz_len => k_is); (case zz_isinstance => k_is); (case zz_ValueError => k_is); (case zz_range => k_is); (case zz_bool => k_is); (case zz_int => k_is); (case zz_str => k_is); (case zz_list => k_is); (case zz_tuple => k_is)
