import PyProof.Rows.All
import Wide.All
import OpenK.AllK
import Wide.FinOn
import HandS.ForMost
import HandS.Flow
import HandS.FStr
import HandS.IsInst
import HandS.StrMore
import HandS.More
import HandS.Property
import HandS.ExcInit
import HandS.ExcOwn
import HandS.Nested
import KE.KSuper
import KE.KExcSuper
import HandS.ExcCtx
import HandS.ExcField
import HandS.ExcIs
import HandS.ExcInitHot
import HandS.WordsExc
import KE.KExcIs
import HandS.HotCalls
import KE.RegKSuper
import KE.RegKIsAll
import KE.RegKTryMore
import HandS.DictComp
import HandS.OwnIter
import HandS.IterVal
import KE.KCallOwn
import KE.KOpsOwn
import KE.KOwnIter
import HandS.SlotsOwn
import HandS.Star
import HandS.ClsMeth
import HandS.TryOnly
import HandS.IterNext
import HandS.Zip
import HandS.SetKeys
import HandS.Text
import PySem.Challenge.RW_fieldsandcalls_k03_whole_chances_of_two
set_option Elab.async false
set_option linter.all false
set_option maxRecDepth 100000
/-! DL0: the data layer: data D, how a value shows it (Rep), the store of cells (Mu), the state (Sat), the judgements over data. -/
namespace DL
open PySem PySem.Spec PyProof.Rows L2
abbrev St := L2.St

inductive D where
  | non | bl (b : Bool) | int (i : Int) | str (s : Str)
  | lst (xs : List D) | tup (xs : List D)
  | dic (kvs : List (Key × D))
  | obj (C : Addr) (fs : List (Str × D))
  | src | room | ptr (a : Addr)
  | scr (ns : List Int)

/-- ghost: the frozen heap, the source of draws, the counters -/
structure Gh where
  fr : Hp
  src : List Addr
  rooms : List Addr

def Ext (H H' : Hp) : Prop := ∀ a o, H a = some o → H' a = some o
theorem Ext.refl (H : Hp) : Ext H H := fun _ _ h => h
theorem Ext.trans {H H1 H2 : Hp} (a : Ext H H1) (b : Ext H1 H2) : Ext H H2 := fun x o h => b x o (a x o h)
theorem Ext.new {H : Hp} {p : Addr} {o : HO} (h : H p = none) : Ext H (upd H p o) := fun a u e => by
  rw [upd_ne (ne_of_none e h)]; exact e
theorem Ext.mut {H H' : Hp} {p : Addr} {o : HO} (e : Ext H H') (h : H p = none) : Ext H (upd H' p o) := fun a u ha => by
  rw [upd_ne (ne_of_none ha h)]; exact e a u ha
theorem Ext.both {H H' : Hp} {p : Addr} {o : HO} (e : Ext H H') : Ext (upd H p o) (upd H' p o) := fun a u ha => by
  unfold upd at *
  split
  · next z => rw [if_pos z] at ha; exact ha
  · next z => rw [if_neg z] at ha; exact e a u ha
theorem Ext.seqT {K : PySem.W.Frag} {H H' : Hp} {a : Addr} {xs : List V} (e : Ext H H') (h : SqT K H a xs) : SqT K H' a xs := by
  rcases h with (h | ⟨o, h⟩) | h
  · exact .inl (.inl (e _ _ h))
  · exact .inl (.inr ⟨o, e _ _ h⟩)
  · exact .inr h
theorem Ext.rd {H H' : Hp} {a : Addr} {u : HO} (e : Ext H H') (h : Rd H a u) : Rd H' a u := by
  rcases h with h | ⟨o, h⟩
  · exact .inl (e _ _ h)
  · exact .inr ⟨o, e _ _ h⟩
theorem Ext.seqL {K : PySem.W.Frag} {H H' : Hp} {a : Addr} {xs : List V} (e : Ext H H') (h : SqL K H a xs) : SqL K H' a xs := by
  rcases h with h | h
  · exact .inl (e.rd h)
  · exact .inr h
theorem Ext.free {H H' : Hp} (e : Ext H H') {l : Addr} (h : H' l = none) : H l = none := by
  cases q : H l with
  | none => rfl
  | some o => rw [e l o q] at h; cases h

structure Gle (G G' : Gh) : Prop where
  fr : Ext G.fr G'.fr
  src : ∀ a ∈ G.src, a ∈ G'.src
  rooms : ∀ a ∈ G.rooms, a ∈ G'.rooms
theorem Gle.refl (G : Gh) : Gle G G := ⟨Ext.refl _, fun _ h => h, fun _ h => h⟩
theorem Gle.trans {A B C : Gh} (x : Gle A B) (y : Gle B C) : Gle A C := ⟨x.fr.trans y.fr, fun a h => y.src a (x.src a h), fun a h => y.rooms a (x.rooms a h)⟩

/-- v shows d, the frozen heap at G -/
inductive Rep (K : PySem.W.Frag) (G : Gh) : V → D → Prop
  | non : Rep K G .non .non
  | bl (b : Bool) : Rep K G (.bl b) (.bl b)
  | int (i : Int) : Rep K G (.int i) (.int i)
  | str (s : Str) : Rep K G (.str s) (.str s)
  | lst {a : Addr} {vs : List V} {xs : List D} (h : G.fr a = some (.lst vs)) (l : vs.length = xs.length) (r : ∀ (i : Nat) v d, vs[i]? = some v → xs[i]? = some d → Rep K G v d) : Rep K G (.ref a) (.lst xs)
  | tup {a : Addr} {vs : List V} {xs : List D} (h : SqT K G.fr a vs) (l : vs.length = xs.length) (r : ∀ (i : Nat) v d, vs[i]? = some v → xs[i]? = some d → Rep K G v d) : Rep K G (.ref a) (.tup xs)
  | dic {a : Addr} {kvs : List (Key × V)} {xs : List (Key × D)} (h : G.fr a = some (.dK kvs)) (l : kvs.map (·.1) = xs.map (·.1)) (r : ∀ (i : Nat) v d, (kvs.map (·.2))[i]? = some v → (xs.map (·.2))[i]? = some d → Rep K G v d) : Rep K G (.ref a) (.dic xs)
  | obj {a C dx : Addr} {fvs : List (Str × V)} {fs : List (Str × D)} (h : G.fr a = some (.ins C dx fvs)) (l : fvs.map (·.1) = fs.map (·.1)) (r : ∀ (i : Nat) v d, (fvs.map (·.2))[i]? = some v → (fs.map (·.2))[i]? = some d → Rep K G v d) : Rep K G (.ref a) (.obj C fs)
  | src {a : Addr} (h : a ∈ G.src) : Rep K G (.ref a) .src
  | room {a : Addr} (h : a ∈ G.rooms) : Rep K G (.ref a) .room
  | ptr (a : Addr) : Rep K G (.ref a) (.ptr a)
  | scr {a : Addr} {ns : List Int} (h : SqL K G.fr a (ns.map V.int)) : Rep K G (.ref a) (.scr ns)
theorem Rep.mono {K : PySem.W.Frag} {G G' : Gh} {v : V} {d : D} (h : Rep K G v d) (g : Gle G G') : Rep K G' v d := by
  induction h with
  | non => exact .non
  | bl b => exact .bl b
  | int i => exact .int i
  | str s => exact .str s
  | lst h l _ ih => exact .lst (g.fr _ _ h) l ih
  | tup h l _ ih => exact .tup (g.fr.seqT h) l ih
  | dic h l _ ih => exact .dic (g.fr _ _ h) l ih
  | obj h l _ ih => exact .obj (g.fr _ _ h) l ih
  | src h => exact .src (g.src _ h)
  | room h => exact .room (g.rooms _ h)
  | ptr a => exact .ptr a
  | scr h => exact .scr (g.fr.seqL h)

def Reps (K : PySem.W.Frag) (G : Gh) (vs : List V) (xs : List D) : Prop := vs.length = xs.length ∧ ∀ (i : Nat) v d, vs[i]? = some v → xs[i]? = some d → Rep K G v d
section
variable {K : PySem.W.Frag} {G G' : Gh} {vs ws : List V} {xs ys : List D} {v : V} {d : D}
theorem Reps.mono (h : Reps K G vs xs) (g : Gle G G') : Reps K G' vs xs := ⟨h.1, fun i v d a b => (h.2 i v d a b).mono g⟩
theorem Reps.nil : Reps K G [] [] := ⟨rfl, fun i v d a _ => by simp at a⟩
theorem Reps.cons (h : Rep K G v d) (t : Reps K G vs xs) : Reps K G (v :: vs) (d :: xs) := ⟨by simp [t.1], fun i v' d' a b => by
  cases i with
  | zero => simp at a b; subst a; subst b; exact h
  | succ i => exact t.2 i v' d' (by simpa using a) (by simpa using b)⟩
theorem Reps.cons_inv (h : Reps K G vs (d :: xs)) : ∃ v r, vs = v :: r ∧ Rep K G v d ∧ Reps K G r xs := by
  cases vs with
  | nil => have := h.1; simp at this
  | cons v r => exact ⟨v, r, rfl, h.2 0 v d rfl rfl, by have := h.1; simpa using this, fun i v' d' a b => h.2 (i + 1) v' d' (by simpa using a) (by simpa using b)⟩
theorem Reps.cons_inv' (h : Reps K G (v :: vs) xs) : ∃ d r, xs = d :: r ∧ Rep K G v d ∧ Reps K G vs r := by
  cases xs with
  | nil => have := h.1; simp at this
  | cons d r => exact ⟨d, r, rfl, h.2 0 v d rfl rfl, by have := h.1; simpa using this, fun i v' d' a b => h.2 (i + 1) v' d' (by simpa using a) (by simpa using b)⟩
theorem Reps.nil_inv (h : Reps K G vs []) : vs = [] := by
  have := h.1
  exact List.eq_nil_of_length_eq_zero (by simpa using this)
theorem Reps.nil_inv' (h : Reps K G [] xs) : xs = [] := by
  have := h.1
  exact List.eq_nil_of_length_eq_zero (by simpa using this.symm)
theorem Reps.append (h : Reps K G vs xs) (t : Reps K G ws ys) : Reps K G (vs ++ ws) (xs ++ ys) := by
  induction vs generalizing xs with
  | nil => rw [h.nil_inv']; exact t
  | cons v r ih => obtain ⟨d, x, rfl, a, b⟩ := h.cons_inv'; exact Reps.cons a (ih b)
theorem Reps.one (h : Rep K G v d) : Reps K G [v] [d] := Reps.cons h Reps.nil
theorem Reps.set (h : Reps K G vs xs) (r : Rep K G v d) (i : Nat) : Reps K G (vs.set i v) (xs.set i d) := by
  refine ⟨by simp [h.1], fun j v' d' a b => ?_⟩
  rw [List.getElem?_set] at a b
  split at a
  · next e =>
    rw [if_pos e] at b
    split at a
    · next l => rw [if_pos (by rw [← h.1]; exact l)] at b; cases a; cases b; exact r
    · cases a
  · next e => rw [if_neg e] at b; exact h.2 j v' d' a b
theorem Reps.take (h : Reps K G vs xs) (n : Nat) : Reps K G (vs.take n) (xs.take n) := by
  refine ⟨by simp [h.1], fun j v' d' a b => ?_⟩
  rw [List.getElem?_take] at a b
  split at a
  · next e => rw [if_pos e] at b; exact h.2 j v' d' a b
  · cases a
theorem Reps.drop (h : Reps K G vs xs) (n : Nat) : Reps K G (vs.drop n) (xs.drop n) := by
  refine ⟨by simp [h.1], fun j v' d' a b => ?_⟩
  rw [List.getElem?_drop] at a b
  exact h.2 _ v' d' a b
theorem Reps.get (h : Reps K G vs xs) {i : Nat} (e : xs[i]? = some d) : ∃ v, vs[i]? = some v ∧ Rep K G v d := by
  have l := (List.getElem?_eq_some_iff.mp e).1
  rw [← h.1] at l
  exact ⟨vs[i], List.getElem?_eq_getElem l, h.2 i _ d (List.getElem?_eq_getElem l) e⟩
theorem Reps.get' (h : Reps K G vs xs) {i : Nat} (e : vs[i]? = some v) : ∃ d, xs[i]? = some d ∧ Rep K G v d := by
  have l := (List.getElem?_eq_some_iff.mp e).1
  rw [h.1] at l
  exact ⟨xs[i], List.getElem?_eq_getElem l, h.2 i v _ e (List.getElem?_eq_getElem l)⟩
theorem Reps.reverse (h : Reps K G vs xs) : Reps K G vs.reverse xs.reverse := by
  induction vs generalizing xs with
  | nil => rw [h.nil_inv']; exact Reps.nil
  | cons v r ih => obtain ⟨d, x, rfl, a, b⟩ := h.cons_inv'; rw [List.reverse_cons, List.reverse_cons]; exact (ih b).append (Reps.one a)
theorem Reps.eraseIdx (h : Reps K G vs xs) (i : Nat) : Reps K G (vs.eraseIdx i) (xs.eraseIdx i) := by
  rw [List.eraseIdx_eq_take_drop_succ, List.eraseIdx_eq_take_drop_succ]
  exact (h.take i).append (h.drop (i + 1))
theorem Reps.dropLast (h : Reps K G vs xs) : Reps K G vs.dropLast xs.dropLast := by
  rw [List.dropLast_eq_take, List.dropLast_eq_take, h.1]
  exact h.take _
end

/-! ### cells -/
inductive Cell where
  | lst (xs : List D) | dic (kvs : List (Key × D)) | dicL (o : Obj) (vs : List (Key × V)) (kvs : List (Key × D)) | ins (C : Addr) (fs : List (Str × D))
abbrev Mu := Addr → Option Cell
abbrev DR := List (Option D)
def mup (μ : Mu) (a : Addr) (c : Cell) : Mu := fun b => if b = a then some c else μ b
def mdel (μ : Mu) (a : Addr) : Mu := fun b => if b = a then none else μ b
@[simp] theorem mup_same {μ : Mu} {a : Addr} {c : Cell} : mup μ a c a = some c := by simp [mup]
theorem mup_ne {μ : Mu} {a b : Addr} {c : Cell} (h : b ≠ a) : mup μ a c b = μ b := by simp [mup, h]
@[simp] theorem mup_mup {μ : Mu} {a : Addr} {c c' : Cell} : mup (mup μ a c) a c' = mup μ a c' := by
  funext b; unfold mup; split <;> rfl
theorem mup_self {μ : Mu} {a : Addr} {c : Cell} (h : μ a = some c) : mup μ a c = μ := by
  funext b; unfold mup; split
  · next e => subst e; exact h.symm
  · rfl
theorem mdel_mup {μ : Mu} {a : Addr} {c : Cell} (h : μ a = none) : mdel (mup μ a c) a = μ := by
  funext b; unfold mdel mup
  split
  · next e => subst e; exact h.symm
  · rfl
@[simp] theorem mdel_same {μ : Mu} {a : Addr} : mdel μ a a = none := by simp [mdel]
theorem mdel_ne {μ : Mu} {a b : Addr} (h : b ≠ a) : mdel μ a b = μ b := by simp [mdel, h]

def FReps {κ : Type} (K : PySem.W.Frag) (G : Gh) (kvs : List (κ × V)) (ds : List (κ × D)) : Prop := kvs.map (·.1) = ds.map (·.1) ∧ Reps K G (kvs.map (·.2)) (ds.map (·.2))
theorem FReps.mono {κ : Type} {K : PySem.W.Frag} {G G' : Gh} {kvs : List (κ × V)} {ds : List (κ × D)} (h : FReps K G kvs ds) (g : Gle G G') : FReps K G' kvs ds := ⟨h.1, h.2.mono g⟩
def CellR (K : PySem.W.Frag) (G : Gh) : HO → Cell → Prop
  | .lst vs, .lst xs => Reps K G vs xs
  | .dK kvs, .dic ds => FReps K G kvs ds
  | .frz o (.dK kvs), .dicL o' vs ds => o = o' ∧ kvs = vs ∧ FReps K G kvs ds
  | .ins C _ fvs, .ins C' fs => C = C' ∧ FReps K G fvs fs
  | _, _ => False
theorem CellR.mono {K : PySem.W.Frag} {G G' : Gh} {o : HO} {c : Cell} (h : CellR K G o c) (g : Gle G G') : CellR K G' o c := by
  cases o with
  | frz u o =>
    cases o <;> cases c <;> first
      | exact False.elim h
      | exact ⟨h.1, h.2.1, h.2.2.mono g⟩
  | _ =>
    cases c <;> first
      | exact False.elim h
      | exact Reps.mono h g
      | exact FReps.mono h g
      | exact ⟨h.1, h.2.mono g⟩
theorem cellR_lst {K : PySem.W.Frag} {G : Gh} {o : HO} {xs : List D} (h : CellR K G o (.lst xs)) : ∃ vs, o = .lst vs ∧ Reps K G vs xs := by
  cases o with
  | lst vs => exact ⟨vs, rfl, h⟩
  | frz u o => cases o <;> exact False.elim h
  | _ => exact False.elim h
theorem cellR_dic {K : PySem.W.Frag} {G : Gh} {o : HO} {xs : List (Key × D)} (h : CellR K G o (.dic xs)) : ∃ vs, o = .dK vs ∧ FReps K G vs xs := by
  cases o with
  | dK vs => exact ⟨vs, rfl, h⟩
  | frz u o => cases o <;> exact False.elim h
  | _ => exact False.elim h
theorem cellR_dicL {K : PySem.W.Frag} {G : Gh} {o : HO} {u : Obj} {vs : List (Key × V)} {xs : List (Key × D)} (h : CellR K G o (.dicL u vs xs)) : o = .frz u (.dK vs) ∧ FReps K G vs xs := by
  cases o with
  | frz u o =>
    cases o with
    | dK vs => obtain ⟨rfl, rfl, h⟩ := h; exact ⟨rfl, h⟩
    | _ => exact False.elim h
  | _ => exact False.elim h
theorem cellR_ins {K : PySem.W.Frag} {G : Gh} {o : HO} {C : Addr} {xs : List (Str × D)} (h : CellR K G o (.ins C xs)) : ∃ dx vs, o = .ins C dx vs ∧ FReps K G vs xs := by
  cases o with
  | ins C2 dx vs => obtain ⟨rfl, h⟩ := h; exact ⟨dx, vs, rfl, h⟩
  | frz u o => cases o <;> exact False.elim h
  | _ => exact False.elim h
/-- the source of draws: its list is frozen -/
def SrcAt (fr H : Hp) (a : Addr) : Prop := ∃ (l : Addr) (ns : List Int) (p r c : Int), H a = some (.lst [.ref l, .int p, .int r, .int c]) ∧ fr l = some (.lst (ns.map V.int)) ∧ 0 ≤ p

structure Hold (K : PySem.W.Frag) (G : Gh) (μ : Mu) (H : Hp) : Prop where
  fr : Ext G.fr H
  cell : ∀ a c, μ a = some c → G.fr a = none ∧ ∃ o, H a = some o ∧ CellR K G o c
  src : ∀ a ∈ G.src, G.fr a = none ∧ μ a = none ∧ SrcAt G.fr H a
  rooms : ∀ a ∈ G.rooms, G.fr a = none ∧ μ a = none ∧ a ∉ G.src ∧ ∃ n : Int, H a = some (.lst [.int n])
def Envr (K : PySem.W.Frag) (B : Gh) (G : Gh) (σ : St) (ρ : DR) : Prop := (σ.length = ρ.length ∧ Gle B G) ∧ ∀ (i : Nat) d, ρ[i]? = some (some d) → ∃ v, σ[i]? = some (some v) ∧ Rep K G v d
structure Sat (K : PySem.W.Frag) (B : Gh) (G : Gh) (ρ : DR) (μ : Mu) (σ : St) (H : Hp) : Prop where
  hold : Hold K G μ H
  env : Envr K B G σ ρ
section
variable {K : PySem.W.Frag} {G G' : Gh} {μ μ' : Mu} {H H' : Hp} {ρ ρ' : DR} {σ : St} {a p : Addr} {o : HO} {c : Cell} {v : V} {d : D}
theorem SrcAt.mono {fr fr' H H' : Hp} (h : SrcAt fr H a) (e : Ext fr fr') (k : ∀ o, H a = some o → H' a = some o) : SrcAt fr' H' a := by
  obtain ⟨l, ns, p, r, c, h1, h2, h3⟩ := h
  exact ⟨l, ns, p, r, c, k _ h1, e _ _ h2, h3⟩
/-- the heap grows, nothing else -/
theorem Hold.ext (h : Hold K G μ H) (e : Ext H H') : Hold K G μ H' :=
  ⟨h.fr.trans e, fun a c q => let ⟨x, o, y, z⟩ := h.cell a c q; ⟨x, o, e _ _ y, z⟩, fun a q => let ⟨x, y, z⟩ := h.src a q; ⟨x, y, z.mono (Ext.refl _) fun o => e a o⟩, fun a q => let ⟨x, y, z, n, w⟩ := h.rooms a q; ⟨x, y, z, n, e _ _ w⟩⟩
theorem Hold.free (h : Hold K G μ H) (n : H p = none) : G.fr p = none ∧ μ p = none ∧ p ∉ G.src ∧ p ∉ G.rooms := by
  refine ⟨h.fr.free n, ?_, ?_, ?_⟩
  · cases q : μ p with
    | none => rfl
    | some c => obtain ⟨_, o, y, _⟩ := h.cell p c q; rw [n] at y; cases y
  · intro q
    obtain ⟨_, _, l, ns, p', r, c, h1, _⟩ := h.src p q
    rw [n] at h1; cases h1
  · intro q
    obtain ⟨_, _, _, m, w⟩ := h.rooms p q
    rw [n] at w; cases w
/-- the ghost with one more frozen object -/
def Gh.frz (G : Gh) (p : Addr) (o : HO) : Gh := { G with fr := upd G.fr p o }
theorem Gle.frz (n : G.fr p = none) : Gle G (G.frz p o) := ⟨Ext.new n, fun _ h => h, fun _ h => h⟩
/-- a new frozen object -/
theorem Hold.new (h : Hold K G μ H) (n : H p = none) : Hold K (G.frz p o) μ (upd H p o) := by
  obtain ⟨f1, f2, f3, f4⟩ := h.free n
  have g : Gle G (G.frz p o) := Gle.frz f1
  refine ⟨h.fr.both, fun a c q => ?_, fun a q => ?_, fun a q => ?_⟩
  · obtain ⟨x, u, y, z⟩ := h.cell a c q
    have ne : a ≠ p := ne_of_none y n
    exact ⟨(upd_ne ne).trans x, u, (upd_ne ne).trans y, z.mono g⟩
  · obtain ⟨x, y, z⟩ := h.src a q
    have ne : a ≠ p := fun e => f3 (e ▸ q)
    exact ⟨(upd_ne ne).trans x, y, z.mono g.fr fun o q => (upd_ne ne).trans q⟩
  · obtain ⟨x, y, w, m, z⟩ := h.rooms a q
    have ne : a ≠ p := fun e => f4 (e ▸ q)
    exact ⟨(upd_ne ne).trans x, y, w, m, (upd_ne ne).trans z⟩
/-- a new cell -/
theorem Hold.cellNew (h : Hold K G μ H) (n : H p = none) (r : CellR K G o c) : Hold K G (mup μ p c) (upd H p o) := by
  obtain ⟨f1, f2, f3, f4⟩ := h.free n
  refine ⟨h.fr.trans (Ext.new n), fun a c' q => ?_, fun a q => ?_, fun a q => ?_⟩
  · by_cases e : a = p
    · subst e
      rw [mup_same] at q; cases q
      exact ⟨f1, o, upd_same, r⟩
    · rw [mup_ne e] at q
      obtain ⟨x, u, y, z⟩ := h.cell a c' q
      exact ⟨x, u, (upd_ne e).trans y, z⟩
  · obtain ⟨x, y, z⟩ := h.src a q
    have ne : a ≠ p := fun e => f3 (e ▸ q)
    exact ⟨x, (mup_ne ne).trans y, z.mono (Ext.refl _) fun o q => (upd_ne ne).trans q⟩
  · obtain ⟨x, y, w, m, z⟩ := h.rooms a q
    have ne : a ≠ p := fun e => f4 (e ▸ q)
    exact ⟨x, (mup_ne ne).trans y, w, m, (upd_ne ne).trans z⟩
/-- a cell is written -/
theorem Hold.cellSet {c0 : Cell} (h : Hold K G μ H) (q0 : μ p = some c0) (r : CellR K G o c) : Hold K G (mup μ p c) (upd H p o) := by
  obtain ⟨f1, u0, y0, _⟩ := h.cell p c0 q0
  refine ⟨h.fr.mut f1, fun a c' q => ?_, fun a q => ?_, fun a q => ?_⟩
  · by_cases e : a = p
    · subst e
      rw [mup_same] at q; cases q
      exact ⟨f1, o, upd_same, r⟩
    · rw [mup_ne e] at q
      obtain ⟨x, u, y, z⟩ := h.cell a c' q
      exact ⟨x, u, (upd_ne e).trans y, z⟩
  · obtain ⟨x, y, z⟩ := h.src a q
    have ne : a ≠ p := fun e => by rw [e, q0] at y; cases y
    exact ⟨x, (mup_ne ne).trans y, z.mono (Ext.refl _) fun o q => (upd_ne ne).trans q⟩
  · obtain ⟨x, y, w, m, z⟩ := h.rooms a q
    have ne : a ≠ p := fun e => by rw [e, q0] at y; cases y
    exact ⟨x, (mup_ne ne).trans y, w, m, (upd_ne ne).trans z⟩
/-- a cell is frozen -/
theorem Hold.freeze (h : Hold K G μ H) (q0 : μ p = some c) (hp : H p = some o) : Hold K (G.frz p o) (mdel μ p) H := by
  obtain ⟨f1, u0, y0, _⟩ := h.cell p c q0
  have g : Gle G (G.frz p o) := Gle.frz f1
  refine ⟨fun a u e => ?_, fun a c' q => ?_, fun a q => ?_, fun a q => ?_⟩
  · by_cases z : a = p
    · subst z
      have e' : upd G.fr a o a = some u := e
      rw [upd_same] at e'; cases e'; exact hp
    · have e' : upd G.fr p o a = some u := e
      rw [upd_ne z] at e'; exact h.fr a u e'
  · by_cases e : a = p
    · subst e; rw [mdel_same] at q; cases q
    · rw [mdel_ne e] at q
      obtain ⟨x, u, y, z⟩ := h.cell a c' q
      exact ⟨(upd_ne e).trans x, u, y, z.mono g⟩
  · obtain ⟨x, y, z⟩ := h.src a q
    have ne : a ≠ p := fun e => by rw [e, q0] at y; cases y
    exact ⟨(upd_ne ne).trans x, (mdel_ne ne).trans y, z.mono g.fr fun o q => q⟩
  · obtain ⟨x, y, w, m, z⟩ := h.rooms a q
    have ne : a ≠ p := fun e => by rw [e, q0] at y; cases y
    exact ⟨(upd_ne ne).trans x, (mdel_ne ne).trans y, w, m, z⟩
/-- a cell is forgotten -/
theorem Hold.drop (h : Hold K G μ H) : Hold K G (mdel μ p) H := by
  refine ⟨h.fr, fun a c' q => ?_, fun a q => ?_, fun a q => ?_⟩
  · by_cases e : a = p
    · subst e; rw [mdel_same] at q; cases q
    · rw [mdel_ne e] at q; exact h.cell a c' q
  · obtain ⟨x, y, z⟩ := h.src a q
    refine ⟨x, ?_, z⟩
    unfold mdel; split
    · rfl
    · exact y
  · obtain ⟨x, y, w, z⟩ := h.rooms a q
    refine ⟨x, ?_, w, z⟩
    unfold mdel; split
    · rfl
    · exact y
theorem Envr.mono (h : Envr K B G σ ρ) (g : Gle G G') : Envr K B G' σ ρ := ⟨⟨h.1.1, h.1.2.trans g⟩, fun i d q => let ⟨v, a, b⟩ := h.2 i d q; ⟨v, a, b.mono g⟩⟩
theorem Envr.set (h : Envr K B G σ ρ) (r : Rep K G v d) (i : Nat) : Envr K B G (σ.set i (some v)) (ρ.set i (some d)) := by
  refine ⟨⟨by simp [h.1.1], h.1.2⟩, fun j d' q => ?_⟩
  rw [List.getElem?_set] at q
  split at q
  · next e =>
    subst e
    split at q
    · next l => cases q; exact ⟨v, by rw [List.getElem?_set_self (by rw [h.1.1]; exact l)], r⟩
    · cases q
  · next e => obtain ⟨u, a, b⟩ := h.2 j d' q; exact ⟨u, by rw [List.getElem?_set_ne e]; exact a, b⟩
theorem Sat.ext (h : Sat K B G ρ μ σ H) (e : Ext H H') : Sat K B G ρ μ σ H' := ⟨h.hold.ext e, h.env⟩
theorem Sat.new (h : Sat K B G ρ μ σ H) (n : H p = none) : Sat K B (G.frz p o) ρ μ σ (upd H p o) := ⟨h.hold.new n, h.env.mono (Gle.frz (h.hold.free n).1)⟩
theorem Sat.gle_new (h : Sat K B G ρ μ σ H) (n : H p = none) : Gle G (G.frz p o) := Gle.frz (h.hold.free n).1
end

/-! ### what is seen of a datum: a cell's content -/
def vw (μ : Mu) : D → D
  | .ptr a => match μ a with
    | some (.lst xs) => .lst xs
    | some (.dic kvs) => .dic kvs
    | some (.dicL _ _ kvs) => .dic kvs
    | some (.ins C fs) => .obj C fs
    | none => .ptr a
  | d => d
@[simp] theorem vw_non {μ : Mu} : vw μ .non = .non := rfl
@[simp] theorem vw_bl {μ : Mu} {b : Bool} : vw μ (.bl b) = .bl b := rfl
@[simp] theorem vw_int {μ : Mu} {i : Int} : vw μ (.int i) = .int i := rfl
@[simp] theorem vw_str {μ : Mu} {s : Str} : vw μ (.str s) = .str s := rfl
@[simp] theorem vw_lst {μ : Mu} {xs : List D} : vw μ (.lst xs) = .lst xs := rfl
@[simp] theorem vw_tup {μ : Mu} {xs : List D} : vw μ (.tup xs) = .tup xs := rfl
@[simp] theorem vw_dic {μ : Mu} {xs : List (Key × D)} : vw μ (.dic xs) = .dic xs := rfl
@[simp] theorem vw_obj {μ : Mu} {C : Addr} {fs : List (Str × D)} : vw μ (.obj C fs) = .obj C fs := rfl
@[simp] theorem vw_scr {μ : Mu} {ns : List Int} : vw μ (.scr ns) = .scr ns := rfl
@[simp] theorem vw_ptr {μ : Mu} {a : Addr} {c : Cell} : vw (mup μ a c) (.ptr a) = match c with | .lst xs => .lst xs | .dic kvs => .dic kvs | .dicL _ _ kvs => .dic kvs | .ins C fs => .obj C fs := by
  simp [vw]; cases c <;> rfl
theorem vw_pd {μ : Mu} {a : Addr} : vw μ (.ptr a) = match μ a with | some (.lst xs) => .lst xs | some (.dic kvs) => .dic kvs | some (.dicL _ _ kvs) => .dic kvs | some (.ins C fs) => .obj C fs | none => .ptr a := rfl
theorem vw_of {μ : Mu} {a : Addr} {xs : List D} (h : μ a = some (.lst xs)) : vw μ (.ptr a) = .lst xs := by simp [vw, h]
section
variable {K : PySem.W.Frag} {G : Gh} {μ : Mu} {H : Hp} {v : V} {d : D}
/-- a list that is seen stands in the heap -/
theorem Hold.lst (h : Hold K G μ H) (r : Rep K G v d) {xs : List D} (e : vw μ d = .lst xs) : ∃ a vs, v = .ref a ∧ H a = some (.lst vs) ∧ Reps K G vs xs := by
  cases r with
  | lst hh l r => cases e; exact ⟨_, _, rfl, h.fr _ _ hh, l, r⟩
  | ptr a =>
    simp only [vw] at e
    cases q : μ a with
    | none => rw [q] at e; cases e
    | some c =>
      rw [q] at e
      cases c with
      | lst ys =>
        cases e
        obtain ⟨_, o, y, z⟩ := h.cell a _ q
        obtain ⟨vs, rfl, z2⟩ := cellR_lst z
        exact ⟨a, vs, rfl, y, z2⟩
      | dic _ => cases e
      | dicL _ _ _ => cases e
      | ins _ _ => cases e
  | _ => cases e
theorem Hold.tup (h : Hold K G μ H) (r : Rep K G v d) {xs : List D} (e : vw μ d = .tup xs) : ∃ a vs, v = .ref a ∧ SqT K H a vs ∧ Reps K G vs xs := by
  cases r with
  | tup hh l r => cases e; exact ⟨_, _, rfl, h.fr.seqT hh, l, r⟩
  | ptr a =>
    simp only [vw] at e
    cases q : μ a with
    | none => rw [q] at e; cases e
    | some c => rw [q] at e; cases c <;> cases e
  | _ => cases e
theorem Hold.dic (h : Hold K G μ H) (r : Rep K G v d) {xs : List (Key × D)} (e : vw μ d = .dic xs) : ∃ a vs, v = .ref a ∧ Rd H a (.dK vs) ∧ FReps K G vs xs := by
  cases r with
  | dic hh l r => cases e; exact ⟨_, _, rfl, .inl (h.fr _ _ hh), l, by have := congrArg List.length l; simpa using this, r⟩
  | ptr a =>
    simp only [vw] at e
    cases q : μ a with
    | none => rw [q] at e; cases e
    | some c =>
      rw [q] at e
      cases c with
      | dic ys =>
        cases e
        obtain ⟨_, o, y, z⟩ := h.cell a _ q
        obtain ⟨vs, rfl, z2⟩ := cellR_dic z
        exact ⟨a, vs, rfl, .inl y, z2⟩
      | dicL u0 vs0 ys =>
        cases e
        obtain ⟨_, o, y, z⟩ := h.cell a _ q
        obtain ⟨rfl, z2⟩ := cellR_dicL z
        exact ⟨a, _, rfl, .inr ⟨_, y⟩, z2⟩
      | lst _ => cases e
      | ins _ _ => cases e
  | _ => cases e
theorem Hold.obj (h : Hold K G μ H) (r : Rep K G v d) {C : Addr} {fs : List (Str × D)} (e : vw μ d = .obj C fs) : ∃ a dx vs, v = .ref a ∧ H a = some (.ins C dx vs) ∧ FReps K G vs fs := by
  cases r with
  | obj hh l r => cases e; exact ⟨_, _, _, rfl, h.fr _ _ hh, l, by have := congrArg List.length l; simpa using this, r⟩
  | ptr a =>
    simp only [vw] at e
    cases q : μ a with
    | none => rw [q] at e; cases e
    | some c =>
      rw [q] at e
      cases c with
      | ins C' ys =>
        cases e
        obtain ⟨_, o, y, z⟩ := h.cell a _ q
        obtain ⟨dx, vs, rfl, z2⟩ := cellR_ins z
        exact ⟨a, dx, vs, rfl, y, z2⟩
      | lst _ => cases e
      | dic _ => cases e
      | dicL _ _ _ => cases e
  | _ => cases e
theorem Rep.ofInt {i : Int} (r : Rep K G v (.int i)) : v = .int i := by cases r; rfl
theorem Rep.ofStr {i : Str} (r : Rep K G v (.str i)) : v = .str i := by cases r; rfl
theorem Rep.ofBl {i : Bool} (r : Rep K G v (.bl i)) : v = .bl i := by cases r; rfl
theorem Rep.ofNon (r : Rep K G v .non) : v = .non := by cases r; rfl
end

/-! ### readings over data, and how they stand to the layer's -/
abbrev QD := D → Mu → Prop
abbrev TDE := DR → Mu → QD → Prop
abbrev TDT := DR → Mu → (Bool → Mu → Prop) → Prop
abbrev TDA := DR → Mu → (List D → Mu → Prop) → Prop
structure DEnds where
  nx : DR → Mu → Prop
  rt : QD
  bk : DR → Mu → Prop := fun _ _ => False
  ct : DR → Mu → Prop := fun _ _ => False
abbrev TDS := DEnds → DR → Mu → Prop
/-- a datum handed on: from Q over data to Qn over values -/
def Hand (K : PySem.W.Frag) (B : Gh) (G : Gh) (ρ : DR) (σ : St) (Q : QD) (Qn : VK) : Prop := ∀ d μ' v H' G', Gle G G' → Sat K B G' ρ μ' σ H' → Rep K G' v d → Q d μ' → Qn v H'
def RefE (K : PySem.W.Frag) (B : Gh) (T : TDE) (t : TE) : Prop := ∀ ρ μ σ H G Q (Qn : VK), Sat K B G ρ μ σ H → T ρ μ Q → Hand K B G ρ σ Q Qn → t σ H Qn
def RefT (K : PySem.W.Frag) (B : Gh) (T : TDT) (t : TT) : Prop := ∀ ρ μ σ H G Q (Qn : Bool → Hp → Prop), Sat K B G ρ μ σ H → T ρ μ Q → (∀ b μ' H' G', Gle G G' → Sat K B G' ρ μ' σ H' → Q b μ' → Qn b H') → t σ H Qn
def RefA (K : PySem.W.Frag) (B : Gh) (T : TDA) (t : TA) : Prop := ∀ ρ μ σ H G Q (Qn : List V → Hp → Prop), Sat K B G ρ μ σ H → T ρ μ Q → (∀ ds μ' vs H' G', Gle G G' → Sat K B G' ρ μ' σ H' → Reps K G' vs ds → Q ds μ' → Qn vs H') → t σ H Qn
structure EndsR (K : PySem.W.Frag) (B : Gh) (G : Gh) (E : DEnds) (Dn : Ends) : Prop where
  nx : ∀ ρ' μ' σ' H' G', Gle G G' → Sat K B G' ρ' μ' σ' H' → E.nx ρ' μ' → Dn.nx σ' H'
  rt : ∀ d μ' v H' G', Gle G G' → Hold K G' μ' H' → Rep K G' v d → E.rt d μ' → Dn.rt v H'
  bk : ∀ ρ' μ' σ' H' G', Gle G G' → Sat K B G' ρ' μ' σ' H' → E.bk ρ' μ' → Dn.bk σ' H'
  ct : ∀ ρ' μ' σ' H' G', Gle G G' → Sat K B G' ρ' μ' σ' H' → E.ct ρ' μ' → Dn.ct σ' H'
theorem EndsR.mono {K : PySem.W.Frag} {G G' : Gh} {E : DEnds} {Dn : Ends} (h : EndsR K B G E Dn) (g : Gle G G') : EndsR K B G' E Dn :=
  ⟨fun ρ' μ' σ' H' G2 g2 => h.nx ρ' μ' σ' H' G2 (g.trans g2), fun d μ' v H' G2 g2 => h.rt d μ' v H' G2 (g.trans g2), fun ρ' μ' σ' H' G2 g2 => h.bk ρ' μ' σ' H' G2 (g.trans g2), fun ρ' μ' σ' H' G2 g2 => h.ct ρ' μ' σ' H' G2 (g.trans g2)⟩
theorem Hand.mono {K : PySem.W.Frag} {G G' : Gh} {ρ : DR} {σ : St} {Q : QD} {Qn : VK} (h : Hand K B G ρ σ Q Qn) (g : Gle G G') : Hand K B G' ρ σ Q Qn := fun d μ' v H' G2 g2 => h d μ' v H' G2 (g.trans g2)
def RefS (K : PySem.W.Frag) (B : Gh) (T : TDS) (t : TS) : Prop := ∀ ρ μ σ H G (E : DEnds) (Dn : Ends), Sat K B G ρ μ σ H → T E ρ μ → EndsR K B G E Dn → t Dn σ H

structure DE (X : Cx) (B : Gh) (e : Expr) (t : TE) (T : TDE) : Prop where
  pe : PE X e t
  ref : RefE X.K B T t
structure DT (X : Cx) (B : Gh) (e : Expr) (t : TT) (T : TDT) : Prop where
  pt : PT X e t
  ref : RefT X.K B T t
structure DW (X : Cx) (B : Gh) (e : Expr) (t : TT) (T : TDT) : Prop where
  pw : PW X e t
  ref : RefT X.K B T t
structure DA (X : Cx) (B : Gh) (es : List Expr) (t : TA) (T : TDA) : Prop where
  pa : PA X es t
  ref : RefA X.K B T t
structure DS (X : Cx) (B : Gh) (st : Stmt) (t : TS) (T : TDS) : Prop where
  ps : PS X st t
  ref : RefS X.K B T t
structure DSs (X : Cx) (B : Gh) (st : List Stmt) (t : TS) (T : TDS) : Prop where
  pss : PSs X st t
  ref : RefS X.K B T t
end DL

/-! DL1: rules of the data layer: expressions, tests, statements. -/
namespace DL
open PySem PySem.Spec PyProof.Rows L2

section
variable {X : Cx} {pos : Pos}

/-! ### names, constants -/
@[simp] def dVar (i : Nat) : TDE := fun ρ μ Q => match ρ[i]? with | some (some d) => Q d μ | _ => False
@[simp] def dC (d : D) : TDE := fun _ μ Q => Q d μ
theorem ref_var {K : PySem.W.Frag} (i : Nat) : RefE K B (dVar i) (tVar i) := by
  intro ρ μ σ H G Q Qn S h hd
  unfold dVar at h
  split at h
  · next d e =>
    obtain ⟨v, a, b⟩ := S.env.2 i d e
    exact ⟨v, a, hd d μ v H G (Gle.refl G) S b h⟩
  · exact h.elim
theorem dv (i : Nat) {x : Str} {pos : Pos} (hN : X.N[i]? = some x := by rfl) (hv : Vis X.env.scope x := by first | exact Or.inl rfl | exact Or.inr (Or.inl rfl) | exact Or.inr (Or.inr rfl)) (hd : (x == ("__debug__" : Str)) = false := by decide)
    (hcd : (x == ("__classdict__" : Str)) = false := by decide) : DE X B (.Name x pos) (tVar i) (dVar i) := ⟨pe_var hN hv hd hcd, ref_var i⟩
theorem ref_c {K : PySem.W.Frag} {v : V} {d : D} (r : ∀ G, Rep K G v d) : RefE K B (dC d) (tC v) := fun ρ μ σ H G Q Qn S h hd => hd d μ v H G (Gle.refl G) S (r G) h
theorem de_int {i j pos} : DE X B (.Constant (.int i) j pos) (tC (.int i)) (dC (.int i)) := ⟨pe_int, ref_c fun _ => .int i⟩
theorem de_bl {b j pos} : DE X B (.Constant (.bool b) j pos) (tC (.bl b)) (dC (.bl b)) := ⟨pe_bl, ref_c fun _ => .bl b⟩
theorem de_non {j pos} : DE X B (.Constant .none j pos) (tC .non) (dC .non) := ⟨pe_non, ref_c fun _ => .non⟩
theorem de_str {x j pos} : DE X B (.Constant (.str x) j pos) (tC (.str x)) (dC (.str x)) := ⟨pe_str, ref_c fun _ => .str x⟩
/-- a module's constant -/
theorem de_glob {x : Str} {v : V} {u : Value} {d : D} (hg : Gl X x) (hm : X.mg x = some u) (r : RelV v u) (rr : ∀ G, Rep X.K G v d) (hd : (x == ("__debug__" : Str)) = false := by decide) : DE X B (.Name x pos) (tC v) (dC d) := ⟨pe_glob hg hm r hd, ref_c rr⟩

/-! ### new lists -/
/-- c: a cell; else frozen -/
def mkL (c : Bool) (xs : List D) (μ : Mu) (Q : QD) : Prop := match c with
  | true => ∀ a, μ a = none → Q (.ptr a) (mup μ a (.lst xs))
  | false => Q (.lst xs) μ
@[simp] theorem mkL_t {xs : List D} {μ : Mu} {Q : QD} : mkL true xs μ Q = ∀ a, μ a = none → Q (.ptr a) (mup μ a (.lst xs)) := rfl
@[simp] theorem mkL_f {xs : List D} {μ : Mu} {Q : QD} : mkL false xs μ Q = Q (.lst xs) μ := rfl
theorem Sat.cellNew {K : PySem.W.Frag} {G : Gh} {μ : Mu} {H : Hp} {ρ : DR} {σ : St} {p : Addr} {o : HO} {c : Cell} (h : Sat K B G ρ μ σ H) (n : H p = none) (r : CellR K G o c) : Sat K B G ρ (mup μ p c) σ (upd H p o) := ⟨h.hold.cellNew n r, h.env⟩
theorem mkL_go {K : PySem.W.Frag} {c : Bool} {xs : List D} {μ : Mu} {Q : QD} {ρ : DR} {σ : St} {H : Hp} {G : Gh} {vs : List V} {Qn : VK} {p : Addr} (h : mkL c xs μ Q) (S : Sat K B G ρ μ σ H) (r : Reps K G vs xs) (hd : Hand K B G ρ σ Q Qn) (n : H p = none) : Qn (.ref p) (upd H p (.lst vs)) := by
  cases c with
  | true => exact hd (.ptr p) _ _ _ G (Gle.refl G) (S.cellNew n (show CellR K G (.lst vs) (.lst xs) from r)) (.ptr p) (h p (S.hold.free n).2.1)
  | false => exact hd (.lst xs) μ _ _ (G.frz p (.lst vs)) (S.gle_new n) (S.new n) (.lst (show upd G.fr p (.lst vs) p = some (.lst vs) from upd_same) r.1 fun i v d a b => (r.2 i v d a b).mono (S.gle_new n)) h
theorem tup_go {K : PySem.W.Frag} {xs : List D} {μ : Mu} {Q : QD} {ρ : DR} {σ : St} {H : Hp} {G : Gh} {vs : List V} {Qn : VK} {p : Addr} (h : Q (.tup xs) μ) (S : Sat K B G ρ μ σ H) (r : Reps K G vs xs) (hd : Hand K B G ρ σ Q Qn) (n : H p = none) : Qn (.ref p) (upd H p (.tup vs)) :=
  hd (.tup xs) μ _ _ (G.frz p (.tup vs)) (S.gle_new n) (S.new n) (.tup (.inl (.inl (show upd G.fr p (.tup vs) p = some (.tup vs) from upd_same))) r.1 fun i v d a b => (r.2 i v d a b).mono (S.gle_new n)) h
/-- an object made frozen; a dict -/
theorem dic_go {K : PySem.W.Frag} {xs : List (Key × D)} {μ : Mu} {Q : QD} {ρ : DR} {σ : St} {H : Hp} {G : Gh} {vs : List (Key × V)} {Qn : VK} {p : Addr} (h : Q (.dic xs) μ) (S : Sat K B G ρ μ σ H) (r : FReps K G vs xs) (hd : Hand K B G ρ σ Q Qn) (n : H p = none) : Qn (.ref p) (upd H p (.dK vs)) :=
  hd (.dic xs) μ _ _ (G.frz p (.dK vs)) (S.gle_new n) (S.new n) (.dic (show upd G.fr p (.dK vs) p = some (.dK vs) from upd_same) r.1 fun i v d a b => (r.2.2 i v d a b).mono (S.gle_new n)) h
theorem Hand.now {K : PySem.W.Frag} {G : Gh} {ρ : DR} {σ : St} {Q : QD} {Qn : VK} {μ : Mu} {H : Hp} {d : D} {v : V} (hd : Hand K B G ρ σ Q Qn) (S : Sat K B G ρ μ σ H) (r : Rep K G v d) (q : Q d μ) : Qn v H := hd d μ v H G (Gle.refl G) S r q

/-! ### arguments, displays -/
@[simp] def dNil : TDA := fun _ μ Q => Q [] μ
@[simp] def dCons (Ta : TDE) (Tr : TDA) : TDA := fun ρ μ Q => Ta ρ μ fun d μ1 => Tr ρ μ1 fun ds μ2 => Q (d :: ds) μ2
theorem da_nil : DA X B [] tNil dNil := ⟨pa_nil, fun ρ μ σ H G Q Qn S h hd => hd [] μ [] H G (Gle.refl G) S Reps.nil h⟩
theorem da_cons {e : Expr} {es : List Expr} {te : TE} {t : TA} {Te : TDE} {T : TDA} (ha : DE X B e te Te) (hr : DA X B es t T) (hs : starEach (e :: es) X.env = (false, eval e X.env) :: starEach es X.env := by rfl) : DA X B (e :: es) (tCons te t) (dCons Te T) :=
  ⟨pa_cons ha.pe hr.pa hs, fun ρ μ σ H G Q Qn S h hd => ha.ref ρ μ σ H G _ _ S h fun d μ1 v H1 G1 g1 S1 r1 q1 => hr.ref ρ μ1 σ H1 G1 _ _ S1 q1 fun ds μ2 vs H2 G2 g2 S2 r2 q2 => hd (d :: ds) μ2 (v :: vs) H2 G2 (g1.trans g2) S2 (Reps.cons (r1.mono g2) r2) q2⟩
@[simp] def dLst (c : Bool) (T : TDA) : TDE := fun ρ μ Q => T ρ μ fun ds μ1 => ds.length ≤ sizeLine ∧ mkL c ds μ1 Q
@[simp] def dTup (T : TDA) : TDE := fun ρ μ Q => T ρ μ fun ds μ1 => ds.length ≤ sizeLine ∧ Q (.tup ds) μ1
theorem de_lst (c : Bool) {es : List Expr} {t : TA} {T : TDA} (h : DA X B es t T) : DE X B (.List es pos) (tLst t) (dLst c T) :=
  ⟨pe_lst h.pa, fun ρ μ σ H G Q Qn S q hd => h.ref ρ μ σ H G _ _ S q fun ds μ1 vs H1 G1 g1 S1 r1 ⟨l, q1⟩ => ⟨by rw [r1.1]; exact l, fun p n => mkL_go q1 S1 r1 (hd.mono g1) n⟩⟩
theorem de_tup {es : List Expr} {x1} {t : TA} {T : TDA} (h : DA X B es t T) : DE X B (.Tuple es x1 pos) (tTup t) (dTup T) :=
  ⟨pe_tup h.pa, fun ρ μ σ H G Q Qn S q hd => h.ref ρ μ σ H G _ _ S q fun ds μ1 vs H1 G1 g1 S1 r1 ⟨l, q1⟩ => ⟨by rw [r1.1]; exact l, fun p n => tup_go q1 S1 r1 (hd.mono g1) n⟩⟩

/-! ### operators -/
abbrev R2D := D → D → Mu → QD → Prop
def Ref2 (K : PySem.W.Frag) (B : Gh) (R : R2D) (r : R2) : Prop := ∀ ρ μ σ H G x y dx dy Q (Qn : VK), Sat K B G ρ μ σ H → Rep K G x dx → Rep K G y dy → R dx dy μ Q → Hand K B G ρ σ Q Qn → r x y H Qn
@[simp] def dOp (R : R2D) (Ta Tb : TDE) : TDE := fun ρ μ Q => Ta ρ μ fun x μ1 => Tb ρ μ1 fun y μ2 => R x y μ2 Q
theorem ref_op {K : PySem.W.Frag} {R : R2D} {r : R2} {ta tb : TE} {Ta Tb : TDE} (hr : Ref2 K B R r) (ha : RefE K B Ta ta) (hb : RefE K B Tb tb) : RefE K B (dOp R Ta Tb) (tOp r ta tb) :=
  fun ρ μ σ H G Q Qn S h hd => ha ρ μ σ H G _ _ S h fun d μ1 v H1 G1 g1 S1 r1 q1 => hb ρ μ1 σ H1 G1 _ _ S1 q1 fun d2 μ2 v2 H2 G2 g2 S2 r2 q2 => hr ρ μ2 σ H2 G2 v v2 d d2 Q Qn S2 (r1.mono g2) r2 q2 (hd.mono (g1.trans g2))
variable {a b : Expr} {ta tb : TE} {Ta Tb : TDE} {R : R2D} {r : R2}
theorem de_op {op : Operator} (ho : OpR X (binaryOp op) r ∧ Ref2 X.K B R r) (ha : DE X B a ta Ta) (hb : DE X B b tb Tb) : DE X B (.BinOp a op b pos) (tOp r ta tb) (dOp R Ta Tb) := ⟨pe_op ho.1 ha.pe hb.pe, ref_op ho.2 ha.ref hb.ref⟩
theorem de_cmp {op : CmpOp} (ho : OpR X (compareOp op) r ∧ Ref2 X.K B R r) (ha : DE X B a ta Ta) (hb : DE X B b tb Tb) (hm : behindInMarks op b = false := by first | exact nomark _ | rfl) : DE X B (.Compare a [op] [b] pos) (tOp r ta tb) (dOp R Ta Tb) := ⟨pe_cmpR ho.1 ha.pe hb.pe hm, ref_op ho.2 ha.ref hb.ref⟩
/-- a test of a value that is True or False -/
@[simp] def dB (T : TDE) : TDT := fun ρ μ Q => T ρ μ fun d μ1 => match d with | .bl b => Q b μ1 | _ => False
theorem ref_B {K : PySem.W.Frag} {t : TE} {T : TDE} (h : RefE K B T t) : RefT K B (dB T) (tTest t) := fun ρ μ σ H G Q Qn S q hd => h ρ μ σ H G _ _ S q fun d μ1 v H1 G1 g1 S1 r1 q1 => by
  cases d with
  | bl b => exact ⟨b, r1.ofBl, hd b μ1 H1 G1 g1 S1 q1⟩
  | _ => exact q1.elim
theorem dt_cmp {op : CmpOp} (ho : OpR X (compareOp op) r ∧ Ref2 X.K B R r) (ha : DE X B a ta Ta) (hb : DE X B b tb Tb) (hm : behindInMarks op b = false := by first | exact nomark _ | rfl) : DT X B (.Compare a [op] [b] pos) (tTest (tOp r ta tb)) (dB (dOp R Ta Tb)) := ⟨pt_cmpR ho.1 ha.pe hb.pe hm, ref_B (ref_op ho.2 ha.ref hb.ref)⟩
/-- any expression whose value is a bool -/
theorem dt_val {e : Expr} {t : TE} {T : TDE} (h : DE X B e t T) (he : ∀ whole, isTrue e X.env whole = (do let v ← whole; standAt e.pos; holding [v] (truthy v)) := by intro _; rfl) : DT X B e (tB t) (dB T) := ⟨pt_val h.pe he, ref_B h.ref⟩

/-! ints, texts, lists: + -/
@[simp] def opAdd : R2D := fun x y μ Q => match vw μ x, vw μ y with
  | .int i, .int j => Q (.int (i + j)) μ
  | .str s, .str t => s.length + t.length ≤ sizeLine ∧ Q (.str (s ++ t)) μ
  | .lst xs, .lst ys => xs.length + ys.length ≤ sizeLine ∧ Q (.lst (xs ++ ys)) μ
  | _, _ => False
@[simp] def opAddC : R2D := fun x y μ Q => match vw μ x, vw μ y with
  | .lst xs, .lst ys => xs.length + ys.length ≤ sizeLine ∧ mkL true (xs ++ ys) μ Q
  | _, _ => False
end

theorem vw_int' {μ : Mu} {d : D} {i : Int} (h : vw μ d = .int i) : d = .int i := by
  cases d with
  | ptr a =>
    simp only [vw] at h
    split at h <;> cases h
  | _ => first | exact h | cases h
theorem vw_str' {μ : Mu} {d : D} {i : Str} (h : vw μ d = .str i) : d = .str i := by
  cases d with
  | ptr a =>
    simp only [vw] at h
    split at h <;> cases h
  | _ => first | exact h | cases h
theorem vw_bl' {μ : Mu} {d : D} {i : Bool} (h : vw μ d = .bl i) : d = .bl i := by
  cases d with
  | ptr a =>
    simp only [vw] at h
    split at h <;> cases h
  | _ => first | exact h | cases h
section
variable {X : Cx}
def rAddA : R2 := fun x y H Q => (∃ i j, x = .int i ∧ y = .int j ∧ Q (.int (i + j)) H) ∨ (∃ i j, x = .str i ∧ y = .str j ∧ i.length + j.length ≤ sizeLine ∧ Q (.str (i ++ j)) H) ∨ rCat x y H Q
theorem op_addA : OpR X (binaryOp .Add) rAddA := op_add.or (op_add_str.or op_cat)
theorem ref_addC : Ref2 X.K B opAddC rAddA := by
  intro ρ μ σ H G x y dx dy Q Qn S r1 r2 h hd
  unfold opAddC at h
  split at h
  · next e1 e2 =>
    obtain ⟨l, h⟩ := h
    obtain ⟨p, vs, rfl, h1, q1⟩ := S.hold.lst r1 e1
    obtain ⟨p2, ws, rfl, h2, q2⟩ := S.hold.lst r2 e2
    exact .inr (.inr ⟨p, p2, vs, ws, rfl, rfl, h1, h2, by rw [q1.1, q2.1]; exact l, fun q n => mkL_go h S (q1.append q2) hd n⟩)
  · exact h.elim
theorem ref_add : Ref2 X.K B opAdd rAddA := by
  intro ρ μ σ H G x y dx dy Q Qn S r1 r2 h hd
  unfold opAdd at h
  split at h
  · next i j e1 e2 =>
    cases vw_int' e1; cases vw_int' e2
    exact .inl ⟨i, j, r1.ofInt, r2.ofInt, hd.now S (.int _) h⟩
  · next i j e1 e2 =>
    cases vw_str' e1; cases vw_str' e2
    exact .inr (.inl ⟨i, j, r1.ofStr, r2.ofStr, h.1, hd.now S (.str _) h.2⟩)
  · next e1 e2 =>
    obtain ⟨l, h⟩ := h
    obtain ⟨p, vs, rfl, h1, q1⟩ := S.hold.lst r1 e1
    obtain ⟨p2, ws, rfl, h2, q2⟩ := S.hold.lst r2 e2
    exact .inr (.inr ⟨p, p2, vs, ws, rfl, rfl, h1, h2, by rw [q1.1, q2.1]; exact l, fun q n => mkL_go (c := false) h S (q1.append q2) hd n⟩)
  · exact h.elim
theorem do_add : OpR X (binaryOp .Add) rAddA ∧ Ref2 X.K B opAdd rAddA := ⟨op_addA, ref_add⟩
theorem do_addC : OpR X (binaryOp .Add) rAddA ∧ Ref2 X.K B opAddC rAddA := ⟨op_addA, ref_addC⟩

/-- two ints, a side condition -/
@[simp] def opZ (C : Int → Int → Prop) (g : Int → Int → D) : R2D := fun x y μ Q => match x, y with
  | .int i, .int j => C i j ∧ Q (g i j) μ
  | _, _ => False
@[simp] def opZ0 (g : Int → Int → D) : R2D := fun x y μ Q => match x, y with
  | .int i, .int j => Q (g i j) μ
  | _, _ => False
theorem ref_I {C : Int → Int → Prop} {g : Int → Int → Int} : Ref2 X.K B (opZ C fun i j => .int (g i j)) (rI C fun i j => .int (g i j)) := by
  intro ρ μ σ H G x y dx dy Q Qn S r1 r2 h hd
  unfold opZ at h
  split at h
  · next i j => exact ⟨i, j, r1.ofInt, r2.ofInt, h.1, hd.now S (.int _) h.2⟩
  · exact h.elim
theorem ref_I0 {g : Int → Int → Int} : Ref2 X.K B (opZ0 fun i j => .int (g i j)) (rI0 fun i j => .int (g i j)) := by
  intro ρ μ σ H G x y dx dy Q Qn S r1 r2 h hd
  unfold opZ0 at h
  split at h
  · next i j => exact ⟨i, j, r1.ofInt, r2.ofInt, hd.now S (.int _) h⟩
  · exact h.elim
theorem ref_B0 {g : Int → Int → Bool} : Ref2 X.K B (opZ0 fun i j => .bl (g i j)) (rI0 fun i j => .bl (g i j)) := by
  intro ρ μ σ H G x y dx dy Q Qn S r1 r2 h hd
  unfold opZ0 at h
  split at h
  · next i j => exact ⟨i, j, r1.ofInt, r2.ofInt, hd.now S (.bl _) h⟩
  · exact h.elim
abbrev opSub : R2D := opZ0 fun i j => .int (i - j)
abbrev opMul : R2D := opZ CMul fun i j => .int (i * j)
abbrev opMod : R2D := opZ (fun _ j => 0 < j) fun i j => .int (i % j)
abbrev opDiv : R2D := opZ CDiv fun i j => .int (i / j)
abbrev opPow : R2D := opZ CPow fun i j => .int (i ^ j.toNat)
theorem do_sub : OpR X (binaryOp .Sub) (rI0 fun i j => .int (i - j)) ∧ Ref2 X.K B opSub (rI0 fun i j => .int (i - j)) := ⟨op_sub, ref_I0⟩
theorem do_mul : OpR X (binaryOp .Mult) (rI CMul fun i j => .int (i * j)) ∧ Ref2 X.K B opMul (rI CMul fun i j => .int (i * j)) := ⟨op_mul, ref_I⟩
theorem do_mod : OpR X (binaryOp .Mod) (rI (fun _ j => 0 < j) fun i j => .int (i % j)) ∧ Ref2 X.K B opMod (rI (fun _ j => 0 < j) fun i j => .int (i % j)) := ⟨op_mod, ref_I⟩
theorem do_div : OpR X (binaryOp .FloorDiv) (rI CDiv fun i j => .int (i / j)) ∧ Ref2 X.K B opDiv (rI CDiv fun i j => .int (i / j)) := ⟨op_fdiv, ref_I⟩
theorem do_pow : OpR X (binaryOp .Pow) (rI CPow fun i j => .int (i ^ j.toNat)) ∧ Ref2 X.K B opPow (rI CPow fun i j => .int (i ^ j.toNat)) := ⟨op_pow, ref_I⟩
abbrev opLt : R2D := opZ0 fun i j => .bl (decide (i < j))
abbrev opLe : R2D := opZ0 fun i j => .bl (decide (i ≤ j))
abbrev opGt : R2D := opZ0 fun i j => .bl (decide (j < i))
abbrev opGe : R2D := opZ0 fun i j => .bl (decide (j ≤ i))
theorem do_lt : OpR X (compareOp .Lt) (rI0 fun i j => .bl (decide (i < j))) ∧ Ref2 X.K B opLt (rI0 fun i j => .bl (decide (i < j))) := ⟨op_lt, ref_B0⟩
theorem do_le : OpR X (compareOp .LtE) (rI0 fun i j => .bl (decide (i ≤ j))) ∧ Ref2 X.K B opLe (rI0 fun i j => .bl (decide (i ≤ j))) := ⟨op_le, ref_B0⟩
theorem do_gt : OpR X (compareOp .Gt) (rI0 fun i j => .bl (decide (j < i))) ∧ Ref2 X.K B opGt (rI0 fun i j => .bl (decide (j < i))) := ⟨op_gt, ref_B0⟩
theorem do_ge : OpR X (compareOp .GtE) (rI0 fun i j => .bl (decide (j ≤ i))) ∧ Ref2 X.K B opGe (rI0 fun i j => .bl (decide (j ≤ i))) := ⟨op_ge, ref_B0⟩
end
end DL

/-! DL2: equality, in, is None, items, slices, built-ins, methods. -/
namespace DL
open PySem PySem.Spec PyProof.Rows L2

/-! ### texts as lists of codes -/
def mk (l : List Nat) : Str := ⟨l.toArray⟩
@[simp] theorem mk_cps (l : List Nat) : (mk l).cps.toList = l := by simp [mk]
@[simp] theorem mk_cps' (l : List Nat) : (mk l).cps = l.toArray := rfl
@[simp] theorem mk_length (l : List Nat) : (mk l).length = l.length := by simp [mk, Str.length]
@[simp] theorem mk_append (a b : List Nat) : mk a ++ mk b = mk (a ++ b) := by
  show Str.append (mk a) (mk b) = _
  simp [mk, Str.append]
@[simp] theorem mk_inj {a b : List Nat} : mk a = mk b ↔ a = b := by
  constructor
  · intro h; have := congrArg (fun z => z.cps.toList) h; simpa using this
  · intro h; rw [h]
theorem ofString_mk (s : String) : Str.ofString s = mk (s.toList.map Char.toNat) := Str.ofString_eq_toList s
theorem mk_of (s : Str) : mk s.cps.toList = s := by cases s; simp [mk]

/-! ### data as the library's data -/
mutual
def py : D → Option PyData
  | .non => some .none
  | .bl b => some (.bool b)
  | .int i => some (.int i)
  | .str s => some (.str s)
  | .lst xs => (pyL xs).map .list
  | .tup xs => (pyL xs).map .tuple
  | .dic _ => none
  | .obj _ _ => none
  | .src => none
  | .room => none
  | .ptr _ => none
  | .scr _ => none
def pyL : List D → Option (List PyData)
  | [] => some []
  | x :: xs => match py x, pyL xs with
    | some d, some ds => some (d :: ds)
    | _, _ => none
end
mutual
theorem rep_dp {K : PySem.W.Frag} {G : Gh} {H : Hp} (e : Ext G.fr H) : ∀ (d : D) (v : V) (p : PyData), Rep K G v d → py d = some p → Dp K H v p
  | .non, v, p, r, h => by cases r; simp [py] at h; subst h; exact .non
  | .bl b, v, p, r, h => by cases r; simp [py] at h; subst h; exact .bl b
  | .int b, v, p, r, h => by cases r; simp [py] at h; subst h; exact .int b
  | .str b, v, p, r, h => by cases r; simp [py] at h; subst h; exact .str b
  | .lst xs, v, p, r, h => by
    cases r with
    | lst hh l r =>
      rw [py] at h
      cases q : pyL xs with
      | none => rw [q] at h; cases h
      | some ds => rw [q] at h; cases h; exact .lst (.inl (.inl (e _ _ hh))) (rep_dpL e xs _ ds ⟨l, r⟩ q)
  | .tup xs, v, p, r, h => by
    cases r with
    | tup hh l r =>
      rw [py] at h
      cases q : pyL xs with
      | none => rw [q] at h; cases h
      | some ds => rw [q] at h; cases h; exact .tup (e.seqT hh) (rep_dpL e xs _ ds ⟨l, r⟩ q)
  | .dic _, v, p, r, h => by simp [py] at h
  | .obj _ _, v, p, r, h => by simp [py] at h
  | .src, v, p, r, h => by simp [py] at h
  | .room, v, p, r, h => by simp [py] at h
  | .ptr _, v, p, r, h => by simp [py] at h
  | .scr _, v, p, r, h => by simp [py] at h
theorem rep_dpL {K : PySem.W.Frag} {G : Gh} {H : Hp} (e : Ext G.fr H) : ∀ (ds : List D) (vs : List V) (ps : List PyData), Reps K G vs ds → pyL ds = some ps → DpAll K H vs ps
  | [], vs, ps, r, h => by rw [r.nil_inv]; simp [pyL] at h; subst h; exact .nil
  | d :: ds, vs, ps, r, h => by
    obtain ⟨v, vr, rfl, a, b⟩ := r.cons_inv
    rw [pyL] at h
    cases q1 : py d with
    | none => simp [q1] at h
    | some p1 =>
      cases q2 : pyL ds with
      | none => simp [q1, q2] at h
      | some p2 =>
        simp [q1, q2] at h
        subst h
        exact .cons (rep_dp e d v p1 a q1) (rep_dpL e ds vr p2 b q2)
end
/-- the seen lists too -/
theorem Hold.dpL {K : PySem.W.Frag} {G : Gh} {μ : Mu} {H : Hp} {v : V} {d : D} {xs : List D} {ps : List PyData} (h : Hold K G μ H) (r : Rep K G v d) (e : vw μ d = .lst xs) (q : pyL xs = some ps) : Dp K H v (.list ps) := by
  obtain ⟨a, vs, rfl, h1, h2⟩ := h.lst r e
  exact .lst (.inl (.inl h1)) (rep_dpL h.fr xs vs ps h2 q)
theorem Hold.dpT {K : PySem.W.Frag} {G : Gh} {μ : Mu} {H : Hp} {v : V} {d : D} {xs : List D} {ps : List PyData} (h : Hold K G μ H) (r : Rep K G v d) (e : vw μ d = .tup xs) (q : pyL xs = some ps) : Dp K H v (.tuple ps) := by
  obtain ⟨a, vs, rfl, h1, h2⟩ := h.tup r e
  exact .tup h1 (rep_dpL h.fr xs vs ps h2 q)

section
variable {X : Cx} {pos : Pos}
/-- == : scalars by themselves, lists and tuples as the library's data -/
@[simp] def eqW (neg : Bool) : R2D := fun x y μ Q => match vw μ x, vw μ y with
  | .int i, .int j => Q (.bl (neg ^^ decide (i = j))) μ
  | .str i, .str j => Q (.bl (neg ^^ decide (i = j))) μ
  | .bl i, .bl j => Q (.bl (neg ^^ decide (i = j))) μ
  | .non, .non => Q (.bl (neg ^^ true)) μ
  | .non, .str _ => Q (.bl (neg ^^ false)) μ
  | .str _, .non => Q (.bl (neg ^^ false)) μ
  | .non, .int _ => Q (.bl (neg ^^ false)) μ
  | .int _, .non => Q (.bl (neg ^^ false)) μ
  | .lst xs, .lst ys => ∃ ds es, pyL xs = some ds ∧ pyL ys = some es ∧ SeqAt.shaped (.list ds) = true ∧ SeqAt.shaped (.list es) = true ∧ Q (.bl (neg ^^ PyData.eqvAll ds es)) μ
  | .tup xs, .tup ys => ∃ ds es, pyL xs = some ds ∧ pyL ys = some es ∧ SeqAt.shaped (.tuple ds) = true ∧ SeqAt.shaped (.tuple es) = true ∧ Q (.bl (neg ^^ PyData.eqvAll ds es)) μ
  | _, _ => False
abbrev opEq : R2D := eqW false
abbrev opNe : R2D := eqW true
def rEqA (K : PySem.W.Frag) : R2 := fun x y H Q => rEq x y H Q ∨ rEqD K x y H Q
def rNeA (K : PySem.W.Frag) : R2 := fun x y H Q => rNe x y H Q ∨ rNeD K x y H Q
theorem vw_non' {μ : Mu} {d : D} (h : vw μ d = .non) : d = .non := by
  cases d with
  | ptr a =>
    simp only [vw] at h
    split at h <;> cases h
  | _ => first | exact h | cases h
theorem ref_eq : Ref2 X.K B opEq (rEqA X.K) := by
  intro ρ μ σ H G x y dx dy Q Qn S r1 r2 h hd
  unfold opEq eqW at h
  split at h
  · next e1 e2 => cases vw_int' e1; cases vw_int' e2; cases r1; cases r2; exact .inl ⟨rfl, hd.now S (.bl _) (by simpa using h)⟩
  · next e1 e2 => cases vw_str' e1; cases vw_str' e2; cases r1; cases r2; exact .inl ⟨rfl, hd.now S (.bl _) (by simpa using h)⟩
  · next e1 e2 => cases vw_bl' e1; cases vw_bl' e2; cases r1; cases r2; exact .inl ⟨rfl, hd.now S (.bl _) (by simpa using h)⟩
  · next e1 e2 => cases vw_non' e1; cases vw_non' e2; cases r1; cases r2; exact .inl ⟨rfl, hd.now S (.bl _) (by simpa using h)⟩
  · next e1 e2 => cases vw_non' e1; cases vw_str' e2; cases r1; cases r2; exact .inl ⟨rfl, hd.now S (.bl _) (by simpa using h)⟩
  · next e1 e2 => cases vw_str' e1; cases vw_non' e2; cases r1; cases r2; exact .inl ⟨rfl, hd.now S (.bl _) (by simpa using h)⟩
  · next e1 e2 => cases vw_non' e1; cases vw_int' e2; cases r1; cases r2; exact .inl ⟨rfl, hd.now S (.bl _) (by simpa using h)⟩
  · next e1 e2 => cases vw_int' e1; cases vw_non' e2; cases r1; cases r2; exact .inl ⟨rfl, hd.now S (.bl _) (by simpa using h)⟩
  · next e1 e2 =>
    obtain ⟨ds, es, p1, p2, s1, s2, q⟩ := h
    exact .inr ⟨_, _, S.hold.dpL r1 e1 p1, S.hold.dpL r2 e2 p2, s1, s2, hd.now S (.bl _) (by rw [PyData.eqv]; simpa using q)⟩
  · next e1 e2 =>
    obtain ⟨ds, es, p1, p2, s1, s2, q⟩ := h
    exact .inr ⟨_, _, S.hold.dpT r1 e1 p1, S.hold.dpT r2 e2 p2, s1, s2, hd.now S (.bl _) (by rw [PyData.eqv]; simpa using q)⟩
  · exact h.elim
theorem ref_ne : Ref2 X.K B opNe (rNeA X.K) := by
  intro ρ μ σ H G x y dx dy Q Qn S r1 r2 h hd
  unfold opNe eqW at h
  split at h
  · next e1 e2 => cases vw_int' e1; cases vw_int' e2; cases r1; cases r2; exact .inl ⟨rfl, hd.now S (.bl _) (by simpa using h)⟩
  · next e1 e2 => cases vw_str' e1; cases vw_str' e2; cases r1; cases r2; exact .inl ⟨rfl, hd.now S (.bl _) (by simpa using h)⟩
  · next e1 e2 => cases vw_bl' e1; cases vw_bl' e2; cases r1; cases r2; exact .inl ⟨rfl, hd.now S (.bl _) (by simpa using h)⟩
  · next e1 e2 => cases vw_non' e1; cases vw_non' e2; cases r1; cases r2; exact .inl ⟨rfl, hd.now S (.bl _) (by simpa using h)⟩
  · next e1 e2 => cases vw_non' e1; cases vw_str' e2; cases r1; cases r2; exact .inl ⟨rfl, hd.now S (.bl _) (by simpa using h)⟩
  · next e1 e2 => cases vw_str' e1; cases vw_non' e2; cases r1; cases r2; exact .inl ⟨rfl, hd.now S (.bl _) (by simpa using h)⟩
  · next e1 e2 => cases vw_non' e1; cases vw_int' e2; cases r1; cases r2; exact .inl ⟨rfl, hd.now S (.bl _) (by simpa using h)⟩
  · next e1 e2 => cases vw_int' e1; cases vw_non' e2; cases r1; cases r2; exact .inl ⟨rfl, hd.now S (.bl _) (by simpa using h)⟩
  · next e1 e2 =>
    obtain ⟨ds, es, p1, p2, s1, s2, q⟩ := h
    exact .inr ⟨_, _, S.hold.dpL r1 e1 p1, S.hold.dpL r2 e2 p2, s1, s2, hd.now S (.bl _) (by rw [PyData.eqv]; simpa using q)⟩
  · next e1 e2 =>
    obtain ⟨ds, es, p1, p2, s1, s2, q⟩ := h
    exact .inr ⟨_, _, S.hold.dpT r1 e1 p1, S.hold.dpT r2 e2 p2, s1, s2, hd.now S (.bl _) (by rw [PyData.eqv]; simpa using q)⟩
  · exact h.elim
/-- hr: the call's room -/
theorem do_eq {k : Nat} (hr : Room k X.A) : OpR X (compareOp .Eq) (rEqA X.K) ∧ Ref2 X.K B opEq (rEqA X.K) := ⟨op_eq.or (op_eqD hr.units), ref_eq⟩
theorem do_ne {k : Nat} (hr : Room k X.A) : OpR X (compareOp .NotEq) (rNeA X.K) ∧ Ref2 X.K B opNe (rNeA X.K) := ⟨op_ne.or (op_neD hr.units), ref_ne⟩

/-! is None -/
@[simp] def isNonD : D → Bool
  | .non => true
  | _ => false
@[simp] def opIs (neg : Bool) : R2D := fun x y μ Q => match y with
  | .non => Q (.bl (neg ^^ isNonD x)) μ
  | _ => False
theorem rep_non {K : PySem.W.Frag} {G : Gh} {v : V} {d : D} (r : Rep K G v d) : decide (v = .non) = isNonD d := by
  cases r <;> simp [isNonD]
theorem do_is : OpR X (compareOp .Is) (fun x y H Q => y = .non ∧ Q (.bl (decide (x = .non))) H) ∧ Ref2 X.K B (opIs false) (fun x y H Q => y = .non ∧ Q (.bl (decide (x = .non))) H) := by
  refine ⟨op_isN, ?_⟩
  intro ρ μ σ H G x y dx dy Q Qn S r1 r2 h hd
  cases dy with
  | non =>
    refine ⟨r2.ofNon, ?_⟩
    rw [rep_non r1]
    have h' : Q (.bl (false ^^ isNonD dx)) μ := h
    exact hd.now S (.bl _) (by simpa using h')
  | _ => exact False.elim h
theorem do_isnot : OpR X (compareOp .IsNot) (fun x y H Q => y = .non ∧ Q (.bl (!decide (x = .non))) H) ∧ Ref2 X.K B (opIs true) (fun x y H Q => y = .non ∧ Q (.bl (!decide (x = .non))) H) := by
  refine ⟨op_notN, ?_⟩
  intro ρ μ σ H G x y dx dy Q Qn S r1 r2 h hd
  cases dy with
  | non =>
    refine ⟨r2.ofNon, ?_⟩
    rw [rep_non r1]
    have h' : Q (.bl (true ^^ isNonD dx)) μ := h
    exact hd.now S (.bl _) (by simpa using h')
  | _ => exact False.elim h

/-! in -/
def strsOf : List D → Option (List Str)
  | [] => some []
  | .str s :: r => (strsOf r).map (s :: ·)
  | _ :: _ => none
@[simp] theorem strsOf_nil : strsOf [] = some [] := rfl
@[simp] theorem strsOf_cons (s : Str) (r : List D) : strsOf (.str s :: r) = (strsOf r).map (s :: ·) := rfl
@[simp] theorem strsOf_map (ss : List Str) : strsOf (ss.map .str) = some ss := by
  induction ss with
  | nil => rfl
  | cons s r ih => rw [List.map_cons, strsOf, ih]; rfl
theorem strsOf_eq : ∀ {xs : List D} {ss : List Str}, strsOf xs = some ss → xs = ss.map .str
  | [], ss, h => by cases h; rfl
  | x :: r, ss, h => by
    cases x with
    | str s =>
      rw [strsOf] at h
      cases q : strsOf r with
      | none => rw [q] at h; cases h
      | some t => rw [q] at h; cases h; rw [strsOf_eq q]; rfl
    | _ => cases h
def intsOf : List D → Option (List Int)
  | [] => some []
  | .int s :: r => (intsOf r).map (s :: ·)
  | _ :: _ => none
@[simp] theorem intsOf_nil : intsOf [] = some [] := rfl
@[simp] theorem intsOf_cons (s : Int) (r : List D) : intsOf (.int s :: r) = (intsOf r).map (s :: ·) := rfl
@[simp] theorem intsOf_map (ss : List Int) : intsOf (ss.map .int) = some ss := by
  induction ss with
  | nil => rfl
  | cons s r ih => rw [List.map_cons, intsOf, ih]; rfl
theorem intsOf_eq : ∀ {xs : List D} {ss : List Int}, intsOf xs = some ss → xs = ss.map .int
  | [], ss, h => by cases h; rfl
  | x :: r, ss, h => by
    cases x with
    | int s =>
      rw [intsOf] at h
      cases q : intsOf r with
      | none => rw [q] at h; cases h
      | some t => rw [q] at h; cases h; rw [intsOf_eq q]; rfl
    | _ => cases h
theorem Reps.strs {K : PySem.W.Frag} {G : Gh} : ∀ {ss : List Str} {vs : List V}, Reps K G vs (ss.map .str) → vs = ss.map .str
  | [], vs, h => h.nil_inv
  | s :: r, vs, h => by
    obtain ⟨v, vr, rfl, a, b⟩ := h.cons_inv
    rw [a.ofStr, Reps.strs b]; rfl
theorem Reps.ofStrs {K : PySem.W.Frag} {G : Gh} : ∀ (ss : List Str), Reps K G (ss.map V.str) (ss.map D.str)
  | [] => Reps.nil
  | s :: r => Reps.cons (.str s) (Reps.ofStrs r)
theorem Reps.ints {K : PySem.W.Frag} {G : Gh} : ∀ {ss : List Int} {vs : List V}, Reps K G vs (ss.map .int) → vs = ss.map .int
  | [], vs, h => h.nil_inv
  | s :: r, vs, h => by
    obtain ⟨v, vr, rfl, a, b⟩ := h.cons_inv
    rw [a.ofInt, Reps.ints b]; rfl
theorem Reps.ofInts {K : PySem.W.Frag} {G : Gh} : ∀ (ss : List Int), Reps K G (ss.map V.int) (ss.map D.int)
  | [] => Reps.nil
  | s :: r => Reps.cons (.int s) (Reps.ofInts r)
theorem inV_strs (s : Str) (ss : List Str) : inV (.str s) (ss.map .str) = decide (s ∈ ss) := by
  unfold inV
  rw [List.any_map]
  induction ss with
  | nil => rfl
  | cons t r ih =>
    rw [List.any_cons, ih]
    have : (fun y => eqV y (V.str s)) (V.str t) = (t == s) := rfl
    simp only [Function.comp, this]
    by_cases h : t = s
    · subst h; simp
    · have h' : ¬ s = t := fun e => h e.symm
      simp [h, h']
theorem inV_ints (s : Int) (ss : List Int) : inV (.int s) (ss.map .int) = decide (s ∈ ss) := by
  unfold inV
  rw [List.any_map]
  induction ss with
  | nil => rfl
  | cons t r ih =>
    rw [List.any_cons, ih]
    have : (fun y => eqV y (V.int s)) (V.int t) = (t == s) := rfl
    simp only [Function.comp, this]
    by_cases h : t = s
    · subst h; simp
    · have h' : ¬ s = t := fun e => h e.symm
      simp [h, h']
theorem flat_strs (ss : List Str) : (ss.map V.str).all flatV = true := by
  induction ss with
  | nil => rfl
  | cons t r ih => simpa [flatV] using ih
theorem flat_ints (ss : List Int) : (ss.map V.int).all flatV = true := by
  induction ss with
  | nil => rfl
  | cons t r ih => simpa [flatV] using ih
/-- in a list or tuple of texts, of ints; one sign in a text -/
@[simp] def inSeq (neg : Bool) (x : D) (xs : List D) (μ : Mu) (Q : QD) : Prop := match x with
  | .str s => ∃ ss, strsOf xs = some ss ∧ Q (.bl (neg ^^ decide (s ∈ ss))) μ
  | .int s => ∃ ss, intsOf xs = some ss ∧ Q (.bl (neg ^^ decide (s ∈ ss))) μ
  | _ => False
@[simp] def inW (neg : Bool) : R2D := fun x y μ Q => match vw μ y with
  | .lst xs => inSeq neg x xs μ Q
  | .tup xs => inSeq neg x xs μ Q
  | .str t => match x with
    | .str s => ∃ c, s = mk [c] ∧ Q (.bl (neg ^^ decide (c ∈ t.cps.toList))) μ
    | _ => False
  | _ => False
abbrev opIn : R2D := inW false
abbrev opNin : R2D := inW true
def rInSeq (K : PySem.W.Frag) (neg : Bool) : R2 := fun x y H Q => rIn K neg x y H Q ∨ (∃ (c : Nat) (z : Str), x = .str ⟨#[c]⟩ ∧ y = .str z ∧ Q (.bl (neg ^^ decide (c ∈ z.cps.toList))) H)
theorem inSeq_go {K : PySem.W.Frag} {neg : Bool} {x : V} {dx : D} {xs : List D} {vs : List V} {μ : Mu} {Q : QD} {ρ : DR} {σ : St} {H : Hp} {G : Gh} {Qn : VK} (h : inSeq neg dx xs μ Q) (S : Sat K B G ρ μ σ H) (r1 : Rep K G x dx) (r : Reps K G vs xs) (hd : Hand K B G ρ σ Q Qn) : flatV x = true ∧ vs.all flatV = true ∧ Qn (.bl (if neg then !inV x vs else inV x vs)) H := by
  cases dx with
  | str s =>
    obtain ⟨ss, e, q⟩ := h
    have e' := strsOf_eq e
    subst e'
    have ev := r.strs
    subst ev
    cases r1
    refine ⟨rfl, flat_strs ss, ?_⟩
    rw [inV_strs]
    cases neg <;> exact hd.now S (.bl _) (by simpa using q)
  | int s =>
    obtain ⟨ss, e, q⟩ := h
    have e' := intsOf_eq e
    subst e'
    have ev := r.ints
    subst ev
    cases r1
    refine ⟨rfl, flat_ints ss, ?_⟩
    rw [inV_ints]
    cases neg <;> exact hd.now S (.bl _) (by simpa using q)
  | _ => exact False.elim h
theorem ref_inW (neg : Bool) : Ref2 X.K B (inW neg) (rInSeq X.K neg) := by
  intro ρ μ σ H G x y dx dy Q Qn S r1 r2 h hd
  unfold inW at h
  split at h
  · next e =>
    obtain ⟨p, vs, rfl, h1, q1⟩ := S.hold.lst r2 e
    obtain ⟨f1, f2, q⟩ := inSeq_go h S r1 q1 hd
    exact .inl ⟨p, vs, rfl, .inl (SqL.of h1), f1, f2, q⟩
  · next e =>
    obtain ⟨p, vs, rfl, h1, q1⟩ := S.hold.tup r2 e
    obtain ⟨f1, f2, q⟩ := inSeq_go h S r1 q1 hd
    exact .inl ⟨p, vs, rfl, .inr h1, f1, f2, q⟩
  · next t e =>
    cases vw_str' e
    cases dx with
    | str s =>
      obtain ⟨c, rfl, q⟩ := h
      cases r1; cases r2
      exact .inr ⟨c, t, rfl, rfl, hd.now S (.bl _) q⟩
    | _ => exact False.elim h
  · exact h.elim
theorem do_in : OpR X (compareOp .In) (rInSeq X.K false) ∧ Ref2 X.K B opIn (rInSeq X.K false) := ⟨(op_in_seq).or (by simpa using op_in_sign), ref_inW false⟩
theorem do_nin : OpR X (compareOp .NotIn) (rInSeq X.K true) ∧ Ref2 X.K B opNin (rInSeq X.K true) := ⟨(op_notIn_seq).or (by simpa using op_notIn_sign), ref_inW true⟩

/-! ### items and slices -/
@[simp] def opIx : R2D := fun x y μ Q => match vw μ x, y with
  | .lst xs, .int i => ∃ d, atI xs i = some d ∧ Q d μ
  | .tup xs, .int i => ∃ d, atI xs i = some d ∧ Q d μ
  | .str s, .int i => s.length ≤ sizeLine ∧ ∃ c, atI s.cps.toList i = some c ∧ Q (.str (mk [c])) μ
  | _, _ => False
theorem atI_reps {K : PySem.W.Frag} {G : Gh} {vs : List V} {xs : List D} (r : Reps K G vs xs) {i : Int} {d : D} (h : atI xs i = some d) : ∃ v, atI vs i = some v ∧ Rep K G v d := by
  unfold atI at *
  rw [r.1]
  cases q : ixN xs.length i with
  | none => rw [q] at h; cases h
  | some j =>
    rw [q] at h
    obtain ⟨v, a, b⟩ := r.get (show xs[j]? = some d from h)
    exact ⟨v, a, b⟩
theorem ref_ix : Ref2 X.K B opIx (rIx X.K) := by
  intro ρ μ σ H G x y dx dy Q Qn S r1 r2 h hd
  unfold opIx at h
  split at h
  · next i e =>
    cases r2
    obtain ⟨d, a, q⟩ := h
    obtain ⟨p, vs, rfl, h1, q1⟩ := S.hold.lst r1 e
    obtain ⟨v, a', rv⟩ := atI_reps q1 a
    exact .inl ⟨p, vs, i, v, rfl, rfl, SqL.of h1, a', hd.now S rv q⟩
  · next i e =>
    cases r2
    obtain ⟨d, a, q⟩ := h
    obtain ⟨p, vs, rfl, h1, q1⟩ := S.hold.tup r1 e
    obtain ⟨v, a', rv⟩ := atI_reps q1 a
    exact .inr (.inl ⟨p, vs, i, v, rfl, rfl, h1, a', hd.now S rv q⟩)
  · next s i e =>
    cases r2
    cases vw_str' e
    cases r1
    obtain ⟨l, c, a, q⟩ := h
    exact .inr (.inr ⟨s, i, c, rfl, rfl, l, a, hd.now S (.str _) q⟩)
  · exact h.elim
variable {a b : Expr} {ta tb : TE} {Ta Tb : TDE}
theorem de_ix (ha : DE X B a ta Ta) (hb : DE X B b tb Tb) (hs : PlainIx b := by exact fun _ _ => rfl) : DE X B (.Subscript a b pos) (tOp (rIx X.K) ta tb) (dOp opIx Ta Tb) := ⟨pe_ix ix_seq ha.pe hb.pe hs, ref_op ref_ix ha.ref hb.ref⟩

def cutD {α : Type} (xs : List α) (lo hi : Option Int) : List α := (xs.drop (HT.sIx xs.length 0 lo)).take (HT.sIx xs.length xs.length hi - HT.sIx xs.length 0 lo)
theorem Reps.cut {K : PySem.W.Frag} {G : Gh} {vs : List V} {xs : List D} (r : Reps K G vs xs) (lo hi : Option Int) : Reps K G (cutV vs lo hi) (cutD xs lo hi) := by
  unfold cutV cutD
  rw [r.1]
  exact (r.drop _).take _
@[simp] theorem cutS_mk (l : List Nat) (lo hi : Option Int) : cutS (mk l) lo hi = mk (cutD l lo hi) := by
  unfold cutS cutD
  simp only [mk_cps, mk_length]
  rfl
abbrev TDO := DR → Mu → (Option Int → Mu → Prop) → Prop
def RefO (K : PySem.W.Frag) (B : Gh) (T : TDO) (t : TO) : Prop := ∀ ρ μ σ H G Q (Qn : Option Int → Hp → Prop), Sat K B G ρ μ σ H → T ρ μ Q → (∀ o μ' H' G', Gle G G' → Sat K B G' ρ μ' σ H' → Q o μ' → Qn o H') → t σ H Qn
structure DO (X : Cx) (B : Gh) (e : Option Expr) (t : TO) (T : TDO) : Prop where
  po : PO X e t
  ref : RefO X.K B T t
@[simp] def dNoPart : TDO := fun _ μ Q => Q none μ
@[simp] def dPart (T : TDE) : TDO := fun ρ μ Q => T ρ μ fun d μ1 => match d with | .int i => Q (some i) μ1 | _ => False
theorem do_none : DO X B none tNoPart dNoPart := ⟨po_none, fun ρ μ σ H G Q Qn S h hd => hd none μ H G (Gle.refl G) S h⟩
theorem do_some {e : Expr} {te : TE} {T : TDE} (h : DE X B e te T) : DO X B (some e) (tPart te) (dPart T) := ⟨po_some h.pe, fun ρ μ σ H G Q Qn S q hd => h.ref ρ μ σ H G _ _ S q fun d μ1 v H1 G1 g1 S1 r1 q1 => by
  cases d with
  | int i => exact ⟨i, r1.ofInt, hd (some i) μ1 H1 G1 g1 S1 q1⟩
  | _ => exact False.elim q1⟩
/-- a slice: of a list (c: a cell), of a tuple, of a text -/
@[simp] def slW (c : Bool) (x : D) (lo hi : Option Int) (μ : Mu) (Q : QD) : Prop := match vw μ x with
  | .lst xs => mkL c (cutD xs lo hi) μ Q
  | .str s => s.length ≤ sizeLine ∧ Q (.str (cutS s lo hi)) μ
  | _ => False
@[simp] def dSl (c : Bool) (T : TDE) (Tl Th : TDO) : TDE := fun ρ μ Q => T ρ μ fun x μ1 => Tl ρ μ1 fun l μ2 => Th ρ μ2 fun u μ3 => slW c x l u μ3 Q
def rSlA (K : PySem.W.Frag) : V → Option Int → Option Int → Hp → VK → Prop := fun x lo hi H Q => rSlL K x lo hi H Q ∨ rSlS x lo hi H Q
theorem de_sl (c : Bool) {e : Expr} {lo hi : Option Expr} {p2 : Pos} {te : TE} {tl th : TO} {T : TDE} {Tl Th : TDO} (he : DE X B e te T) (hl : DO X B lo tl Tl) (hu : DO X B hi th Th) : DE X B (.Subscript e (.Slice lo hi none p2) pos) (tSl (rSlA X.K) te tl th) (dSl c T Tl Th) :=
  ⟨pe_slice (sl_list.or sl_str) he.pe hl.po hu.po, fun ρ μ σ H G Q Qn S h hd => he.ref ρ μ σ H G _ _ S h fun d μ1 v H1 G1 g1 S1 r1 q1 =>
    hl.ref ρ μ1 σ H1 G1 _ _ S1 q1 fun l μ2 H2 G2 g2 S2 q2 => hu.ref ρ μ2 σ H2 G2 _ _ S2 q2 fun u μ3 H3 G3 g3 S3 q3 => by
      have r3 := (r1.mono g2).mono g3
      have hd3 := hd.mono ((g1.trans g2).trans g3)
      unfold slW at q3
      split at q3
      · next e =>
        obtain ⟨p, vs, rfl, h1, rr⟩ := S3.hold.lst r3 e
        exact .inl ⟨p, vs, rfl, SqL.of h1, fun q n => mkL_go q3 S3 (rr.cut l u) hd3 n⟩
      · next s e =>
        cases vw_str' e
        cases r3
        exact .inr ⟨s, rfl, q3.1, hd3.now S3 (.str _) q3.2⟩
      · exact q3.elim⟩
end
end DL

/-! DL3: built-in calls, methods, tests, boolean words. -/
namespace DL
open PySem PySem.Spec PyProof.Rows L2
section
variable {X : Cx} {pos : Pos}

/-! ### calls of built-ins -/
abbrev RCD := List D → Mu → QD → Prop
def RefC (K : PySem.W.Frag) (B : Gh) (R : RCD) (r : List V → Hp → VK → Prop) : Prop := ∀ ρ μ σ H G vs ds Q (Qn : VK), Sat K B G ρ μ σ H → Reps K G vs ds → R ds μ Q → Hand K B G ρ σ Q Qn → r vs H Qn
@[simp] def dCB (R : RCD) (T : TDA) : TDE := fun ρ μ Q => T ρ μ fun ds μ1 => R ds μ1 Q
theorem ref_CB {K : PySem.W.Frag} {R : RCD} {r : List V → Hp → VK → Prop} {t : TA} {T : TDA} (hr : RefC K B R r) (h : RefA K B T t) : RefE K B (dCB R T) (tCB r t) :=
  fun ρ μ σ H G Q Qn S q hd => h ρ μ σ H G _ _ S q fun ds μ1 vs H1 G1 g1 S1 r1 q1 => hr ρ μ1 σ H1 G1 vs ds Q Qn S1 r1 q1 (hd.mono g1)
theorem de_callB {x : Str} {id : String} {r : List V → Hp → VK → Prop} {R : RCD} {e : Expr} {es : List Expr} {t : TA} {T : TDA} {p : Pos} (hc : CallR X (.builtin id) r ∧ RefC X.K B R r) (hg : Gl X x) (hm : X.mg x = none) (hv : bootBuiltins x = some (.builtin id)) (ha : DA X B (e :: es) t T) (hn : x ≠ "__name__" := by decide) (hdb : (x == ("__debug__" : Str)) = false := by decide)
    (h1 : starEach (e :: es) X.env = (false, eval e X.env) :: starEach es X.env := by rfl) (h2 : (backTo pos (starEach es X.env)).any (·.1) = false := by rfl) :
    DE X B (.Call (.Name x p) (e :: es) [] pos) (tCB r t) (dCB R T) := ⟨pe_callB hc.1 hg hm hv ha.pa hn hdb h1 h2, ref_CB hc.2 ha.ref⟩
theorem de_callTy {x : Str} {Ty : String} {r : List V → Hp → VK → Prop} {R : RCD} {e : Expr} {es : List Expr} {t : TA} {T : TDA} {p : Pos} (hc : CallR X (.type Ty) r ∧ RefC X.K B R r) (hg : Gl X x) (hm : X.mg x = none) (hv : bootBuiltins x = some (.type Ty)) (ha : DA X B (e :: es) t T) (hn : x ≠ "__name__" := by decide) (hdb : (x == ("__debug__" : Str)) = false := by decide)
    (h1 : starEach (e :: es) X.env = (false, eval e X.env) :: starEach es X.env := by rfl) (h2 : (backTo pos (starEach es X.env)).any (·.1) = false := by rfl) :
    DE X B (.Call (.Name x p) (e :: es) [] pos) (tCB r t) (dCB R T) := ⟨pe_callTy hc.1 hg hm hv ha.pa hn hdb h1 h2, ref_CB hc.2 ha.ref⟩

/-- len -/
def lenD (d : D) : Option Nat := match d with
  | .lst xs => some xs.length
  | .tup xs => some xs.length
  | .str s => if s.length ≤ sizeLine then some s.length else none
  | .dic kvs => some kvs.length
  | _ => none
@[simp] def cLen : RCD := fun ds μ Q => match ds with
  | [x] => match vw μ x with
    | .lst xs => Q (.int xs.length) μ
    | .tup xs => Q (.int xs.length) μ
    | .str s => s.length ≤ sizeLine ∧ Q (.int s.length) μ
    | .scr ns => Q (.int ns.length) μ
    | _ => False
  | _ => False
theorem vw_scr' {μ : Mu} {d : D} {i : List Int} (h : vw μ d = .scr i) : d = .scr i := by
  cases d with
  | ptr a =>
    simp only [vw] at h
    split at h <;> cases h
  | _ => first | exact h | cases h
theorem reps1 {K : PySem.W.Frag} {G : Gh} {vs : List V} {d : D} (r : Reps K G vs [d]) : ∃ v, vs = [v] ∧ Rep K G v d := by
  obtain ⟨v, w, rfl, a, b⟩ := r.cons_inv
  rw [b.nil_inv]; exact ⟨v, rfl, a⟩
theorem reps2 {K : PySem.W.Frag} {G : Gh} {vs : List V} {d e : D} (r : Reps K G vs [d, e]) : ∃ v w, vs = [v, w] ∧ Rep K G v d ∧ Rep K G w e := by
  obtain ⟨v, w, rfl, a, b⟩ := r.cons_inv
  obtain ⟨w2, rfl, b2⟩ := reps1 b; exact ⟨v, w2, rfl, a, b2⟩
theorem reps3 {K : PySem.W.Frag} {G : Gh} {vs : List V} {d e f : D} (r : Reps K G vs [d, e, f]) : ∃ v w z, vs = [v, w, z] ∧ Rep K G v d ∧ Rep K G w e ∧ Rep K G z f := by
  obtain ⟨v, w, rfl, a, b⟩ := r.cons_inv
  obtain ⟨w2, z, rfl, b2, c⟩ := reps2 b; exact ⟨v, w2, z, rfl, a, b2, c⟩
theorem dc_len : CallR X (.builtin "len") (fun xs H Q => ∃ x n, xs = [x] ∧ LenV X.K x H n ∧ Q (.int n) H) ∧ RefC X.K B cLen (fun xs H Q => ∃ x n, xs = [x] ∧ LenV X.K x H n ∧ Q (.int n) H) := by
  refine ⟨call_len, ?_⟩
  intro ρ μ σ H G vs ds Q Qn S r h hd
  unfold cLen at h
  split at h
  · next x =>
    obtain ⟨v, rfl, rv⟩ := reps1 r
    split at h
    · next e =>
      obtain ⟨a, ws, rfl, h1, q⟩ := S.hold.lst rv e
      refine ⟨.ref a, ws.length, rfl, .inl ⟨ws, SqL.of h1, rfl⟩, ?_⟩
      rw [q.1]; exact hd.now S (.int _) h
    · next e =>
      obtain ⟨a, ws, rfl, h1, q⟩ := S.hold.tup rv e
      refine ⟨.ref a, ws.length, rfl, .inr ⟨ws, h1, rfl⟩, ?_⟩
      rw [q.1]; exact hd.now S (.int _) h
    · next s e =>
      cases vw_str' e
      cases rv
      exact ⟨.str s, s.length, rfl, ⟨h.1, rfl⟩, hd.now S (.int _) h.2⟩
    · next ns e =>
      cases vw_scr' e
      cases rv with
      | scr hh => exact ⟨_, ns.length, rfl, .inl ⟨_, S.hold.fr.seqL hh, by simp⟩, hd.now S (.int _) h⟩
    · exact h.elim
  · exact h.elim
/-- list(x) of a list or tuple (c: a cell) -/
@[simp] def cList (c : Bool) : RCD := fun ds μ Q => match ds with
  | [x] => match vw μ x with
    | .lst xs => mkL c xs μ Q
    | .tup xs => mkL c xs μ Q
    | .scr ns => mkL c (ns.map .int) μ Q
    | _ => False
  | _ => False
theorem dc_list (c : Bool) : CallR X (.type "list") (fun xs H Q => ∃ p ys, xs = [.ref p] ∧ (SqL X.K H p ys ∨ SqT X.K H p ys) ∧ ∀ l, H l = none → Q (.ref l) (upd H l (.lst ys))) ∧
    RefC X.K B (cList c) (fun xs H Q => ∃ p ys, xs = [.ref p] ∧ (SqL X.K H p ys ∨ SqT X.K H p ys) ∧ ∀ l, H l = none → Q (.ref l) (upd H l (.lst ys))) := by
  refine ⟨call_list_of, ?_⟩
  intro ρ μ σ H G vs ds Q Qn S r h hd
  unfold cList at h
  split at h
  · obtain ⟨v, rfl, rv⟩ := reps1 r
    split at h
    · next e =>
      obtain ⟨a, ws, rfl, h1, q⟩ := S.hold.lst rv e
      exact ⟨a, ws, rfl, .inl (SqL.of h1), fun l n => mkL_go h S q hd n⟩
    · next e =>
      obtain ⟨a, ws, rfl, h1, q⟩ := S.hold.tup rv e
      exact ⟨a, ws, rfl, .inr h1, fun l n => mkL_go h S q hd n⟩
    · next ns e =>
      cases vw_scr' e
      cases rv with
      | scr hh => exact ⟨_, _, rfl, .inl (S.hold.fr.seqL hh), fun l n => mkL_go h S (Reps.ofInts ns) hd n⟩
    · exact h.elim
  · exact h.elim
/-- int(n) -/
@[simp] def cInt : RCD := fun ds μ Q => match ds with
  | [.int i] => Q (.int i) μ
  | [.bl b] => Q (.int (if b then 1 else 0)) μ
  | _ => False
theorem dc_int : CallR X (.type "int") (fun xs H Q => (∃ i, xs = [.int i] ∧ Q (.int i) H) ∨ ∃ k, xs = [.bl k] ∧ Q (.int (if k then 1 else 0)) H) ∧ RefC X.K B cInt (fun xs H Q => (∃ i, xs = [.int i] ∧ Q (.int i) H) ∨ ∃ k, xs = [.bl k] ∧ Q (.int (if k then 1 else 0)) H) := by
  refine ⟨call_int1, ?_⟩
  intro ρ μ σ H G vs ds Q Qn S r h hd
  unfold cInt at h
  split at h
  · next i =>
    obtain ⟨v, rfl, rv⟩ := reps1 r
    cases rv; exact .inl ⟨i, rfl, hd.now S (.int _) h⟩
  · next b =>
    obtain ⟨v, rfl, rv⟩ := reps1 r
    cases rv; exact .inr ⟨b, rfl, hd.now S (.int _) h⟩
  · exact h.elim
/-- min, max of two ints -/
@[simp] def cMin2 : RCD := fun ds μ Q => match ds with
  | [.int i, .int j] => Q (.int (if j < i then j else i)) μ
  | _ => False
@[simp] def cMax2 : RCD := fun ds μ Q => match ds with
  | [.int i, .int j] => Q (.int (if j > i then j else i)) μ
  | _ => False
theorem dc_min2 (hc : X.calm = true) : CallR X (.builtin "min") (fun xs H Q => ∃ i j, xs = [.int i, .int j] ∧ Q (.int (if j < i then j else i)) H) ∧ RefC X.K B cMin2 (fun xs H Q => ∃ i j, xs = [.int i, .int j] ∧ Q (.int (if j < i then j else i)) H) := by
  refine ⟨call_min2 hc, ?_⟩
  intro ρ μ σ H G vs ds Q Qn S r h hd
  unfold cMin2 at h
  split at h
  · next i j =>
    obtain ⟨v, w, rfl, rv, rw'⟩ := reps2 r
    cases rv; cases rw'; exact ⟨i, j, rfl, hd.now S (.int _) h⟩
  · exact h.elim
theorem dc_max2 (hc : X.calm = true) : CallR X (.builtin "max") (fun xs H Q => ∃ i j, xs = [.int i, .int j] ∧ Q (.int (if j > i then j else i)) H) ∧ RefC X.K B cMax2 (fun xs H Q => ∃ i j, xs = [.int i, .int j] ∧ Q (.int (if j > i then j else i)) H) := by
  refine ⟨call_max2 hc, ?_⟩
  intro ρ μ σ H G vs ds Q Qn S r h hd
  unfold cMax2 at h
  split at h
  · next i j =>
    obtain ⟨v, w, rfl, rv, rw'⟩ := reps2 r
    cases rv; cases rw'; exact ⟨i, j, rfl, hd.now S (.int _) h⟩
  · exact h.elim
/-- all, any of a list of bools -/
def blsOf : List D → Option (List Bool)
  | [] => some []
  | .bl s :: r => (blsOf r).map (s :: ·)
  | _ :: _ => none
@[simp] theorem blsOf_nil : blsOf [] = some [] := rfl
@[simp] theorem blsOf_cons (s : Bool) (r : List D) : blsOf (.bl s :: r) = (blsOf r).map (s :: ·) := rfl
@[simp] theorem blsOf_map (ss : List Bool) : blsOf (ss.map .bl) = some ss := by
  induction ss with
  | nil => rfl
  | cons s r ih => rw [List.map_cons, blsOf, ih]; rfl
theorem blsOf_eq : ∀ {xs : List D} {ss : List Bool}, blsOf xs = some ss → xs = ss.map .bl
  | [], ss, h => by cases h; rfl
  | x :: r, ss, h => by
    cases x with
    | bl s =>
      rw [blsOf] at h
      cases q : blsOf r with
      | none => rw [q] at h; cases h
      | some t => rw [q] at h; cases h; rw [blsOf_eq q]; rfl
    | _ => cases h
theorem Reps.bls {K : PySem.W.Frag} {G : Gh} : ∀ {ss : List Bool} {vs : List V}, Reps K G vs (ss.map .bl) → vs = ss.map .bl
  | [], vs, h => h.nil_inv
  | s :: r, vs, h => by
    obtain ⟨v, vr, rfl, a, b⟩ := h.cons_inv
    rw [a.ofBl, Reps.bls b]; rfl
@[simp] def cAll : RCD := fun ds μ Q => match ds with
  | [x] => ∃ xs bs, vw μ x = .lst xs ∧ blsOf xs = some bs ∧ Q (.bl (bs.all id)) μ
  | _ => False
@[simp] def cAny : RCD := fun ds μ Q => match ds with
  | [x] => ∃ xs bs, vw μ x = .lst xs ∧ blsOf xs = some bs ∧ Q (.bl (bs.any id)) μ
  | _ => False
theorem dc_all (hc : X.calm = true) : CallR X (.builtin "all") (rAll X.K) ∧ RefC X.K B cAll (rAll X.K) := by
  refine ⟨cr_all hc, ?_⟩
  intro ρ μ σ H G vs ds Q Qn S r h hd
  unfold cAll at h
  split at h
  · obtain ⟨v, rfl, rv⟩ := reps1 r
    obtain ⟨xs, bs, e, eb, q⟩ := h
    obtain ⟨a, ws, rfl, h1, qq⟩ := S.hold.lst rv e
    rw [blsOf_eq eb] at qq
    have := qq.bls
    subst this
    exact ⟨a, bs, rfl, SqL.of h1, hd.now S (.bl _) q⟩
  · exact h.elim
theorem dc_any (hc : X.calm = true) : CallR X (.builtin "any") (rAny X.K) ∧ RefC X.K B cAny (rAny X.K) := by
  refine ⟨cr_any hc, ?_⟩
  intro ρ μ σ H G vs ds Q Qn S r h hd
  unfold cAny at h
  split at h
  · obtain ⟨v, rfl, rv⟩ := reps1 r
    obtain ⟨xs, bs, e, eb, q⟩ := h
    obtain ⟨a, ws, rfl, h1, qq⟩ := S.hold.lst rv e
    rw [blsOf_eq eb] at qq
    have := qq.bls
    subst this
    exact ⟨a, bs, rfl, SqL.of h1, hd.now S (.bl _) q⟩
  · exact h.elim
/-- isinstance(x, T), T a built-in type -/
@[simp] def tyN : D → Option String
  | .non => some "NoneType" | .bl _ => some "bool" | .int _ => some "int" | .str _ => some "str" | .lst _ => some "list" | .tup _ => some "tuple" | .dic _ => some "dict" | _ => none
def cIsi (T : String) : RCD := fun ds μ Q => match ds with
  | [x, .ptr _] => ∃ n, tyN (vw μ x) = some n ∧ ∃ b, kitB n T = some b ∧ Q (.bl b) μ
  | _ => False

/-! ### methods -/
abbrev RMD := D → List D → Mu → QD → Prop
def RefM (K : PySem.W.Frag) (B : Gh) (T : String) (R : RMD) (r : V → List V → Hp → VK → Prop) : Prop := ∀ ρ μ σ H G x dx vs ds Q (Qn : VK), Sat K B G ρ μ σ H → Rep K G x dx → Reps K G vs ds → R dx ds μ Q → Hand K B G ρ σ Q Qn → r x vs H Qn
@[simp] def isTyD (T : String) (d : D) : Prop := match d with
  | .lst _ => T = "list" | .str _ => T = "str" | _ => False
@[simp] def dBM (T : String) (R : RMD) (To : TDE) (Ta : TDA) : TDE := fun ρ μ Q => To ρ μ fun x μ1 => isTyD T (vw μ1 x) ∧ Ta ρ μ1 fun ds μ2 => R x ds μ2 Q
theorem tyV_go {K : PySem.W.Frag} {T : String} {x : V} {dx : D} {μ : Mu} {H : Hp} {G : Gh} (h : isTyD T (vw μ dx)) (S : Hold K G μ H) (r : Rep K G x dx) : tyV K T x H := by
  cases e : vw μ dx with
  | lst xs =>
    rw [e] at h
    have h' : T = "list" := h
    subst h'
    obtain ⟨a, vs, rfl, h1, _⟩ := S.lst r e
    exact .inl ⟨rfl, _, SqL.of h1⟩
  | str s =>
    rw [e] at h
    have h' : T = "str" := h
    subst h'
    cases vw_str' e
    cases r
    rfl
  | _ => rw [e] at h; exact False.elim h
theorem de_bm {T id : String} {name : Str} {o e : Expr} {es : List Expr} {to : TE} {t : TA} {To : TDE} {Ta : TDA} {apos cpos : Pos} {r : V → List V → Hp → VK → Prop} {R : RMD} (pa : PlainAttrs T) (slot : Slot T name id) (hty : typeOf (.builtin id) = pure (.type "method_descriptor")) (hm : MtR X id r ∧ RefM X.K B T R r) (ho : DE X B o to To) (ha : DA X B (e :: es) t Ta)
    (hbase : attributeBase o name X.env (eval o X.env) = eval o X.env := by rfl)
    (hfew : ((backTo cpos (starEach (e :: es) X.env)).all (fun x => !x.1) && (backToKw cpos (keywordEach [] X.env)).all (fun x => x.1.isSome)
      && decide ((e :: es).length + ([] : List Keyword).length + (if ([] : List Keyword).isEmpty then 0 else 1) < 30)) = true := by rfl)
    (hline : (apos.endLine == cpos.line) = true := by rfl) (hs : starEach (e :: es) X.env = (false, eval e X.env) :: starEach es X.env := by rfl) (hplain : (backTo cpos (starEach es X.env)).any (·.1) = false := by rfl) :
    DE X B (.Call (.Attribute o name apos) (e :: es) [] cpos) (tBM X.K T r to t) (dBM T R To Ta) :=
  ⟨pe_bm pa slot hty hm.1 ho.pe ha.pa hbase hfew hline hs hplain, fun ρ μ σ H G Q Qn S h hd => ho.ref ρ μ σ H G _ _ S h fun d μ1 v H1 G1 g1 S1 r1 ⟨k1, q1⟩ => ⟨tyV_go k1 S1.hold r1, ha.ref ρ μ1 σ H1 G1 _ _ S1 q1 fun ds μ2 vs H2 G2 g2 S2 r2 q2 => hm.2 ρ μ2 σ H2 G2 v d vs ds Q Qn S2 (r1.mono g2) r2 q2 (hd.mono (g1.trans g2))⟩⟩
theorem de_bm0 {T id : String} {name : Str} {o : Expr} {to : TE} {To : TDE} {apos cpos : Pos} {r : V → List V → Hp → VK → Prop} {R : RMD} (pa : PlainAttrs T) (slot : Slot T name id) (hty : typeOf (.builtin id) = pure (.type "method_descriptor")) (hm : MtR X id r ∧ RefM X.K B T R r) (ho : DE X B o to To)
    (hbase : attributeBase o name X.env (eval o X.env) = eval o X.env := by rfl) (hline : (apos.endLine == cpos.line) = true := by rfl) :
    DE X B (.Call (.Attribute o name apos) [] [] cpos) (tBM0 X.K T r to) (dBM T R To dNil) :=
  ⟨pe_bm0 pa slot hty hm.1 ho.pe hbase hline, fun ρ μ σ H G Q Qn S h hd => ho.ref ρ μ σ H G _ _ S h fun d μ1 v H1 G1 g1 S1 r1 ⟨k1, q1⟩ => ⟨tyV_go k1 S1.hold r1, hm.2 ρ μ1 σ H1 G1 v d [] [] Q Qn S1 r1 Reps.nil q1 (hd.mono g1)⟩⟩

/-! list methods on cells -/
@[simp] def mAppend : RMD := fun x ds μ Q => match x, ds with
  | .ptr a, [d] => ∃ xs, μ a = some (.lst xs) ∧ xs.length < sizeLine ∧ Q .non (mup μ a (.lst (xs ++ [d])))
  | _, _ => False
theorem Sat.cellSet {K : PySem.W.Frag} {G : Gh} {ρ : DR} {σ : St} {μ : Mu} {H : Hp} {p : Addr} {o : HO} {c c0 : Cell} (S : Sat K B G ρ μ σ H) (q0 : μ p = some c0) (r : CellR K G o c) : Sat K B G ρ (mup μ p c) σ (upd H p o) := ⟨S.hold.cellSet q0 r, S.env⟩
theorem Hold.lstAt {K : PySem.W.Frag} {G : Gh} {μ : Mu} {H : Hp} {a : Addr} {xs : List D} (h : Hold K G μ H) (e : μ a = some (.lst xs)) : ∃ vs, H a = some (.lst vs) ∧ Reps K G vs xs := by
  obtain ⟨_, o, y, z⟩ := h.cell a _ e
  obtain ⟨vs, rfl, z2⟩ := cellR_lst z
  exact ⟨vs, y, z2⟩
theorem dm_append : MtR X "list.append" rAppend ∧ RefM X.K B "list" mAppend rAppend := by
  refine ⟨mt_append, ?_⟩
  intro ρ μ σ H G x dx vs ds Q Qn S r1 r2 h hd
  unfold mAppend at h
  split at h
  · next a d =>
    cases r1
    obtain ⟨v, rfl, rv⟩ := reps1 r2
    obtain ⟨xs, e, l, q⟩ := h
    obtain ⟨ws, h1, rr⟩ := S.hold.lstAt e
    exact ⟨a, ws, v, rfl, rfl, h1, by rw [rr.1]; exact l, hd.now (S.cellSet e (show CellR X.K G (.lst (ws ++ [v])) (.lst (xs ++ [d])) from rr.append (Reps.one rv))) .non q⟩
  · exact h.elim
@[simp] def mPop : RMD := fun x ds μ Q => match x, ds with
  | .ptr a, [] => ∃ xs d, μ a = some (.lst (xs ++ [d])) ∧ Q d (mup μ a (.lst xs))
  | _, _ => False
theorem dm_pop : MtR X "list.pop" rPop ∧ RefM X.K B "list" mPop rPop := by
  refine ⟨mt_pop, ?_⟩
  intro ρ μ σ H G x dx vs ds Q Qn S r1 r2 h hd
  unfold mPop at h
  split at h
  · next a =>
    cases r1
    rw [r2.nil_inv]
    obtain ⟨xs, d, e, q⟩ := h
    obtain ⟨ws, h1, rr⟩ := S.hold.lstAt e
    have l := rr.1
    obtain ⟨v, ev, rv⟩ := rr.get (i := xs.length) (d := d) (by simp)
    refine ⟨a, ws, v, rfl, rfl, h1, by rw [l]; simpa using ev, ?_⟩
    have r3 := rr.dropLast
    rw [List.dropLast_concat] at r3
    exact hd.now (S.cellSet e (show CellR X.K G (.lst ws.dropLast) (.lst xs) from r3)) rv q
  · exact h.elim
/-- xs.insert(i, d), 0 ≤ i -/
@[simp] def mInsert : RMD := fun x ds μ Q => match x, ds with
  | .ptr a, [.int i, d] => ∃ xs, μ a = some (.lst xs) ∧ xs.length < sizeLine ∧ 0 ≤ i ∧ i < 2 ^ 63 ∧ Q .non (mup μ a (.lst (xs.take i.toNat ++ d :: xs.drop i.toNat)))
  | _, _ => False

/-! text methods -/
@[simp] def mStarts : RMD := fun x ds μ Q => match x, ds with
  | .str a, [.str b] => Q (.bl (Txt.startswith a b)) μ
  | _, _ => False
theorem dm_startswith : MtR X "str.startswith" (fun x xs H Q => ∃ a b, x = .str a ∧ xs = [.str b] ∧ Q (.bl (Txt.startswith a b)) H) ∧ RefM X.K B "str" mStarts (fun x xs H Q => ∃ a b, x = .str a ∧ xs = [.str b] ∧ Q (.bl (Txt.startswith a b)) H) := by
  refine ⟨mt_startswith, ?_⟩
  intro ρ μ σ H G x dx vs ds Q Qn S r1 r2 h hd
  unfold mStarts at h
  split at h
  · next a b =>
    cases r1
    obtain ⟨v, rfl, rv⟩ := reps1 r2
    cases rv
    exact ⟨a, b, rfl, rfl, hd.now S (.bl _) h⟩
  · exact h.elim
@[simp] def mEnds : RMD := fun x ds μ Q => match x, ds with
  | .str a, [.str b] => Q (.bl (Txt.endswith a b)) μ
  | _, _ => False
theorem dm_endswith : MtR X "str.endswith" (fun x xs H Q => ∃ a b, x = .str a ∧ xs = [.str b] ∧ Q (.bl (Txt.endswith a b)) H) ∧ RefM X.K B "str" mEnds (fun x xs H Q => ∃ a b, x = .str a ∧ xs = [.str b] ∧ Q (.bl (Txt.endswith a b)) H) := by
  refine ⟨mt_endswith, ?_⟩
  intro ρ μ σ H G x dx vs ds Q Qn S r1 r2 h hd
  unfold mEnds at h
  split at h
  · next a b =>
    cases r1
    obtain ⟨v, rfl, rv⟩ := reps1 r2
    cases rv
    exact ⟨a, b, rfl, rfl, hd.now S (.bl _) h⟩
  · exact h.elim
/-- t.split(sep) -/
@[simp] def mSplit (c : Bool) : RMD := fun x ds μ Q => match x, ds with
  | .str a, [.str b] => (b.length == 0) = false ∧ a.length + 2 ≤ sizeLine ∧ mkL c ((Txt.split a b).map .str) μ Q
  | _, _ => False
theorem dm_split (c : Bool) : MtR X "str.split" (fun x xs H Q => ∃ a b, x = .str a ∧ xs = [.str b] ∧ (b.length == 0) = false ∧ a.length + 2 ≤ sizeLine ∧ rNewStrs (Txt.split a b) H Q) ∧
    RefM X.K B "str" (mSplit c) (fun x xs H Q => ∃ a b, x = .str a ∧ xs = [.str b] ∧ (b.length == 0) = false ∧ a.length + 2 ≤ sizeLine ∧ rNewStrs (Txt.split a b) H Q) := by
  refine ⟨mt_split, ?_⟩
  intro ρ μ σ H G x dx vs ds Q Qn S r1 r2 h hd
  unfold mSplit at h
  split at h
  · next a b =>
    cases r1
    obtain ⟨v, rfl, rv⟩ := reps1 r2
    cases rv
    exact ⟨a, b, rfl, rfl, h.1, h.2.1, fun p n => mkL_go h.2.2 S (Reps.ofStrs _) hd n⟩
  · exact h.elim
end

/-! ### words of truth -/
section
variable {X : Cx} {pos : Pos} {a b : Expr} {rest : List Expr} {tA tB' : TT} {TA' TB' : TDT} {ta tb : TE} {Ta Tb : TDE}
@[simp] def dAnd (t u : TDT) : TDT := fun ρ μ Q => t ρ μ fun c μ1 => if c = true then u ρ μ1 Q else Q false μ1
@[simp] def dOr (t u : TDT) : TDT := fun ρ μ Q => t ρ μ fun c μ1 => if c = true then Q true μ1 else u ρ μ1 Q
@[simp] def dNot (t : TDT) : TDT := fun ρ μ Q => t ρ μ fun c μ1 => Q (!c) μ1
theorem dw_and1 (h : DT X B a tA TA') : DW X B (.BoolOp .And [a] pos) tA TA' := ⟨pw_and1 h.pt, h.ref⟩
theorem dw_or1 (h : DT X B a tA TA') : DW X B (.BoolOp .Or [a] pos) tA TA' := ⟨pw_or1 h.pt, h.ref⟩
theorem dw_and (ha : DT X B a tA TA') (hb : DW X B (.BoolOp .And (b :: rest) pos) tB' TB') : DW X B (.BoolOp .And (a :: b :: rest) pos) (tAnd tA tB') (dAnd TA' TB') :=
  ⟨pw_and ha.pt hb.pw, fun ρ μ σ H G Q Qn S h hd => ha.ref ρ μ σ H G _ _ S h fun c μ1 H1 G1 g1 S1 q1 => by
    cases c with
    | true => exact hb.ref ρ μ1 σ H1 G1 _ _ S1 q1 fun d μ2 H2 G2 g2 => hd d μ2 H2 G2 (g1.trans g2)
    | false => exact hd false μ1 H1 G1 g1 S1 q1⟩
theorem dw_or (ha : DT X B a tA TA') (hb : DW X B (.BoolOp .Or (b :: rest) pos) tB' TB') : DW X B (.BoolOp .Or (a :: b :: rest) pos) (tOr tA tB') (dOr TA' TB') :=
  ⟨pw_or ha.pt hb.pw, fun ρ μ σ H G Q Qn S h hd => ha.ref ρ μ σ H G _ _ S h fun c μ1 H1 G1 g1 S1 q1 => by
    cases c with
    | false => exact hb.ref ρ μ1 σ H1 G1 _ _ S1 q1 fun d μ2 H2 G2 g2 => hd d μ2 H2 G2 (g1.trans g2)
    | true => exact hd true μ1 H1 G1 g1 S1 q1⟩
theorem DW.dt {e : Expr} {t : TT} {T : TDT} (h : DW X B e t T) : DT X B e t T := ⟨h.pw.pt, h.ref⟩
theorem dt_not (h : DT X B a tA TA') : DT X B (.UnaryOp .Not a pos) (tNot tA) (dNot TA') :=
  ⟨pt_not h.pt, fun ρ μ σ H G Q Qn S q hd => h.ref ρ μ σ H G _ _ S q fun c μ1 H1 G1 g1 S1 q1 => hd (!c) μ1 H1 G1 g1 S1 q1⟩
/-! .. as values (all but the last a bool) -/
@[simp] def dAndV (ta tb : TDE) : TDE := fun ρ μ Q => ta ρ μ fun x μ1 => match x with | .bl c => if c = true then tb ρ μ1 Q else Q (.bl false) μ1 | _ => False
@[simp] def dOrV (ta tb : TDE) : TDE := fun ρ μ Q => ta ρ μ fun x μ1 => match x with | .bl c => if c = true then Q (.bl true) μ1 else tb ρ μ1 Q | _ => False
@[simp] def dNotV (ta : TDE) : TDE := fun ρ μ Q => ta ρ μ fun x μ1 => match x with | .bl c => Q (.bl (!c)) μ1 | _ => False
theorem de_one {op} (h : DE X B a ta Ta) : DE X B (.BoolOp op [a] pos) ta Ta := ⟨pe_one h.pe, h.ref⟩
theorem de_and (ha : DE X B a ta Ta) (hb : DE X B (.BoolOp .And (b :: rest) pos) tb Tb) : DE X B (.BoolOp .And (a :: b :: rest) pos) (tAndV ta tb) (dAndV Ta Tb) :=
  ⟨pe_and ha.pe hb.pe, fun ρ μ σ H G Q Qn S h hd => ha.ref ρ μ σ H G _ _ S h fun d μ1 v H1 G1 g1 S1 r1 q1 => by
    cases d with
    | bl c =>
      refine ⟨c, r1.ofBl, ?_⟩
      cases c with
      | true => exact hb.ref ρ μ1 σ H1 G1 _ _ S1 q1 (hd.mono g1)
      | false => exact hd.mono g1 |>.now S1 (.bl _) q1
    | _ => exact False.elim q1⟩
theorem de_or (ha : DE X B a ta Ta) (hb : DE X B (.BoolOp .Or (b :: rest) pos) tb Tb) : DE X B (.BoolOp .Or (a :: b :: rest) pos) (tOrV ta tb) (dOrV Ta Tb) :=
  ⟨pe_or ha.pe hb.pe, fun ρ μ σ H G Q Qn S h hd => ha.ref ρ μ σ H G _ _ S h fun d μ1 v H1 G1 g1 S1 r1 q1 => by
    cases d with
    | bl c =>
      refine ⟨c, r1.ofBl, ?_⟩
      cases c with
      | false => exact hb.ref ρ μ1 σ H1 G1 _ _ S1 q1 (hd.mono g1)
      | true => exact hd.mono g1 |>.now S1 (.bl _) q1
    | _ => exact False.elim q1⟩
theorem de_not (h : DE X B a ta Ta) : DE X B (.UnaryOp .Not a pos) (tNotV ta) (dNotV Ta) :=
  ⟨pe_not h.pe, fun ρ μ σ H G Q Qn S q hd => h.ref ρ μ σ H G _ _ S q fun d μ1 v H1 G1 g1 S1 r1 q1 => by
    cases d with
    | bl c => exact ⟨c, r1.ofBl, hd.mono g1 |>.now S1 (.bl _) q1⟩
    | _ => exact False.elim q1⟩
@[simp] def dIf (t : TDT) (ta tb : TDE) : TDE := fun ρ μ Q => t ρ μ fun c μ1 => if c = true then ta ρ μ1 Q else tb ρ μ1 Q
theorem de_ifExp {c : Expr} {tc : TT} {Tc : TDT} (hc : DT X B c tc Tc) (ha : DE X B a ta Ta) (hb : DE X B b tb Tb) : DE X B (.IfExp c a b pos) (tIf tc ta tb) (dIf Tc Ta Tb) :=
  ⟨pe_ifExp hc.pt ha.pe hb.pe, fun ρ μ σ H G Q Qn S h hd => hc.ref ρ μ σ H G _ _ S h fun c μ1 H1 G1 g1 S1 q1 => by
    cases c with
    | true => exact ha.ref ρ μ1 σ H1 G1 _ _ S1 q1 (hd.mono g1)
    | false => exact hb.ref ρ μ1 σ H1 G1 _ _ S1 q1 (hd.mono g1)⟩
/-! a number's sign -/
@[simp] def dNeg (T : TDE) : TDE := fun ρ μ Q => T ρ μ fun d μ1 => match d with | .int i => Q (.int (-i)) μ1 | _ => False
theorem de_neg (h : DE X B a ta Ta) : DE X B (.UnaryOp .USub a pos) (tUn (rU fun i => .int (-i)) ta) (dNeg Ta) :=
  ⟨pe_un un_neg h.pe, fun ρ μ σ H G Q Qn S q hd => h.ref ρ μ σ H G _ _ S q fun d μ1 v H1 G1 g1 S1 r1 q1 => by
    cases d with
    | int i => exact ⟨i, r1.ofInt, hd.mono g1 |>.now S1 (.int _) q1⟩
    | _ => exact False.elim q1⟩
/-! truth of a value -/
@[simp] def truD : D → Option Bool
  | .non => some false
  | .bl b => some b
  | .int i => some (i != 0)
  | .str s => if s.length ≤ sizeLine then some ((s.length : Int) != 0) else none
  | .lst xs => some (!xs.isEmpty)
  | .tup xs => some (!xs.isEmpty)
  | _ => none
@[simp] def dTru (T : TDE) : TDT := fun ρ μ Q => T ρ μ fun d μ1 => ∃ b, truD (vw μ1 d) = some b ∧ Q b μ1
end
end DL

/-! DL4: statements, loops, comprehensions, calls, defs. -/
namespace DL
open PySem PySem.Spec PyProof.Rows L2

/-! ### targets -/
abbrev TDG := D → DR → Mu → (DR → Mu → Prop) → Prop
abbrev TDGs := List D → DR → Mu → (DR → Mu → Prop) → Prop
def RefG (K : PySem.W.Frag) (B : Gh) (T : TDG) (t : TG) : Prop := ∀ d v ρ μ σ H G (Q : DR → Mu → Prop) (Qn : St → Hp → Prop), Sat K B G ρ μ σ H → Rep K G v d → T d ρ μ Q → (∀ ρ' μ' σ' H' G', Gle G G' → Sat K B G' ρ' μ' σ' H' → Q ρ' μ' → Qn σ' H') → t v σ H Qn
def RefGs (K : PySem.W.Frag) (B : Gh) (T : TDGs) (t : TGs) : Prop := ∀ ds vs ρ μ σ H G (Q : DR → Mu → Prop) (Qn : St → Hp → Prop), Sat K B G ρ μ σ H → Reps K G vs ds → T ds ρ μ Q → (∀ ρ' μ' σ' H' G', Gle G G' → Sat K B G' ρ' μ' σ' H' → Q ρ' μ' → Qn σ' H') → t vs σ H Qn
structure DG (X : Cx) (B : Gh) (e : Expr) (t : TG) (T : TDG) : Prop where
  pg : PG X e t
  ref : RefG X.K B T t
structure DGs (X : Cx) (B : Gh) (es : List Expr) (t : TGs) (T : TDGs) : Prop where
  pgs : PGs X es t
  ref : RefGs X.K B T t
section
variable {X : Cx} {pos : Pos}
@[simp] def dgName (i : Nat) : TDG := fun d ρ μ Q => Q (ρ.set i (some d)) μ
theorem dg_name (i : Nat) {x : Str} (hN : X.N.Nodup) (hi : X.N[i]? = some x := by rfl) (hx : Loc X.env.scope x := by first | exact Or.inl rfl | exact Or.inr rfl) (hf : X.fn x = true ∨ X.env.scope.names.lookup x = some .local := by first | exact .inl rfl | exact .inr rfl | assumption) : DG X B (.Name x pos) (gName i) (dgName i) :=
  ⟨pg_name hN hi hx hf, fun d v ρ μ σ H G Q Qn S r h hd => hd _ μ _ H G (Gle.refl G) ⟨S.hold, S.env.set r i⟩ h⟩
@[simp] def dgNil : TDGs := fun ds ρ μ Q => ds = [] ∧ Q ρ μ
@[simp] def dgCons (T : TDG) (U : TDGs) : TDGs := fun ds ρ μ Q => match ds with
  | d :: r => T d ρ μ fun ρ' μ' => U r ρ' μ' Q
  | [] => False
theorem dgs_nil : DGs X B [] gNil dgNil := ⟨pgs_nil, fun ds vs ρ μ σ H G Q Qn S r h hd => by
  obtain ⟨rfl, h⟩ := h
  exact ⟨r.nil_inv, hd ρ μ σ H G (Gle.refl G) S h⟩⟩
theorem dgs_cons {e : Expr} {es : List Expr} {t : TG} {u : TGs} {T : TDG} {U : TDGs} (h1 : DG X B e t T) (h2 : DGs X B es u U) (hs : (assignEach (e :: es) X.env).map (·.2) = assign e X.env :: (assignEach es X.env).map (·.2) := by rfl) : DGs X B (e :: es) (gCons t u) (dgCons T U) :=
  ⟨pgs_cons h1.pg h2.pgs hs, fun ds vs ρ μ σ H G Q Qn S r h hd => by
    cases ds with
    | nil => exact False.elim h
    | cons d ds =>
      obtain ⟨v, w, rfl, a, b⟩ := r.cons_inv
      exact ⟨v, w, rfl, h1.ref d v ρ μ σ H G _ _ S a h fun ρ1 μ1 σ1 H1 G1 g1 S1 q1 => h2.ref ds w ρ1 μ1 σ1 H1 G1 _ _ S1 (b.mono g1) q1 fun ρ2 μ2 σ2 H2 G2 g2 => hd ρ2 μ2 σ2 H2 G2 (g1.trans g2)⟩⟩
/-- a, b, .. = a tuple -/
@[simp] def dgTup (n : Nat) (U : TDGs) : TDG := fun d ρ μ Q => ∃ xs, vw μ d = .tup xs ∧ xs.length = n ∧ U xs ρ μ Q
theorem dg_tup {es : List Expr} {k : Nat} {t : TGs} {U : TDGs} {n : Nat} (hc : X.calm = true) (h : DGs X B es t U) (hn : (assignEach es X.env).length = n := by rfl) (hst : (assignEach es X.env).findIdx? (·.1) = none := by rfl) : DG X B (.Tuple es k pos) (gTup X.K n t) (dgTup n U) :=
  ⟨pg_tup hc h.pgs hn hst, fun d v ρ μ σ H G Q Qn S r ⟨xs, e, l, q⟩ hd => by
    obtain ⟨a, vs, rfl, h1, rr⟩ := S.hold.tup r e
    exact ⟨a, vs, rfl, h1, by rw [rr.1]; exact l, h.ref xs vs ρ μ σ H G Q Qn S rr q hd⟩⟩
/-- xs[i] = d, a cell -/
@[simp] def setD (o i d : D) (μ : Mu) (Q : Mu → Prop) : Prop := match o, i with
  | .ptr a, .int k => ∃ xs j, μ a = some (.lst xs) ∧ ixN xs.length k = some j ∧ Q (mup μ a (.lst (xs.set j d)))
  | _, _ => False
@[simp] def dgSub (To Ti : TDE) : TDG := fun d ρ μ Q => To ρ μ fun o μ1 => Ti ρ μ1 fun i μ2 => setD o i d μ2 fun μ3 => Q ρ μ3
theorem dg_sub {o i : Expr} {to ti : TE} {To Ti : TDE} (ho : DE X B o to To) (hi : DE X B i ti Ti) (ha : ∀ v, assign (.Subscript o i pos) X.env v = (do
      let ov ← holding [v] (eval o X.env)
      let iv ← holding [v, ov] (eval i X.env)
      standAt pos
      holding [v, ov, iv] (setItem ov iv v)
      release [v, ov, iv] []) := by intro _; rfl) : DG X B (.Subscript o i pos) (gSub to ti rSetL) (dgSub To Ti) :=
  ⟨pg_sub ho.pe hi.pe set_list ha, fun d v ρ μ σ H G Q Qn S r h hd => ho.ref ρ μ σ H G _ _ S h fun o' μ1 ov H1 G1 g1 S1 r1 q1 => hi.ref ρ μ1 σ H1 G1 _ _ S1 q1 fun i' μ2 iv H2 G2 g2 S2 r2 q2 => by
    unfold setD at q2
    split at q2
    · next a k =>
      cases r1; cases r2
      obtain ⟨xs, j, e, ej, q⟩ := q2
      obtain ⟨ws, h1, rr⟩ := S2.hold.lstAt e
      have rd : Rep X.K G2 v d := r.mono (g1.trans g2)
      exact ⟨a, ws, k, j, rfl, rfl, h1, by rw [rr.1]; exact ej, hd ρ _ _ _ G2 (g1.trans g2) (S2.cellSet e (show CellR X.K G2 (.lst (ws.set j v)) (.lst (xs.set j d)) from rr.set rd j)) q⟩
    · exact q2.elim⟩

/-! ### statements -/
@[simp] def dNext : TDS := fun E ρ μ => E.nx ρ μ
@[simp] def dSeq (T U : TDS) : TDS := fun E ρ μ => T { E with nx := fun ρ' μ' => U E ρ' μ' } ρ μ
theorem dss_nil : DSs X B [] tNext dNext := ⟨pss_nil, fun ρ μ σ H G E Dn S h hd => hd.nx ρ μ σ H G (Gle.refl G) S h⟩
theorem ref_seq {K : PySem.W.Frag} {t u : TS} {T U : TDS} (h1 : RefS K B T t) (h2 : RefS K B U u) : RefS K B (dSeq T U) (tSeq t u) := fun ρ μ σ H G E Dn S h hd =>
  h1 ρ μ σ H G { E with nx := fun ρ' μ' => U E ρ' μ' } { Dn with nx := u Dn } S h ⟨fun ρ' μ' σ' H' G' g S' q => h2 ρ' μ' σ' H' G' E Dn S' q (hd.mono g), hd.rt, hd.bk, hd.ct⟩
theorem dss_cons {st : Stmt} {rest : List Stmt} {t u : TS} {T U : TDS} (h1 : DS X B st t T) (h2 : DSs X B rest u U) : DSs X B (st :: rest) (tSeq t u) (dSeq T U) := ⟨pss_cons h1.ps h2.pss, ref_seq h1.ref h2.ref⟩
theorem dss_one {st : Stmt} {t : TS} {T : TDS} (h1 : DS X B st t T) : DSs X B [st] t T := ⟨pss_one h1.ps, h1.ref⟩
@[simp] def dBreak : TDS := fun E ρ μ => E.bk ρ μ
@[simp] def dCont : TDS := fun E ρ μ => E.ct ρ μ
theorem ds_pass : DS X B (.Pass pos) tNext dNext := ⟨ps_pass, fun ρ μ σ H G E Dn S h hd => hd.nx ρ μ σ H G (Gle.refl G) S h⟩
theorem ds_break : DS X B (.Break pos) tBreak dBreak := ⟨ps_break, fun ρ μ σ H G E Dn S h hd => hd.bk ρ μ σ H G (Gle.refl G) S h⟩
theorem ds_continue : DS X B (.Continue pos) tCont dCont := ⟨ps_continue, fun ρ μ σ H G E Dn S h hd => hd.ct ρ μ σ H G (Gle.refl G) S h⟩
def dNever : TDS := fun _ _ _ => False
theorem ds_never {st : Stmt} : DS X B st tNever dNever := ⟨ps_never, fun _ _ _ _ _ _ _ _ h _ => h.elim⟩
theorem dss_never {st : List Stmt} : DSs X B st tNever dNever := ⟨pss_never, fun _ _ _ _ _ _ _ _ h _ => h.elim⟩
@[simp] def dDrop (T : TDE) : TDS := fun E ρ μ => T ρ μ fun _ μ1 => E.nx ρ μ1
theorem ds_expr {e : Expr} {te : TE} {T : TDE} (he : DE X B e te T) (hs : swapsWith e none pos.line X.env = pure false := by rfl) : DS X B (.Expr e pos) (tDrop te) (dDrop T) :=
  ⟨ps_expr he.pe hs, fun ρ μ σ H G E Dn S h hd => he.ref ρ μ σ H G _ _ S h fun d μ1 v H1 G1 g1 S1 r1 q1 => hd.nx ρ μ1 σ H1 G1 g1 S1 q1⟩
@[simp] def dRet (T : TDE) : TDS := fun E ρ μ => T ρ μ E.rt
theorem ds_ret {e : Expr} {te : TE} {T : TDE} (he : DE X B e te T) : DS X B (.Return (some e) pos) (tRet te) (dRet T) :=
  ⟨ps_ret he.pe, fun ρ μ σ H G E Dn S h hd => he.ref ρ μ σ H G _ _ S h fun d μ1 v H1 G1 g1 S1 r1 q1 => hd.rt d μ1 v H1 G1 g1 S1.hold r1 q1⟩
@[simp] def dRetN : TDS := fun E _ μ => E.rt .non μ
theorem ds_retN : DS X B (.Return none pos) tRetN dRetN := ⟨ps_retN, fun ρ μ σ H G E Dn S h hd => hd.rt .non μ .non H G (Gle.refl G) S.hold .non h⟩
@[simp] def dIfS (c : TDT) (T U : TDS) : TDS := fun E ρ μ => c ρ μ fun b μ1 => if b = true then T E ρ μ1 else U E ρ μ1
theorem ds_if {c : Expr} {p q : List Stmt} {tc : TT} {t u : TS} {Tc : TDT} {T U : TDS} (hc : DT X B c tc Tc) (ha : DSs X B p t T) (hb : DSs X B q u U) : DS X B (.If c p q pos) (tIfS tc t u) (dIfS Tc T U) :=
  ⟨ps_if hc.pt ha.pss hb.pss, fun ρ μ σ H G E Dn S h hd => hc.ref ρ μ σ H G _ _ S h fun b μ1 H1 G1 g1 S1 q1 => by
    cases b with
    | true => exact ha.ref ρ μ1 σ H1 G1 E Dn S1 q1 (hd.mono g1)
    | false => exact hb.ref ρ μ1 σ H1 G1 E Dn S1 q1 (hd.mono g1)⟩
@[simp] def dAsg (T : TDE) (g : TDG) : TDS := fun E ρ μ => T ρ μ fun d μ1 => g d ρ μ1 E.nx
theorem ref_asg {K : PySem.W.Frag} {te : TE} {g : TG} {T : TDE} {U : TDG} (he : RefE K B T te) (hg : RefG K B U g) : RefS K B (dAsg T U) (tAsg te g) := fun ρ μ σ H G E Dn S h hd =>
  he ρ μ σ H G _ _ S h fun d μ1 v H1 G1 g1 S1 r1 q1 => hg d v ρ μ1 σ H1 G1 _ _ S1 r1 q1 fun ρ2 μ2 σ2 H2 G2 g2 S2 q2 => hd.nx ρ2 μ2 σ2 H2 G2 (g1.trans g2) S2 q2
theorem ds_asg {tg e : Expr} {te : TE} {g : TG} {T : TDE} {U : TDG} (he : DE X B e te T) (hg : DG X B tg g U) (hs : swapsWithSole [tg] e pos.line X.env = pure false := by rfl) (hw : swappedStores [tg] e X.env = pure none := by rfl)
    (h1 : (assignEach [tg] X.env).map (·.2) = [assign tg X.env] := by rfl) : DS X B (.Assign [tg] e pos) (tAsg te g) (dAsg T U) := ⟨ps_asg he.pe hg.pg hs hw h1, ref_asg he.ref hg.ref⟩
theorem ds_set (i : Nat) {x : Str} {e : Expr} {te : TE} {T : TDE} {pos' : Pos} (hN : X.N.Nodup) (he : DE X B e te T) (hi : X.N[i]? = some x := by rfl) (hx : Loc X.env.scope x := by first | exact Or.inl rfl | exact Or.inr rfl) (hs : swapsWith e (some (.Name x pos')) pos.line X.env = pure false := by rfl) (hf : X.fn x = true ∨ X.env.scope.names.lookup x = some .local := by first | exact .inl rfl | exact .inr rfl | assumption) :
    DS X B (.Assign [.Name x pos'] e pos) (tAsg te (gName i)) (dAsg T (dgName i)) := ⟨ps_set hN hi hx he.pe hs hf, ref_asg he.ref (dg_name (X := X) (pos := pos') i hN hi hx hf).ref⟩
/-- name op= e -/
@[simp] def dAug (i : Nat) (R : R2D) (T : TDE) : TDS := fun E ρ μ => match ρ[i]? with
  | some (some x) => T ρ μ fun y μ1 => R x y μ1 fun z μ2 => E.nx (ρ.set i (some z)) μ2
  | _ => False
theorem ds_aug (i : Nat) {x : Str} {e : Expr} {te : TE} {T : TDE} {op : Operator} {r : R2} {R : R2D} {pos' : Pos} (hN : X.N.Nodup) (ho : OpR X (inplaceOp op) r ∧ Ref2 X.K B R r) (he : DE X B e te T) (hi : X.N[i]? = some x := by rfl) (hx : Loc X.env.scope x := by first | exact Or.inl rfl | exact Or.inr rfl) (hf : X.fn x = true ∨ X.env.scope.names.lookup x = some .local := by first | exact .inl rfl | exact .inr rfl | assumption) :
    DS X B (.AugAssign (.Name x pos') op e pos) (tAug i te r) (dAug i R T) :=
  ⟨ps_aug hN hi hx he.pe ho.1 hf, fun ρ μ σ H G E Dn S h hd => by
    unfold dAug at h
    split at h
    · next d e1 =>
      obtain ⟨v, a, rv⟩ := S.env.2 i d e1
      exact ⟨v, a, he.ref ρ μ σ H G _ _ S h fun d2 μ1 v2 H1 G1 g1 S1 r1 q1 => ho.2 ρ μ1 σ H1 G1 v v2 d d2 _ _ S1 (rv.mono g1) r1 q1 fun d3 μ2 v3 H2 G2 g2 S2 r2 q2 => hd.nx _ μ2 _ H2 G2 (g1.trans g2) ⟨S2.hold, S2.env.set r2 i⟩ q2⟩
    · exact h.elim⟩
theorem do_iadd : OpR X (inplaceOp .Add) (rI0 fun i j => .int (i + j)) ∧ Ref2 X.K B (opZ0 fun i j => .int (i + j)) (rI0 fun i j => .int (i + j)) := ⟨iop_add, ref_I0⟩
theorem do_isub : OpR X (inplaceOp .Sub) (rI0 fun i j => .int (i - j)) ∧ Ref2 X.K B opSub (rI0 fun i j => .int (i - j)) := ⟨iop_sub, ref_I0⟩
/-- a local's cell is frozen, ahead of a block -/
@[simp] def dFrzS (i : Nat) (T : TDS) : TDS := fun E ρ μ => match ρ[i]? with
  | some (some (.ptr a)) => match μ a with
    | some (.lst xs) => T E (ρ.set i (some (.lst xs))) (mdel μ a)
    | _ => False
  | _ => False
theorem St.set_self {σ : St} {i : Nat} {v : V} (h : σ[i]? = some (some v)) : σ.set i (some v) = σ := by
  apply List.ext_getElem?
  intro j
  rw [List.getElem?_set]
  split
  · next e =>
    subst e
    have l := (List.getElem?_eq_some_iff.mp h).1
    rw [if_pos l, h]
  · rfl
theorem ref_frz {K : PySem.W.Frag} (i : Nat) {t : TS} {T : TDS} (h : RefS K B T t) : RefS K B (dFrzS i T) t := fun ρ μ σ H G E Dn S q hd => by
  unfold dFrzS at q
  split at q
  · next a e =>
    split at q
    · next xs e2 =>
      obtain ⟨v, ev, rv⟩ := S.env.2 i _ e
      cases rv
      obtain ⟨ws, h1, rr⟩ := S.hold.lstAt e2
      have g : Gle G (G.frz a (.lst ws)) := Gle.frz (S.hold.cell a _ e2).1
      have S2 : Sat K B (G.frz a (.lst ws)) (ρ.set i (some (.lst xs))) (mdel μ a) σ H := by
        refine ⟨S.hold.freeze e2 h1, ?_⟩
        have := (S.env.mono g).set (v := .ref a) (d := .lst xs) (.lst (show upd G.fr a (.lst ws) a = some (.lst ws) from upd_same) rr.1 fun j v d x y => (rr.2 j v d x y).mono g) i
        rwa [St.set_self ev] at this
      exact h _ _ σ H _ E Dn S2 q (hd.mono g)
    · exact q.elim
  · exact q.elim
theorem dss_frz (i : Nat) {st : List Stmt} {t : TS} {T : TDS} (h : DSs X B st t T) : DSs X B st t (dFrzS i T) := ⟨h.pss, ref_frz i h.ref⟩
/-- an expression whose cell is frozen at once -/
@[simp] def frz (d : D) (μ : Mu) (Q : QD) : Prop := match d with
  | .ptr a => match μ a with
    | some (.lst xs) => Q (.lst xs) (mdel μ a)
    | some (.dic xs) => Q (.dic xs) (mdel μ a)
    | some (.ins C fs) => Q (.obj C fs) (mdel μ a)
    | _ => False
  | d => Q d μ
@[simp] def dFrz (T : TDE) : TDE := fun ρ μ Q => T ρ μ fun d μ1 => frz d μ1 Q
theorem de_frz {e : Expr} {te : TE} {T : TDE} (h : DE X B e te T) : DE X B e te (dFrz T) := ⟨h.pe, fun ρ μ σ H G Q Qn S q hd => h.ref ρ μ σ H G _ _ S q fun d μ1 v H1 G1 g1 S1 r1 q1 => by
  cases d with
  | ptr a =>
    cases r1
    have q2 : (match μ1 a with
      | some (.lst xs) => Q (.lst xs) (mdel μ1 a)
      | some (.dic xs) => Q (.dic xs) (mdel μ1 a)
      | some (.ins C fs) => Q (.obj C fs) (mdel μ1 a)
      | _ => False) := q1
    cases e : μ1 a with
    | none => rw [e] at q2; exact q2.elim
    | some c =>
      rw [e] at q2
      obtain ⟨f, o, h1, rr⟩ := S1.hold.cell a c e
      have g : Gle G1 (G1.frz a o) := Gle.frz f
      have S2 : Sat X.K B (G1.frz a o) ρ (mdel μ1 a) σ H1 := ⟨S1.hold.freeze e h1, S1.env.mono g⟩
      have up : upd G1.fr a o a = some o := upd_same
      cases c with
      | lst xs =>
        obtain ⟨ws, rfl, r9⟩ := cellR_lst rr
        exact hd _ _ _ _ _ (g1.trans g) S2 (.lst up r9.1 fun j v d x y => (r9.2 j v d x y).mono g) q2
      | dic xs =>
        obtain ⟨ws, rfl, r9⟩ := cellR_dic rr
        exact hd _ _ _ _ _ (g1.trans g) S2 (.dic up r9.1 fun j v d x y => (r9.2.2 j v d x y).mono g) q2
      | dicL _ _ xs => exact False.elim q2
      | ins C fs =>
        obtain ⟨dx, ws, rfl, r9⟩ := cellR_ins rr
        exact hd _ _ _ _ _ (g1.trans g) S2 (.obj up r9.1 fun j v d x y => (r9.2.2 j v d x y).mono g) q2
  | _ => exact (hd.mono g1) _ _ _ _ G1 (Gle.refl G1) S1 r1 q1⟩

/-! ### loops -/
/-- what is walked: the items, handed over as data -/
abbrev TDI := DR → Mu → (List D → Mu → Prop) → Prop
def loopL (g : TDG) (T : TDS) (E : DEnds) : List D → DR → Mu → Prop
  | [], ρ, μ => E.nx ρ μ
  | x :: r, ρ, μ => g x ρ μ fun ρ2 μ2 => T { E with nx := loopL g T E r, ct := loopL g T E r, bk := E.nx } ρ2 μ2
@[simp] def dFor (I : TDI) (g : TDG) (T : TDS) : TDS := fun E ρ μ => I ρ μ fun xs μ1 => loopL g T E xs ρ μ1
/-- the walk of iter at the layer's level yields these items -/
def RefI (K : PySem.W.Frag) (B : Gh) (I : TDI) (i : TI) : Prop := ∀ ρ μ σ H G (Q : List D → Mu → Prop) (R : It → Hp → Prop), Sat K B G ρ μ σ H → I ρ μ Q →
  (∀ xs μ1 J H1 G1, Gle G G1 → Sat K B G1 ρ μ1 σ H1 → Q xs μ1 →
    (∀ n H' G' μ', Gle G1 G' → Hold K G' μ' H' → (n < xs.length → J.go n H') ∧ (xs.length ≤ n → J.stop n H')) →
    (∀ n x v H' H2 G' μ', Gle G1 G' → Hold K G' μ' H' → xs[n]? = some x → J.yld n H' v H2 → ∃ G2, Gle G' G2 ∧ Hold K G2 μ' H2 ∧ Rep K G2 v x) → R J H1) → i σ H R
theorem ref_for {K : PySem.W.Frag} {I : TDI} {i : TI} {g : TDG} {gn : TG} {T : TDS} {t : TS} (hi : RefI K B I i) (hg : RefG K B g gn) (ht : RefS K B T t) : RefS K B (dFor I g T) (tFor i gn t) := fun ρ μ σ H G E Dn S h hd => by
  refine hi ρ μ σ H G _ _ S h fun xs μ1 J H1 G1 g1 S1 q1 hgo hy => ?_
  refine ⟨fun n m σ' H' => m = xs.length - n ∧ n ≤ xs.length ∧ ∃ G' ρ' μ', Gle G1 G' ∧ Sat K B G' ρ' μ' σ' H' ∧ loopL g T E (xs.drop n) ρ' μ', ⟨xs.length, by simp, Nat.zero_le _, G1, ρ, μ1, Gle.refl _, S1, by simpa using q1⟩, ?_⟩
  rintro n m σ' H' ⟨rfl, hn, G', ρ', μ', g2, S2, q2⟩
  by_cases hlt : n < xs.length
  · refine .inr ⟨(hgo n H' G' μ' g2 S2.hold).1 hlt, fun σ3 H3 => ∃ G3 ρ3 μ3, Gle G1 G3 ∧ Sat K B G3 ρ3 μ3 σ3 H3 ∧ loopL g T E (xs.drop (n + 1)) ρ3 μ3, ?_, ?_⟩
    · rintro σ3 H3 ⟨G3, ρ3, μ3, g3, S3, q3⟩
      exact ⟨xs.length - (n + 1), by omega, rfl, hlt, G3, ρ3, μ3, g3, S3, q3⟩
    · intro v H2 yv
      obtain ⟨G2, g3, h2, rv⟩ := hy n xs[n] v H' H2 G' μ' g2 S2.hold (List.getElem?_eq_getElem hlt) yv
      rw [List.drop_eq_getElem_cons hlt] at q2
      have S3 : Sat K B G2 ρ' μ' σ' H2 := ⟨h2, S2.env.mono g3⟩
      refine hg xs[n] v ρ' μ' σ' H2 G2 _ _ S3 rv q2 fun ρ4 μ4 σ4 H4 G4 g4 S4 q4 => ?_
      refine ht ρ4 μ4 σ4 H4 G4 _ _ S4 q4 ⟨?_, ?_, ?_, ?_⟩
      · exact fun ρ5 μ5 σ5 H5 G5 g5 S5 q5 => ⟨G5, ρ5, μ5, ((g2.trans g3).trans g4).trans g5, S5, q5⟩
      · exact fun d μ5 v5 H5 G5 g5 S5 r5 q5 => hd.rt d μ5 v5 H5 G5 ((((g1.trans g2).trans g3).trans g4).trans g5) S5 r5 q5
      · exact fun ρ5 μ5 σ5 H5 G5 g5 S5 q5 => hd.nx ρ5 μ5 σ5 H5 G5 ((((g1.trans g2).trans g3).trans g4).trans g5) S5 q5
      · exact fun ρ5 μ5 σ5 H5 G5 g5 S5 q5 => ⟨G5, ρ5, μ5, ((g2.trans g3).trans g4).trans g5, S5, q5⟩
  · have e : n = xs.length := by omega
    subst e
    rw [List.drop_length] at q2
    exact .inl ⟨(hgo _ H' G' μ' g2 S2.hold).2 (Nat.le_refl _), hd.nx ρ' μ' σ' H' G' (g1.trans g2) S2 q2⟩
structure DI (X : Cx) (B : Gh) (tg e : Expr) (i : TI) (I : TDI) : Prop where
  pi : PI X tg e i
  ref : RefI X.K B I i
theorem ds_for {tg iter : Expr} {body : List Stmt} {i : TI} {I : TDI} {g : TG} {U : TDG} {t : TS} {T : TDS} (hp : PassesOwn (model X.prog X.w) X.A X.env X.xe) (hc : X.calm = true) (hi : DI X B tg iter i I) (hg : DG X B tg g U) (hb : DSs X B body t T)
    (hs : ∀ x, foldedSetIterable iter X.env x = pure x := by intro _; rfl) : DS X B (.For tg iter body [] pos) (tFor i g t) (dFor I U T) := ⟨ps_for hp hc hi.pi hg.pg hb.pss hs, ref_for hi.ref hg.ref hb.ref⟩
/-- a frozen list, a tuple -/
@[simp] def iLst (T : TDE) : TDI := fun ρ μ Q => T ρ μ fun d μ1 => match d with | .lst xs => Q xs μ1 | _ => False
@[simp] def iTupD (T : TDE) : TDI := fun ρ μ Q => T ρ μ fun d μ1 => match d with | .tup xs => Q xs μ1 | _ => False
theorem di_list {tg e : Expr} {te : TE} {T : TDE} (h : DE X B e te T) : DI X B tg e (iList X.K te) (iLst T) := ⟨pi_list h.pe, fun ρ μ σ H G Q R S q hd => h.ref ρ μ σ H G _ _ S q fun d μ1 v H1 G1 g1 S1 r1 q1 => by
  cases d with
  | lst xs =>
    cases r1 with
    | lst hh l r =>
      rename_i a vs
      have at' : ∀ {H' : Hp} {G' : Gh} {μ' : Mu}, Gle G1 G' → Hold X.K G' μ' H' → H' a = some (.lst vs) := fun g hh' => hh'.fr _ _ (g.fr _ _ hh)
      refine ⟨a, rfl, ⟨vs, SqL.of (at' (Gle.refl _) S1.hold)⟩, hd xs μ1 _ H1 G1 g1 S1 q1 (fun n H' G' μ' g h' => ⟨fun hn => ?_, fun hn => ?_⟩) fun n x w H' H2 G' μ' g h' ex y => ?_⟩
      · exact ⟨vs, vs[n]'(by rw [l]; exact hn), SqL.of (at' g h'), List.getElem?_eq_getElem _⟩
      · exact ⟨vs, SqL.of (at' g h'), by rw [l]; exact hn⟩
      · obtain ⟨rfl, y⟩ := y
        have e1 := y vs (SqL.of (at' g h'))
        exact ⟨G', Gle.refl _, h', (r n w x e1 ex).mono g⟩
  | _ => exact False.elim q1⟩
theorem di_tup {tg e : Expr} {te : TE} {T : TDE} (h : DE X B e te T) : DI X B tg e (iTup X.K te) (iTupD T) := ⟨pi_tup h.pe, fun ρ μ σ H G Q R S q hd => h.ref ρ μ σ H G _ _ S q fun d μ1 v H1 G1 g1 S1 r1 q1 => by
  cases d with
  | tup xs =>
    cases r1 with
    | tup hh l r =>
      rename_i a vs
      have at' : ∀ {H' : Hp} {G' : Gh} {μ' : Mu}, Gle G1 G' → Hold X.K G' μ' H' → SqT X.K H' a vs := fun g hh' => hh'.fr.seqT (g.fr.seqT hh)
      refine ⟨a, rfl, ⟨vs, at' (Gle.refl _) S1.hold⟩, hd xs μ1 _ H1 G1 g1 S1 q1 (fun n H' G' μ' g h' => ⟨fun hn => ?_, fun hn => ?_⟩) fun n x w H' H2 G' μ' g h' ex y => ?_⟩
      · exact ⟨vs, vs[n]'(by rw [l]; exact hn), at' g h', List.getElem?_eq_getElem _⟩
      · exact ⟨vs, at' g h', by rw [l]; exact hn⟩
      · obtain ⟨rfl, y⟩ := y
        have e1 := y vs (at' g h')
        exact ⟨G', Gle.refl _, h', (r n w x e1 ex).mono g⟩
  | _ => exact False.elim q1⟩
/-- the script -/
@[simp] def iScr (T : TDE) : TDI := fun ρ μ Q => T ρ μ fun d μ1 => match d with | .scr ns => Q (ns.map .int) μ1 | _ => False
theorem di_scr {tg e : Expr} {te : TE} {T : TDE} (h : DE X B e te T) : DI X B tg e (iList X.K te) (iScr T) := ⟨pi_list h.pe, fun ρ μ σ H G Q R S q hd => h.ref ρ μ σ H G _ _ S q fun d μ1 v H1 G1 g1 S1 r1 q1 => by
  cases d with
  | scr ns =>
    cases r1 with
    | scr hh =>
      rename_i a
      have at' : ∀ {H' : Hp} {G' : Gh} {μ' : Mu}, Gle G1 G' → Hold X.K G' μ' H' → SqL X.K H' a (ns.map V.int) := fun g hh' => hh'.fr.seqL (g.fr.seqL hh)
      refine ⟨a, rfl, ⟨_, at' (Gle.refl _) S1.hold⟩, hd (ns.map .int) μ1 _ H1 G1 g1 S1 q1 (fun n H' G' μ' g h' => ⟨fun hn => ?_, fun hn => ?_⟩) fun n x w H' H2 G' μ' g h' ex y => ?_⟩
      · exact ⟨_, (ns.map V.int)[n]'(by simpa using hn), at' g h', List.getElem?_eq_getElem _⟩
      · exact ⟨_, at' g h', by simpa using hn⟩
      · obtain ⟨rfl, y⟩ := y
        have e1 := y _ (at' g h')
        exact ⟨G', Gle.refl _, h', (Reps.ofInts ns).2 n w x e1 ex⟩
  | _ => exact False.elim q1⟩
/-- range(n), range(a, b) -/
def rngD (lo hi : Int) : List D := (List.range (hi - lo).toNat).map fun (k : Nat) => .int (lo + (k : Int))
@[simp] def iRg1 (T : TDA) : TDI := fun ρ μ Q => T ρ μ fun ds μ1 => match ds with | [.int j] => (-(2 ^ 62) ≤ j ∧ j < 2 ^ 62) ∧ Q (rngD 0 j) μ1 | _ => False
@[simp] def iRg2 (T : TDA) : TDI := fun ρ μ Q => T ρ μ fun ds μ1 => match ds with | [.int i, .int j] => (-(2 ^ 62) ≤ i ∧ i < 2 ^ 62 ∧ -(2 ^ 62) ≤ j ∧ j < 2 ^ 62) ∧ Q (rngD i j) μ1 | _ => False
theorem rngD_get {lo hi : Int} {n : Nat} {x : D} (h : (rngD lo hi)[n]? = some x) : x = .int (lo + (n : Int)) := by
  unfold rngD at h
  rw [List.getElem?_map] at h
  cases q : (List.range (hi - lo).toNat)[n]? with
  | none => rw [q] at h; cases h
  | some k =>
    rw [q] at h
    have := (List.getElem?_eq_some_iff.mp q).2
    simp at this
    subst this
    cases h; rfl
theorem di_range1 {a : Expr} {ta : TA} {T : TDA} {tg : Expr} {p : Pos} (hg : Gl X "range") (hm : X.mg "range" = none) (ha : DA X B [a] ta T) (hs : starEach [a] X.env = [(false, eval a X.env)] := by rfl) : DI X B tg (.Call (.Name "range" p) [a] [] pos) (iRng1 ta) (iRg1 T) :=
  ⟨pi_range1 hg hm ha.pa hs, fun ρ μ σ H G Q R S q hd => ha.ref ρ μ σ H G _ _ S q fun ds μ1 vs H1 G1 g1 S1 r1 q1 => by
    split at q1
    · next j =>
      obtain ⟨v, rfl, rv⟩ := reps1 r1
      cases rv
      obtain ⟨⟨b1, b2⟩, q1⟩ := q1
      refine ⟨j, rfl, b1, b2, hd (rngD 0 j) μ1 _ H1 G1 g1 S1 q1 (fun n H' G' μ' g h' => ⟨fun hn => ?_, fun hn => ?_⟩) fun n x w H' H2 G' μ' g h' ex y => ?_⟩
      · simpa [rngD, Itr] using hn
      · simpa [rngD, Itr] using hn
      · obtain ⟨rfl, rfl⟩ := y
        rw [rngD_get ex]
        exact ⟨G', Gle.refl _, h', .int _⟩
    · exact q1.elim⟩
theorem di_range2 {a b : Expr} {ta : TA} {T : TDA} {tg : Expr} {p : Pos} (hg : Gl X "range") (hm : X.mg "range" = none) (ha : DA X B [a, b] ta T) (hs : starEach [a, b] X.env = [(false, eval a X.env), (false, eval b X.env)] := by rfl) (hs2 : starEach [b] X.env = [(false, eval b X.env)] := by rfl) :
    DI X B tg (.Call (.Name "range" p) [a, b] [] pos) (iRng2 ta) (iRg2 T) :=
  ⟨pi_range2 hg hm ha.pa hs hs2, fun ρ μ σ H G Q R S q hd => ha.ref ρ μ σ H G _ _ S q fun ds μ1 vs H1 G1 g1 S1 r1 q1 => by
    split at q1
    · next i j =>
      obtain ⟨v, w, rfl, rv, rw'⟩ := reps2 r1
      cases rv; cases rw'
      obtain ⟨⟨b1, b2, b3, b4⟩, q1⟩ := q1
      refine ⟨i, j, rfl, ⟨b1, b2, b3, b4⟩, hd (rngD i j) μ1 _ H1 G1 g1 S1 q1 (fun n H' G' μ' g h' => ⟨fun hn => ?_, fun hn => ?_⟩) fun n x w H' H2 G' μ' g h' ex y => ?_⟩
      · simpa [rngD, Itr] using hn
      · simpa [rngD, Itr] using hn
      · obtain ⟨rfl, rfl⟩ := y
        rw [rngD_get ex]
        exact ⟨G', Gle.refl _, h', .int _⟩
    · exact q1.elim⟩
/-- a text, sign by sign -/
@[simp] def iTxt (T : TDE) : TDI := fun ρ μ Q => T ρ μ fun d μ1 => match d with | .str s => Q (s.cps.toList.map fun c => .str (mk [c])) μ1 | _ => False
theorem di_str {tg e : Expr} {te : TE} {T : TDE} (h : DE X B e te T) : DI X B tg e (iStr te) (iTxt T) := ⟨pi_str h.pe, fun ρ μ σ H G Q R S q hd => h.ref ρ μ σ H G _ _ S q fun d μ1 v H1 G1 g1 S1 r1 q1 => by
  cases d with
  | str s =>
    cases r1
    refine ⟨s, rfl, hd _ μ1 _ H1 G1 g1 S1 q1 (fun n H' G' μ' g h' => ⟨fun hn => ?_, fun hn => ?_⟩) fun n x w H' H2 G' μ' g h' ex y => ?_⟩
    · simpa [Its] using hn
    · simpa [Its] using hn
    · obtain ⟨rfl, c, ec, rfl⟩ := y
      refine ⟨G', Gle.refl _, h', ?_⟩
      rw [List.getElem?_map] at ex
      have : s.cps.toList[n]? = some c := by simpa using ec
      rw [this] at ex
      cases ex
      exact .str _
  | _ => exact False.elim q1⟩
end

/-! ### while: an invariant, a measure -/
def dWhile (c : TDT) (T : TDS) : TDS := fun E ρ μ => ∃ W : Nat → DR → Mu → Prop, (∃ m, W m ρ μ) ∧ ∀ m ρ μ, W m ρ μ →
  c ρ μ fun b μ1 => if b = true then T { E with nx := fun ρ' μ' => ∃ m', m' < m ∧ W m' ρ' μ', ct := fun ρ' μ' => ∃ m', m' < m ∧ W m' ρ' μ', bk := E.nx } ρ μ1 else E.nx ρ μ1
section
variable {X : Cx} {pos : Pos}
theorem ds_while {c : Expr} {body : List Stmt} {tc : TT} {t : TS} {Tc : TDT} {T : TDS} (hp : PassesOwn (model X.prog X.w) X.A X.env X.xe) (hc : DT X B c tc Tc) (hb : DSs X B body t T) : DS X B (.While c body [] pos) (tWhile tc t) (dWhile Tc T) :=
  ⟨ps_while hp hc.pt hb.pss, fun ρ μ σ H G E Dn S h hd => by
    obtain ⟨W, ⟨m0, w0⟩, turn⟩ := h
    refine ⟨fun m σ' H' => ∃ G' ρ' μ', Gle G G' ∧ Sat X.K B G' ρ' μ' σ' H' ∧ W m ρ' μ', ⟨m0, G, ρ, μ, Gle.refl G, S, w0⟩, ?_⟩
    rintro m σ' H' ⟨G', ρ', μ', g, S', w⟩
    refine hc.ref ρ' μ' σ' H' G' _ _ S' (turn m ρ' μ' w) fun b μ1 H1 G1 g1 S1 q1 => ?_
    cases b with
    | true =>
      refine ⟨fun σ3 H3 => ∃ m', m' < m ∧ ∃ G3 ρ3 μ3, Gle G G3 ∧ Sat X.K B G3 ρ3 μ3 σ3 H3 ∧ W m' ρ3 μ3, fun σ3 H3 ⟨m', l, r⟩ => ⟨m', l, r⟩, ?_⟩
      refine hb.ref ρ' μ1 σ' H1 G1 _ _ S1 q1 ⟨?_, ?_, ?_, ?_⟩
      · exact fun ρ5 μ5 σ5 H5 G5 g5 S5 ⟨m', l, w5⟩ => ⟨m', l, G5, ρ5, μ5, (g.trans g1).trans g5, S5, w5⟩
      · exact fun d μ5 v5 H5 G5 g5 S5 r5 q5 => hd.rt d μ5 v5 H5 G5 ((g.trans g1).trans g5) S5 r5 q5
      · exact fun ρ5 μ5 σ5 H5 G5 g5 S5 q5 => hd.nx ρ5 μ5 σ5 H5 G5 ((g.trans g1).trans g5) S5 q5
      · exact fun ρ5 μ5 σ5 H5 G5 g5 S5 ⟨m', l, w5⟩ => ⟨m', l, G5, ρ5, μ5, (g.trans g1).trans g5, S5, w5⟩
    | false => exact hd.nx ρ' μ1 σ' H1 G1 (g.trans g1) S1 q1⟩
end
end DL

/-! DL5: comprehensions, calls, defs, the law's end. -/
namespace DL
open PySem PySem.Spec PyProof.Rows L2

/-! ### comprehensions -/
@[simp] def wipeD (ρ : DR) : List Nat → DR
  | [] => ρ
  | v :: vs => (wipeD ρ vs).set v none
theorem Envr.unset {K : PySem.W.Frag} {G : Gh} {σ : St} {ρ : DR} (h : Envr K B G σ ρ) (i : Nat) : Envr K B G (σ.set i none) (ρ.set i none) := by
  refine ⟨⟨by simp [h.1.1], h.1.2⟩, fun j d q => ?_⟩
  rw [List.getElem?_set] at q
  split at q
  · next e =>
    split at q
    · cases q
    · cases q
  · next e => obtain ⟨u, a, b⟩ := h.2 j d q; exact ⟨u, by rw [List.getElem?_set_ne e]; exact a, b⟩
theorem Envr.wipe {K : PySem.W.Frag} {G : Gh} {σ : St} {ρ : DR} (h : Envr K B G σ ρ) : ∀ vs : List Nat, Envr K B G (L2.wipe σ vs) (wipeD ρ vs)
  | [] => h
  | v :: vs => (Envr.wipe h vs).unset v
/-- the comprehension's names alone are stored by the target -/
def KeepG (t : TG) (vs : List Nat) : Prop := ∀ v σ H (Q : St → Hp → Prop), t v σ H Q → t v σ H fun σ' H' => L2.wipe σ' vs = L2.wipe σ vs ∧ Q σ' H'
theorem wipe_set {σ : St} {i : Nat} {x : Option V} : ∀ {vs : List Nat}, i ∈ vs → L2.wipe (σ.set i x) vs = L2.wipe σ vs
  | v :: vs, h => by
    show (L2.wipe (σ.set i x) vs).set v none = (L2.wipe σ vs).set v none
    by_cases hm : i ∈ vs
    · rw [wipe_set hm]
    · have e : i = v := by
        rcases List.mem_cons.mp h with e | e
        · exact e
        · exact absurd e hm
      subst e
      have aux : ∀ (ws : List Nat) (τ : St), i ∉ ws → (L2.wipe (τ.set i x) ws).set i none = (L2.wipe τ ws).set i none := by
        intro ws
        induction ws with
        | nil => intro τ _; show (τ.set i x).set i none = τ.set i none; rw [List.set_set]
        | cons w ws ih =>
          intro τ hn
          have n1 : i ≠ w := fun e => hn (e ▸ List.mem_cons_self)
          have n2 : i ∉ ws := fun e => hn (List.mem_cons_of_mem _ e)
          show ((L2.wipe (τ.set i x) ws).set w none).set i none = ((L2.wipe τ ws).set w none).set i none
          rw [List.set_comm _ _ n1.symm, ih τ n2, List.set_comm _ _ n1]
      exact aux vs σ hm
theorem keep_name {i : Nat} {vs : List Nat} (h : i ∈ vs) : KeepG (gName i) vs := fun v σ H Q q => ⟨wipe_set h, q⟩
def KeepGs (t : TGs) (vs : List Nat) : Prop := ∀ xs σ H (Q : St → Hp → Prop), t xs σ H Q → t xs σ H fun σ' H' => L2.wipe σ' vs = L2.wipe σ vs ∧ Q σ' H'
theorem keep_nil {vs : List Nat} : KeepGs gNil vs := fun xs σ H Q ⟨e, q⟩ => ⟨e, rfl, q⟩
theorem keep_cons {i : Nat} {t : TGs} {vs : List Nat} (h : i ∈ vs) (hs : KeepGs t vs) : KeepGs (gCons (gName i) t) vs := fun xs σ H Q ⟨v, r, e, q⟩ => ⟨v, r, e, by
  have q1 := hs r (σ.set i (some v)) H Q q
  rw [wipe_set h] at q1
  exact q1⟩
theorem keep_tup {K : PySem.W.Frag} {n : Nat} {t : TGs} {vs : List Nat} (h : KeepGs t vs) : KeepG (gTup K n t) vs := fun v σ H Q ⟨a, xs, e1, e2, e3, q⟩ => ⟨a, xs, e1, e2, e3, h xs σ H Q q⟩
theorem wipe_wipe (σ : St) (vs : List Nat) : L2.wipe (L2.wipe σ vs) vs = L2.wipe σ vs := by
  have aux : ∀ (ws vs : List Nat) (τ : St), (∀ w ∈ ws, w ∈ vs) → L2.wipe (L2.wipe τ ws) vs = L2.wipe τ vs := by
    intro ws
    induction ws with
    | nil => intro vs τ _; rfl
    | cons w ws ih =>
      intro vs τ hs
      show L2.wipe ((L2.wipe τ ws).set w none) vs = _
      rw [wipe_set (hs w List.mem_cons_self)]
      exact ih vs τ fun x hx => hs x (List.mem_cons_of_mem _ hx)
  exact aux vs vs σ fun _ h => h

def compL (g : TDG) (tt : TDT) (te : TDE) (p : Addr) (ρ0 : DR) (Q : Mu → Prop) : List D → Mu → Prop
  | [], μ => Q μ
  | x :: r, μ => g x ρ0 μ fun ρ2 μ2 => tt ρ2 μ2 fun b μ3 => if b = true then te ρ2 μ3 fun d μ4 => ∃ acc, μ4 p = some (.lst acc) ∧ acc.length < sizeLine ∧ compL g tt te p ρ0 Q r (mup μ4 p (.lst (acc ++ [d]))) else compL g tt te p ρ0 Q r μ3
/-- the made list: a cell, or frozen -/
@[simp] def endL (c : Bool) (p : Addr) (μ : Mu) (Q : QD) : Prop := match c with
  | true => Q (.ptr p) μ
  | false => ∃ acc, μ p = some (.lst acc) ∧ Q (.lst acc) (mdel μ p)
@[simp] def dLc (c : Bool) (I : TDI) (g : TDG) (tt : TDT) (te : TDE) (vs : List Nat) : TDE := fun ρ μ Q => I ρ μ fun xs μ1 => ∀ p, μ1 p = none → compL g tt te p (wipeD ρ vs) (fun μ2 => endL c p μ2 Q) xs (mup μ1 p (.lst []))
theorem endL_go {K : PySem.W.Frag} {c : Bool} {p : Addr} {μ : Mu} {Q : QD} {ρ : DR} {σ : St} {H : Hp} {G : Gh} {Qn : VK} (h : endL c p μ Q) (S : Sat K B G ρ μ σ H) (hd : Hand K B G ρ σ Q Qn) : Qn (.ref p) H := by
  cases c with
  | true => exact hd.now S (.ptr p) h
  | false =>
    obtain ⟨acc, e, q⟩ := h
    obtain ⟨ws, h1, rr⟩ := S.hold.lstAt e
    have g : Gle G (G.frz p (.lst ws)) := Gle.frz (S.hold.cell p _ e).1
    exact hd _ _ _ _ _ g ⟨S.hold.freeze e h1, S.env.mono g⟩ (.lst (show upd G.fr p (.lst ws) p = some (.lst ws) from upd_same) rr.1 fun j v d x y => (rr.2 j v d x y).mono g) q
theorem ref_lc {K : PySem.W.Frag} {c : Bool} {I : TDI} {i : TI} {g : TDG} {gn : TG} {tt : TDT} {ttn : TT} {te : TDE} {ten : TE} {vs : List Nat} (hi : RefI K B I i) (hg : RefG K B g gn) (hk : KeepG gn vs) (ht : RefT K B tt ttn) (he : RefE K B te ten) : RefE K B (dLc c I g tt te vs) (tLc i gn ttn ten vs) := fun ρ μ σ H G Q Qn S h hd => by
  refine hi ρ μ σ H G _ _ S h fun xs μ1 J H1 G1 g1 S1 q1 hgo hy => ?_
  intro p np
  have hc1 : Hold K G1 (mup μ1 p (.lst [])) (upd H1 p (.lst [])) := S1.hold.cellNew np (show CellR K G1 (.lst []) (.lst []) from Reps.nil)
  have q2 := q1 p (S1.hold.free np).2.1
  refine ⟨fun n m H' => m = xs.length - n ∧ n ≤ xs.length ∧ ∃ G' μ', Gle G1 G' ∧ Hold K G' μ' H' ∧ compL g tt te p (wipeD ρ vs) (fun μ2 => endL c p μ2 Q) (xs.drop n) μ', ⟨xs.length, by simp, Nat.zero_le _, G1, _, Gle.refl _, hc1, by simpa using q2⟩, ?_⟩
  rintro n m H' ⟨rfl, hn, G', μ', g2, S2, q3⟩
  by_cases hlt : n < xs.length
  · refine .inr ⟨(hgo n H' G' μ' g2 S2).1 hlt, fun H3 => ∃ G3 μ3, Gle G1 G3 ∧ Hold K G3 μ3 H3 ∧ compL g tt te p (wipeD ρ vs) (fun μ2 => endL c p μ2 Q) (xs.drop (n + 1)) μ3, ?_, ?_⟩
    · rintro H3 ⟨G3, μ3, g3, S3, q4⟩
      exact ⟨xs.length - (n + 1), by omega, rfl, hlt, G3, μ3, g3, S3, q4⟩
    · intro v H2 yv
      obtain ⟨G2, g3, h2, rv⟩ := hy n xs[n] v H' H2 G' μ' g2 S2 (List.getElem?_eq_getElem hlt) yv
      rw [List.drop_eq_getElem_cons hlt] at q3
      have S3 : Sat K B G2 (wipeD ρ vs) μ' (L2.wipe σ vs) H2 := ⟨h2, (((S1.env.mono g2).mono g3).wipe vs)⟩
      have q4 := hg xs[n] v (wipeD ρ vs) μ' (L2.wipe σ vs) H2 G2 _ (fun σ2 H3 => ttn σ2 H3 fun b H3 => if b = true then ten σ2 H3 fun y H4 => ∃ acc, H4 p = some (.lst acc) ∧ acc.length < sizeLine ∧ (∃ G3 μ3, Gle G1 G3 ∧ Hold K G3 μ3 (upd H4 p (.lst (acc ++ [y]))) ∧ compL g tt te p (wipeD ρ vs) (fun μ2 => endL c p μ2 Q) (xs.drop (n + 1)) μ3) else ∃ G3 μ3, Gle G1 G3 ∧ Hold K G3 μ3 H3 ∧ compL g tt te p (wipeD ρ vs) (fun μ2 => endL c p μ2 Q) (xs.drop (n + 1)) μ3) S3 rv q3 fun ρ4 μ4 σ4 H4 G4 g4 S4 q4 => by
        refine ht ρ4 μ4 σ4 H4 G4 _ _ S4 q4 fun b μ5 H5 G5 g5 S5 q5 => ?_
        cases b with
        | true =>
          refine he ρ4 μ5 σ4 H5 G5 _ _ S5 q5 fun d μ6 v6 H6 G6 g6 S6 r6 q6 => ?_
          obtain ⟨acc, e, l, q6⟩ := q6
          obtain ⟨ws, h1, rr⟩ := S6.hold.lstAt e
          exact ⟨ws, h1, by rw [rr.1]; exact l, G6, _, (((g2.trans g3).trans g4).trans g5).trans g6, S6.hold.cellSet e (show CellR K G6 (.lst (ws ++ [v6])) (.lst (acc ++ [d])) from rr.append (Reps.one r6)), q6⟩
        | false => exact ⟨G5, μ5, ((g2.trans g3).trans g4).trans g5, S5.hold, q5⟩
      have q5 := hk v (L2.wipe σ vs) H2 _ q4
      rw [wipe_wipe] at q5
      exact q5
  · have e : n = xs.length := by omega
    subst e
    rw [List.drop_length] at q3
    exact .inl ⟨(hgo _ H' G' μ' g2 S2).2 (Nat.le_refl _), endL_go q3 ⟨S2, S1.env.mono g2⟩ (hd.mono (g1.trans g2))⟩
structure DTs (X : Cx) (B : Gh) (ifs : List Expr) (t : TT) (T : TDT) : Prop where
  pts : PTs X ifs t
  ref : RefT X.K B T t
@[simp] def dYes : TDT := fun _ μ Q => Q true μ
theorem dts_nil {X : Cx} : DTs X B [] tYes dYes := ⟨pts_nil, fun ρ μ σ H G Q Qn S q hd => hd true μ H G (Gle.refl G) S q⟩
theorem dts_one {X : Cx} {c : Expr} {t : TT} {T : TDT} (h : DT X B c t T) : DTs X B [c] t T := ⟨pts_one h.pt, h.ref⟩
section
variable {X : Cx} {pos : Pos}
theorem de_lc (c : Bool) {elt tg iter : Expr} {ifs : List Expr} {scope : Scope} {own : List (Str × Nat)} {wi : TI} {I : TDI} {g : TG} {U : TDG} {tt : TT} {Tt : TDT} {te : TE} {Te : TDE} (hc : X.calm = true) (hN : X.N.Nodup) (hi : DI X B tg iter wi I) (ok : BlkOk X.N X.env.scope scope own)
    (hg : ∀ (s : Shared) (H : Hp) (C : Addr) (cl : List (Str × Addr)) (fp : List Addr), DG (X.blk s H scope (compEnvC scope cl C X.env) fp) B tg g U) (hk : KeepG g (own.map (·.2))) (ht : ∀ (s : Shared) (H : Hp) (C : Addr) (cl : List (Str × Addr)) (fp : List Addr), DTs (X.blk s H scope (compEnvC scope cl C X.env) fp) B ifs tt Tt)
    (he : ∀ (s : Shared) (H : Hp) (C : Addr) (cl : List (Str × Addr)) (fp : List Addr), DE (X.blk s H scope (compEnvC scope cl C X.env) fp) B elt te Te) (hs : ∀ x, foldedSetIterable iter X.env x = pure x := by intro _; rfl) :
    DE X B (.ListComp elt [⟨tg, iter, ifs, 0⟩] scope pos) (tLc wi g tt te (own.map (·.2))) (dLc c I U Tt Te (own.map (·.2))) :=
  ⟨pe_lc hc hN hi.pi ok (fun s H C cl fp => (hg s H C cl fp).pg) (fun s H C cl fp => (ht s H C cl fp).pts) (fun s H C cl fp => (he s H C cl fp).pe) hs,
    ref_lc hi.ref (hg X.s_0 X.H_0 0 [] []).ref hk (ht X.s_0 X.H_0 0 [] []).ref (he X.s_0 X.H_0 0 [] []).ref⟩
/-- name = [..] on one line -/
theorem ds_setLc (c : Bool) (i : Nat) {y : Str} {py : Pos} {elt tg iter : Expr} {ifs : List Expr} {scope : Scope} {own : List (Str × Nat)} {spos : Pos} {wi : TI} {I : TDI} {g : TG} {U : TDG} {tt : TT} {Tt : TDT} {te : TE} {Te : TDE} (hc : X.calm = true) (hN : X.N.Nodup) (hy : X.N[i]? = some y) (hyl : X.env.scope.names.lookup y = some .local)
    (hsw : swapsWith (.ListComp elt [⟨tg, iter, ifs, 0⟩] scope pos) (some (.Name y py)) spos.line X.env = pure true) (hi : DI X B tg iter wi I) (ok : BlkOk X.N X.env.scope scope own)
    (hg : ∀ (s : Shared) (H : Hp) (C : Addr) (cl : List (Str × Addr)) (fp : List Addr), DG (X.blk s H scope (compEnvC scope cl C X.env) fp) B tg g U) (hk : KeepG g (own.map (·.2))) (ht : ∀ (s : Shared) (H : Hp) (C : Addr) (cl : List (Str × Addr)) (fp : List Addr), DTs (X.blk s H scope (compEnvC scope cl C X.env) fp) B ifs tt Tt)
    (he : ∀ (s : Shared) (H : Hp) (C : Addr) (cl : List (Str × Addr)) (fp : List Addr), DE (X.blk s H scope (compEnvC scope cl C X.env) fp) B elt te Te) (hs : ∀ x, foldedSetIterable iter X.env x = pure x := by intro _; rfl) :
    DS X B (.Assign [.Name y py] (.ListComp elt [⟨tg, iter, ifs, 0⟩] scope pos) spos) (tAsg (tLc wi g tt te (own.map (·.2))) (gName i)) (dAsg (dLc c I U Tt Te (own.map (·.2))) (dgName i)) :=
  ⟨ps_setLc hc hN hy hyl hsw hi.pi ok (fun s H C cl fp => (hg s H C cl fp).pg) (fun s H C cl fp => (ht s H C cl fp).pts) (fun s H C cl fp => (he s H C cl fp).pe) hs,
    ref_asg (ref_lc hi.ref (hg X.s_0 X.H_0 0 [] []).ref hk (ht X.s_0 X.H_0 0 [] []).ref (he X.s_0 X.H_0 0 [] []).ref) (fun d v ρ μ σ H G Q Qn S r h hd => hd _ μ _ H G (Gle.refl G) ⟨S.hold, S.env.set r i⟩ h)⟩
end

/-! ### calls of own defs -/
abbrev XDt := Value → List (Str × D) → Mu → Prop
abbrev DSp := List D → Mu → QD → XDt → Prop
/-- the dict of what is raised: frozen -/
def XRep (K : PySem.W.Frag) (G : Gh) (fs : List (Str × D)) : Option Addr → Prop
  | none => fs = []
  | some a => ∃ fvs, G.fr a = some (.xd fvs) ∧ FReps K G fvs fs
theorem XRep.mono {K : PySem.W.Frag} {G G' : Gh} {fs : List (Str × D)} {od : Option Addr} (h : XRep K G fs od) (g : Gle G G') : XRep K G' fs od := by
  cases od with
  | none => exact h
  | some a => obtain ⟨fvs, e, r⟩ := h; exact ⟨fvs, g.fr _ _ e, r.mono g⟩
def toSp (K : PySem.W.Frag) (S : DSp) : Sp := fun vs H Q E => ∃ G ds μ QQ EE, Hold K G μ H ∧ Reps K G vs ds ∧ S ds μ QQ EE ∧ (∀ d μ' v H' G', Gle G G' → Hold K G' μ' H' → Rep K G' v d → QQ d μ' → Q v H') ∧
  (∀ cls fs μ' od H' G', Gle G G' → Hold K G' μ' H' → XRep K G' fs od → EE cls fs μ' → E cls od H')
@[simp] def noX : XDt := fun _ _ _ => False
@[simp] def dCall (S : DSp) (T : TDA) : TDE := fun ρ μ Q => T ρ μ fun ds μ1 => S ds μ1 Q noX
section
variable {X : Cx} {pos : Pos} {CX : CXT} {k : Nat} {f : Addr} {fd : FuncData} {ps : List Str} {S : DSp} {x : Str} {p : Pos} {e : Expr} {es : List Expr} {t : TA} {T : TDA}
theorem ref_call {K : PySem.W.Frag} (h : RefA K B T t) : RefE K B (dCall S T) (tCall (toSp K S) [] E0 t) := fun ρ μ σ H G Q Qn St q hd => h ρ μ σ H G _ _ St q fun ds μ1 vs H1 G1 g1 S1 r1 q1 => by
  refine ⟨G1, ds, μ1, Q, noX, S1.hold, by rw [List.append_nil]; exact r1, q1, fun d μ' v H' G' g' h' r' q' => hd d μ' v H' G' (g1.trans g') ⟨h', S1.env.mono g'⟩ r' q', fun _ _ _ _ _ _ _ _ _ z => z.elim⟩
theorem de_call (F : FnOk X.prog X.w X.K X.mg X.base CX0 k f fd ps (toSp X.K S)) (hr : Room k X.A) (hm : X.mg x = some (.ref f)) (hk : PySem.W.keepIn X.K (.ref f) = true) (hb : Binds X.K fd ps []) (ha : DA X B (e :: es) t T) (hg : Gl X x := by rfl)
    (hdb : (x == ("__debug__" : Str)) = false := by decide) (he : starEach (e :: es) X.env = (false, eval e X.env) :: starEach es X.env := by rfl) (hpl : (backTo pos (starEach es X.env)).any (·.1) = false := by rfl) :
    DE X B (.Call (.Name x p) (e :: es) [] pos) (tCall (toSp X.K S) [] E0 t) (dCall S T) := ⟨pe_call F hr hg hm hk hb .nil pass0 ha.pa hdb he hpl, ref_call ha.ref⟩
theorem de_call0 (F : FnOk X.prog X.w X.K X.mg X.base CX0 k f fd ps (toSp X.K S)) (hr : Room k X.A) (hm : X.mg x = some (.ref f)) (hk : PySem.W.keepIn X.K (.ref f) = true) (hb : Binds X.K fd ps []) (hg : Gl X x := by rfl)
    (hdb : (x == ("__debug__" : Str)) = false := by decide) : DE X B (.Call (.Name x p) [] [] pos) (tCall (toSp X.K S) [] E0 tNil) (dCall S dNil) := ⟨pe_call0 F hr hg hm hk hb .nil pass0 hdb, ref_call da_nil.ref⟩
theorem RefA.nil' {K : PySem.W.Frag} : RefA K B dNil tNil := fun ρ μ σ H G Q Qn S h hd => hd [] μ [] H G (Gle.refl G) S Reps.nil h
end

/-! ### a def keeps its promise -/
@[simp] def startD (N : List Str) (ds : List D) : DR := ds.map some ++ List.replicate (N.length - ds.length) none
theorem envr_start {K : PySem.W.Frag} {G : Gh} {vs : List V} {ds : List D} (N : List Str) (r : Reps K G vs ds) (b : Gle B G) : Envr K B G (start N vs) (startD N ds) := by
  refine ⟨⟨by simp [L2.start, startD, r.1], b⟩, fun i d q => ?_⟩
  unfold startD at q
  unfold L2.start
  by_cases h : i < ds.length
  · rw [List.getElem?_append_left (by simpa using h)] at q
    rw [List.getElem?_append_left (by simpa [r.1] using h)]
    rw [List.getElem?_map] at q ⊢
    cases e : ds[i]? with
    | none => rw [e] at q; cases q
    | some d' =>
      rw [e] at q
      cases q
      obtain ⟨v, a, b⟩ := r.get e
      exact ⟨v, by rw [a]; rfl, b⟩
  · rw [List.getElem?_append_right (by simpa using Nat.le_of_not_lt h)] at q
    rw [List.getElem?_replicate] at q
    split at q <;> cases q
section
variable {P : Program} {w : World} {K : PySem.W.Frag} {mg : Str → Option Value} {base : Heap}
theorem fn_ok {x qual : Str} {st : Stmt} {f : Addr} {fd : FuncData} {N ps : List Str} {k : Nat} {S : DSp} (F : Fun K x qual st f fd) (SC : FnScope N ps (defScope st)) (len : ∀ ds μ Q E, S ds μ Q E → ds.length = ps.length)
    (hb : ∀ (B : Gh) (cdv : Value) (A : Around) (outer : List Env) (s : Shared) (H : Hp) (E : XK), Room k (A.deeper (envOfC qual (defScope st) s.heap.objs.size f cdv)) →
      ∃ t T, DSs (cxOf CX0 P w K mg base N qual (defScope st) f cdv A outer s H E).nox B (defBody st) t T ∧ ∀ ds μ Q EE, S ds μ Q EE → T { nx := fun _ μ' => Q .non μ', rt := Q } (startD N ds) μ) : FnOk P w K mg base CX0 (k + 1) f fd ps (toSp K S) :=
  F.ok SC (fun vs H Q E ⟨G, ds, μ, QQ, EE, _, r, s, _⟩ => r.1.trans (len ds μ QQ EE s)) fun cdv A outer s H vs Q E hr ⟨G, ds, μ, QQ, EE, hh, r, sp, q, _⟩ => by
    obtain ⟨t, T, h, b⟩ := hb G cdv A outer s H E hr
    refine ⟨t, h.pss, h.ref (startD N ds) μ (start N vs) H G _ _ ⟨hh, envr_start N r (Gle.refl G)⟩ (b ds μ QQ EE sp) ⟨?_, ?_, ?_, ?_⟩⟩
    · exact fun ρ' μ' σ' H' G' g S' z => q .non μ' .non H' G' g S'.hold .non z
    · exact fun d μ' v H' G' g S' rv z => q d μ' v H' G' g S' rv z
    · exact fun _ _ _ _ _ _ _ z => z.elim
    · exact fun _ _ _ _ _ _ _ z => z.elim
/-- a store with less in it -/
def Sub (μ μ' : Mu) : Prop := ∀ a c, μ a = some c → μ' a = some c
theorem Sub.refl (μ : Mu) : Sub μ μ := fun _ _ h => h
theorem Sub.mup {μ μ' : Mu} {p : Addr} {c : Cell} (h : Sub μ μ') (n : μ p = none) : Sub μ (mup μ' p c) := fun a d e => by
  rw [mup_ne (fun x => by rw [x, n] at e; cases e)]; exact h a d e
theorem Sub.mdel {μ μ' : Mu} {p : Addr} (h : Sub μ μ') (n : μ p = none) : Sub μ (mdel μ' p) := fun a d e => by
  rw [mdel_ne (fun x => by rw [x, n] at e; cases e)]; exact h a d e
theorem Hold.sub {G : Gh} {μ μ' : Mu} {H : Hp} (h : Hold K G μ' H) (s : Sub μ μ') : Hold K G μ H :=
  ⟨h.fr, fun a c q => h.cell a c (s a c q), fun a q => let ⟨x, y, z⟩ := h.src a q; ⟨x, (by cases e : μ a with | none => rfl | some c => rw [s a c e] at y; cases y), z⟩,
    fun a q => let ⟨x, y, z⟩ := h.rooms a q; ⟨x, (by cases e : μ a with | none => rfl | some c => rw [s a c e] at y; cases y), z⟩⟩
/-- what is made and not handed back is forgotten -/
def Fg (P : Mu → Prop) (μ : Mu) : Prop := ∃ μ0, Sub μ0 μ ∧ P μ0
theorem Fg.here {P : Mu → Prop} {μ : Mu} (h : P μ) : Fg P μ := ⟨μ, Sub.refl μ, h⟩
theorem Fg.to {P : Mu → Prop} {μ μ0 : Mu} (h : P μ0) (s : Sub μ0 μ) : Fg P μ := ⟨μ0, s, h⟩
/-- as fn_ok; the def's own cells may be left behind -/
theorem fn_okF {x qual : Str} {st : Stmt} {f : Addr} {fd : FuncData} {N ps : List Str} {k : Nat} {S : DSp} (F : Fun K x qual st f fd) (SC : FnScope N ps (defScope st)) (len : ∀ ds μ Q E, S ds μ Q E → ds.length = ps.length)
    (hb : ∀ (B : Gh) (cdv : Value) (A : Around) (outer : List Env) (s : Shared) (H : Hp) (E : XK), Room k (A.deeper (envOfC qual (defScope st) s.heap.objs.size f cdv)) →
      ∃ t T, DSs (cxOf CX0 P w K mg base N qual (defScope st) f cdv A outer s H E).nox B (defBody st) t T ∧ ∀ ds μ Q EE, S ds μ Q EE → T { nx := fun _ μ' => Fg (Q .non) μ', rt := fun d μ' => Fg (Q d) μ' } (startD N ds) μ) : FnOk P w K mg base CX0 (k + 1) f fd ps (toSp K S) :=
  F.ok SC (fun vs H Q E ⟨G, ds, μ, QQ, EE, _, r, s, _⟩ => r.1.trans (len ds μ QQ EE s)) fun cdv A outer s H vs Q E hr ⟨G, ds, μ, QQ, EE, hh, r, sp, q, _⟩ => by
    obtain ⟨t, T, h, b⟩ := hb G cdv A outer s H E hr
    refine ⟨t, h.pss, h.ref (startD N ds) μ (start N vs) H G _ _ ⟨hh, envr_start N r (Gle.refl G)⟩ (b ds μ QQ EE sp) ⟨?_, ?_, ?_, ?_⟩⟩
    · exact fun ρ' μ' σ' H' G' g S' ⟨μ0, s0, z⟩ => q .non μ0 .non H' G' g (S'.hold.sub s0) .non z
    · exact fun d μ' v H' G' g S' rv ⟨μ0, s0, z⟩ => q d μ0 v H' G' g (S'.sub s0) rv z
    · exact fun _ _ _ _ _ _ _ z => z.elim
    · exact fun _ _ _ _ _ _ _ z => z.elim
end
/-- the law's promise -/
def spLaw : DSp := fun ds μ Q _ => ∃ ns, ds = [.scr ns] ∧ ns.length ≤ 63 ∧ ∀ μ', Q (.bl true) μ'
def g0 (H : Hp) : Gh := ⟨H, [], []⟩
theorem hold0 (K : PySem.W.Frag) (H : Hp) : Hold K (g0 H) (fun _ => none) H := ⟨Ext.refl _, (fun _ _ h => by cases h), (fun _ h => by cases h), (fun _ h => by cases h)⟩
theorem spLaw_of {K : PySem.W.Frag} {H : Hp} {a : Addr} {ns : List Int} {Q : VK} {E : XK} (h : SqL K H a (ns.map V.int)) (l : ns.length ≤ 63) (q : ∀ H', Q (.bl true) H') : toSp K spLaw [.ref a] H Q E :=
  ⟨g0 H, [.scr ns], _, fun d _ => d = .bl true, noX, hold0 K H, Reps.one (.scr h), ⟨ns, rfl, l, fun _ => rfl⟩, fun d μ' v H' G' _ _ r e => by
    subst e
    rw [r.ofBl]; exact q H', fun _ _ _ _ _ _ _ _ _ z => z.elim⟩
theorem walk {l : PySem.W.OpenLaw} {q : Program} {loose : List Str} {XP : (Str → Option Value) → Heap → Prop} {YP : World → Heap → Prop} {d : DefRec} {K : Params → PySem.W.Frag} {k : Nat} (hr : Room k callerA) (hn : l.most = some 63) (hdf : d.params.defaults = [])
    (hY : ∀ (w : World) (h : Heap), YP w h → (K w.params).In h)
    (F : ∀ (w : World) (mg : Str → Option Value) (fa : Addr) (h : Heap), (K w.params).In h → h.Ns mainGlobals mg → mg d.name = some (.ref fa) →
      ∃ fd : FuncData, (∀ (s : Shared) (u : Value), BindsTo s fd ⟨[u], []⟩ [("script", u)]) ∧ ∀ base : Heap, (K w.params).In base → base.Ns mainGlobals mg → FnOk l.prog w (K w.params) mg base CX0 k fa fd ["script"] (toSp (K w.params) spLaw)) :
    PySem.W.WalkO q loose XP YP l.row.toRowW d [] (fun f vs => PySem.call f vs) :=
  L2.walk_of (n := 63) (k := k) (x := "script") (CX := fun _ => CX0) (sp := fun w => toSp (K w.params) spLaw) hn (by decide) hdf hr hY F (fun _ _ a ns hl _ hS => spLaw_of hS hl fun _ => rfl) fun _ _ _ _ _ z => z
end DL

/-! DL6: dicts, join, insert, truth, isinstance. -/
namespace DL
open PySem PySem.Spec PyProof.Rows L2

/-! ### dicts -/
def keyD : D → Option Key
  | .int i => some (.inl i)
  | .str s => some (.inr s)
  | _ => none
def unkey : Key → D
  | .inl i => .int i
  | .inr s => .str s
@[simp] theorem unkey_l {i : Int} : unkey (.inl i) = .int i := rfl
@[simp] theorem unkey_r {i : Str} : unkey (.inr i) = .str i := rfl
@[simp] theorem keyD_int {i : Int} : keyD (.int i) = some (.inl i) := rfl
@[simp] theorem keyD_str {i : Str} : keyD (.str i) = some (.inr i) := rfl
theorem rep_key {K : PySem.W.Frag} {G : Gh} {v : V} {d : D} {k : Key} (r : Rep K G v d) (h : keyD d = some k) : v = kV k := by
  cases d with
  | int i => cases h; exact r.ofInt
  | str s => cases h; exact r.ofStr
  | _ => cases h
theorem rep_unkey {K : PySem.W.Frag} {G : Gh} (k : Key) : Rep K G (kV k) (unkey k) := by
  cases k with
  | inl i => exact .int i
  | inr s => exact .str s
def valD {κ : Type} [DecidableEq κ] (kvs : List (κ × D)) (k : κ) : Option D := (kvs.find? fun kv => decide (kv.1 = k)).map (·.2)
def putD {κ : Type} [DecidableEq κ] (kvs : List (κ × D)) (k : κ) (d : D) : List (κ × D) :=
  if (kvs.any fun kv => decide (kv.1 = k)) = true then kvs.map (fun kv => if kv.1 = k then (kv.1, d) else kv) else kvs ++ [(k, d)]
section
variable {κ : Type} [DecidableEq κ] {K : PySem.W.Frag} {G : Gh}
theorem FReps.cons_inv {kv : List (κ × V)} {k : κ} {d : D} {ds : List (κ × D)} (h : FReps K G kv ((k, d) :: ds)) : ∃ v r, kv = (k, v) :: r ∧ Rep K G v d ∧ FReps K G r ds := by
  obtain ⟨h1, h2⟩ := h
  cases kv with
  | nil => simp at h1
  | cons p r =>
    obtain ⟨k', v⟩ := p
    simp at h1
    obtain ⟨rfl, h1⟩ := h1
    obtain ⟨v', w, e, a, b⟩ := h2.cons_inv
    simp at e
    obtain ⟨rfl, rfl⟩ := e
    exact ⟨v, r, rfl, a, h1, b⟩
theorem FReps.nil_inv {kv : List (κ × V)} (h : FReps K G kv ([] : List (κ × D))) : kv = [] := by
  have := h.1
  simpa using this
theorem FReps.nil : FReps K G ([] : List (κ × V)) ([] : List (κ × D)) := ⟨rfl, Reps.nil⟩
theorem FReps.cons {k : κ} {v : V} {d : D} {kv : List (κ × V)} {ds : List (κ × D)} (r : Rep K G v d) (h : FReps K G kv ds) : FReps K G ((k, v) :: kv) ((k, d) :: ds) := ⟨by simp [h.1], Reps.cons r h.2⟩
theorem FReps.append {kv kw : List (κ × V)} {ds es : List (κ × D)} (h : FReps K G kv ds) (g : FReps K G kw es) : FReps K G (kv ++ kw) (ds ++ es) := ⟨by simp [h.1, g.1], by rw [List.map_append, List.map_append]; exact h.2.append g.2⟩
theorem FReps.len {kv : List (κ × V)} {ds : List (κ × D)} (h : FReps K G kv ds) : kv.length = ds.length := by simpa using congrArg List.length h.1
theorem FReps.val {ds : List (κ × D)} (k : κ) : ∀ {kv : List (κ × V)}, FReps K G kv ds → (∀ d, valD ds k = some d → ∃ v, valV kv k = some v ∧ Rep K G v d) ∧ (valD ds k = none → valV kv k = none) := by
  induction ds with
  | nil => intro kv h; rw [h.nil_inv]; exact ⟨fun d e => by simp [valD] at e, fun _ => rfl⟩
  | cons p ds ih =>
    intro kv h
    obtain ⟨k', d⟩ := p
    obtain ⟨v, r, rfl, a, b⟩ := h.cons_inv
    by_cases e : k' = k
    · subst e
      refine ⟨fun d' q => ?_, fun q => ?_⟩
      · simp [valD] at q; subst q; exact ⟨v, by simp [valV], a⟩
      · simp [valD] at q
    · have e1 : valD ((k', d) :: ds) k = valD ds k := by simp [valD, List.find?_cons, e]
      have e2 : valV ((k', v) :: r) k = valV r k := by simp [valV, List.find?_cons, e]
      rw [e1, e2]
      exact ih b
theorem FReps.any {ds : List (κ × D)} (k : κ) : ∀ {kv : List (κ × V)}, FReps K G kv ds → (kv.any fun kv => decide (kv.1 = k)) = (ds.any fun kv => decide (kv.1 = k)) := by
  induction ds with
  | nil => intro kv h; rw [h.nil_inv]; rfl
  | cons p ds ih =>
    intro kv h
    obtain ⟨k', d⟩ := p
    obtain ⟨v, r, rfl, a, b⟩ := h.cons_inv
    simp only [List.any_cons, ih b]
theorem FReps.mapPut {ds : List (κ × D)} {v : V} {d : D} (k : κ) (r : Rep K G v d) : ∀ {kv : List (κ × V)}, FReps K G kv ds → FReps K G (kv.map (fun kv => if kv.1 = k then (kv.1, v) else kv)) (ds.map (fun kv => if kv.1 = k then (kv.1, d) else kv)) := by
  induction ds with
  | nil => intro kv h; rw [h.nil_inv]; exact FReps.nil
  | cons p ds ih =>
    intro kv h
    obtain ⟨k', d'⟩ := p
    obtain ⟨v', kr, rfl, a, b⟩ := h.cons_inv
    by_cases e : k' = k
    · subst e
      simp only [List.map_cons, if_true]
      exact FReps.cons r (ih b)
    · simp only [List.map_cons, if_neg e]
      exact FReps.cons a (ih b)
theorem FReps.put {ds : List (κ × D)} {kv : List (κ × V)} {v : V} {d : D} (h : FReps K G kv ds) (k : κ) (r : Rep K G v d) : FReps K G (putK kv k v) (putD ds k d) := by
  unfold putK putD
  rw [h.any k]
  split
  · exact FReps.mapPut k r h
  · exact h.append (FReps.cons r FReps.nil)
end
section
variable {X : Cx} {pos : Pos}
/-- d[k] -/
@[simp] def dDGet (Td Tk : TDE) : TDE := fun ρ μ Q => Td ρ μ fun x μ1 => Tk ρ μ1 fun y μ2 => ∃ kvs k d, vw μ2 x = .dic kvs ∧ keyD y = some k ∧ valD kvs k = some d ∧ Q d μ2
theorem de_dget {k : Nat} (hr : Room k X.A) {o i : Expr} {td tk : TE} {Td Tk : TDE} (ho : DE X B o td Td) (hi : DE X B i tk Tk) (hs : NoSl i := by exact fun _ _ => rfl) : DE X B (.Subscript o i pos) (tDGet td tk) (dDGet Td Tk) :=
  ⟨pe_dget (hu_of hr) ho.pe hi.pe hs, fun ρ μ σ H G Q Qn S h hd => ho.ref ρ μ σ H G _ _ S h fun x μ1 v H1 G1 g1 S1 r1 q1 => hi.ref ρ μ1 σ H1 G1 _ _ S1 q1 fun y μ2 w H2 G2 g2 S2 r2 ⟨kvs, k, d, e1, e2, e3, q2⟩ => by
    obtain ⟨a, vs, rfl, h1, rr⟩ := S2.hold.dic (r1.mono g2) e1
    obtain ⟨u, eu, ru⟩ := (rr.val k).1 d e3
    exact ⟨a, u, rfl, .inl ⟨vs, k, h1, rep_key r2 e2, eu.symm⟩, (hd.mono (g1.trans g2)).now S2 ru q2⟩⟩
/-- k in d -/
@[simp] def dDIn (neg : Bool) (Tk Td : TDE) : TDE := fun ρ μ Q => Tk ρ μ fun y μ1 => Td ρ μ1 fun x μ2 => ∃ kvs k, vw μ2 x = .dic kvs ∧ keyD y = some k ∧ Q (.bl (neg ^^ (valD kvs k).isSome)) μ2
theorem dic_get {K : PySem.W.Frag} {G : Gh} {H : Hp} {a : Addr} {vs : List (Key × V)} {kvs : List (Key × D)} {k : Key} {v : V} (h1 : Rd H a (.dK vs)) (rr : FReps K G vs kvs) (e : v = kV k) : ∃ o, DGet H a v o ∧ o.isSome = (valD kvs k).isSome := by
  refine ⟨valV vs k, .inl ⟨vs, k, h1, e, rfl⟩, ?_⟩
  cases q : valD kvs k with
  | none => rw [(rr.val k).2 q]; rfl
  | some d => obtain ⟨u, eu, _⟩ := (rr.val k).1 d q; rw [eu]; rfl
theorem de_din {k : Nat} (hr : Room k X.A) {o i : Expr} {td tk : TE} {Td Tk : TDE} (hi : DE X B i tk Tk) (ho : DE X B o td Td) (hm : behindInMarks .In o = false := by rfl) : DE X B (.Compare i [.In] [o] pos) (tDIn tk td) (dDIn false Tk Td) :=
  ⟨pe_cmp (pc_din (hu_of hr) hi.pe ho.pe) hm, fun ρ μ σ H G Q Qn S h hd => hi.ref ρ μ σ H G _ _ S h fun y μ1 w H1 G1 g1 S1 r1 q1 => ho.ref ρ μ1 σ H1 G1 _ _ S1 q1 fun x μ2 v H2 G2 g2 S2 r2 ⟨kvs, k, e1, e2, q2⟩ => by
    obtain ⟨a, vs, rfl, h1, rr⟩ := S2.hold.dic r2 e1
    obtain ⟨ov, g, es⟩ := dic_get h1 rr (rep_key (r1.mono g2) e2)
    exact ⟨a, ov, rfl, g, (hd.mono (g1.trans g2)).now S2 (.bl _) (by rw [es]; simpa using q2)⟩⟩
theorem de_dnin {k : Nat} (hr : Room k X.A) {o i : Expr} {td tk : TE} {Td Tk : TDE} (hi : DE X B i tk Tk) (ho : DE X B o td Td) (hm : behindInMarks .NotIn o = false := by rfl) : DE X B (.Compare i [.NotIn] [o] pos) (tDNotIn tk td) (dDIn true Tk Td) :=
  ⟨pe_cmp (pc_dnotin (hu_of hr) hi.pe ho.pe) hm, fun ρ μ σ H G Q Qn S h hd => hi.ref ρ μ σ H G _ _ S h fun y μ1 w H1 G1 g1 S1 r1 q1 => ho.ref ρ μ1 σ H1 G1 _ _ S1 q1 fun x μ2 v H2 G2 g2 S2 r2 ⟨kvs, k, e1, e2, q2⟩ => by
    obtain ⟨a, vs, rfl, h1, rr⟩ := S2.hold.dic r2 e1
    obtain ⟨ov, g, es⟩ := dic_get h1 rr (rep_key (r1.mono g2) e2)
    exact ⟨a, ov, rfl, g, (hd.mono (g1.trans g2)).now S2 (.bl _) (by rw [es]; simpa using q2)⟩⟩
theorem dt_din {k : Nat} (hr : Room k X.A) {o i : Expr} {td tk : TE} {Td Tk : TDE} (hi : DE X B i tk Tk) (ho : DE X B o td Td) (hm : behindInMarks .In o = false := by rfl) : DT X B (.Compare i [.In] [o] pos) (tB (tDIn tk td)) (dB (dDIn false Tk Td)) := ⟨pt_cmp (pc_din (hu_of hr) hi.pe ho.pe) hm, ref_B (de_din (pos := pos) hr hi ho hm).ref⟩
theorem dt_dnin {k : Nat} (hr : Room k X.A) {o i : Expr} {td tk : TE} {Td Tk : TDE} (hi : DE X B i tk Tk) (ho : DE X B o td Td) (hm : behindInMarks .NotIn o = false := by rfl) : DT X B (.Compare i [.NotIn] [o] pos) (tB (tDNotIn tk td)) (dB (dDIn true Tk Td)) := ⟨pt_cmp (pc_dnotin (hu_of hr) hi.pe ho.pe) hm, ref_B (de_dnin (pos := pos) hr hi ho hm).ref⟩
/-- d[k] = v, a cell -/
@[simp] def dsDPut (Td Tk Tv : TDE) : TDS := fun E ρ μ => Tv ρ μ fun v μ1 => Td ρ μ1 fun x μ2 => Tk ρ μ2 fun y μ3 => ∃ a kvs k, x = .ptr a ∧ μ3 a = some (.dic kvs) ∧ keyD y = some k ∧ kvs.length < sizeLine ∧ E.nx ρ (mup μ3 a (.dic (putD kvs k v)))
theorem ds_dput {k : Nat} (hr : Room k X.A) {o i value : Expr} {td tk tv : TE} {Td Tk Tv : TDE} {pos' : Pos} (ho : DE X B o td Td) (hi : DE X B i tk Tk) (hv : DE X B value tv Tv) (hs : swapsWith value (some (.Subscript o i pos')) pos.line X.env = pure false := by rfl) :
    DS X B (.Assign [.Subscript o i pos'] value pos) (sDPut td tk tv) (dsDPut Td Tk Tv) :=
  ⟨ps_dput (hu_of hr) ho.pe hi.pe hv.pe hs, fun ρ μ σ H G E Dn S h hd => hv.ref ρ μ σ H G _ _ S h fun dv μ1 v H1 G1 g1 S1 r1 q1 => ho.ref ρ μ1 σ H1 G1 _ _ S1 q1 fun x μ2 xv H2 G2 g2 S2 r2 q2 => hi.ref ρ μ2 σ H2 G2 _ _ S2 q2 fun y μ3 yv H3 G3 g3 S3 r3 ⟨a, kvs, k, e1, e2, e3, l, q3⟩ => by
    subst e1
    cases r2
    obtain ⟨_, o, y, z⟩ := S3.hold.cell a _ e2
    obtain ⟨vs, rfl, z2⟩ := cellR_dic z
    refine ⟨a, _, rfl, .inl ⟨vs, k, y, rep_key r3 e3, by rw [z2.len]; exact l, rfl⟩, ?_⟩
    exact hd.nx ρ _ σ _ G3 ((g1.trans g2).trans g3) (S3.cellSet e2 (show CellR X.K G3 (.dK (putK vs k v)) (.dic (putD kvs k dv)) from z2.put k (r1.mono (g2.trans g3)))) q3⟩
/-- {k: v, ..}: c a cell -/
def mkDc (c : Bool) (kvs : List (Key × D)) (μ : Mu) (Q : QD) : Prop := match c with
  | true => ∀ a, μ a = none → Q (.ptr a) (mup μ a (.dic kvs))
  | false => Q (.dic kvs) μ
@[simp] theorem mkDc_t {kvs : List (Key × D)} {μ : Mu} {Q : QD} : mkDc true kvs μ Q = ∀ a, μ a = none → Q (.ptr a) (mup μ a (.dic kvs)) := rfl
@[simp] theorem mkDc_f {kvs : List (Key × D)} {μ : Mu} {Q : QD} : mkDc false kvs μ Q = Q (.dic kvs) μ := rfl
theorem mkDc_go {K : PySem.W.Frag} {c : Bool} {xs : List (Key × D)} {μ : Mu} {Q : QD} {ρ : DR} {σ : St} {H : Hp} {G : Gh} {vs : List (Key × V)} {Qn : VK} {p : Addr} (h : mkDc c xs μ Q) (S : Sat K B G ρ μ σ H) (r : FReps K G vs xs) (hd : Hand K B G ρ σ Q Qn) (n : H p = none) : Qn (.ref p) (upd H p (.dK vs)) := by
  cases c with
  | true => exact hd (.ptr p) _ _ _ G (Gle.refl G) (S.cellNew n (show CellR K G (.dK vs) (.dic xs) from r)) (.ptr p) (h p (S.hold.free n).2.1)
  | false => exact dic_go h S r hd n
@[simp] def dDNew (c : Bool) : TDE := fun _ μ Q => mkDc c [] μ Q
theorem de_dnew (c : Bool) : DE X B (.Dict [] [] pos) tDNewK (dDNew c) := ⟨pe_dnewK, fun ρ μ σ H G Q Qn S h hd p n => mkDc_go h S FReps.nil hd n⟩
/-- the pairs: written keys and values that only read (constants, names) -/
@[simp] def dPairs : List (TDE × TDE) → DR → Mu → (List (D × D) → Mu → Prop) → Prop
  | [], _, μ, Q => Q [] μ
  | (tk, tv) :: r, ρ, μ, Q => tk ρ μ fun x μ1 => tv ρ μ1 fun y μ2 => dPairs r ρ μ2 fun ps μ3 => Q ((x, y) :: ps) μ3
structure DPs (X : Cx) (B : Gh) (pos : Pos) (keys : List (Option Expr)) (values : List Expr) (trs : List (TE × TE)) (Trs : List (TDE × TDE)) : Prop where
  pps : PPs X pos keys values trs
  ref : ∀ ρ μ σ H G (Q : List (D × D) → Mu → Prop) (Qn : List (V × V) → Hp → Prop), Sat X.K B G ρ μ σ H → dPairs Trs ρ μ Q →
    (∀ ps μ' vs H' G', Gle G G' → Sat X.K B G' ρ μ' σ H' → Reps X.K G' (vs.map (·.1)) (ps.map (·.1)) → Reps X.K G' (vs.map (·.2)) (ps.map (·.2)) → Q ps μ' → Qn vs H') → tPairs trs σ H Qn
theorem dps_nil : DPs X B pos [] [] [] [] := ⟨pps_nil, fun ρ μ σ H G Q Qn S h hd => hd [] μ [] H G (Gle.refl G) S Reps.nil Reps.nil h⟩
theorem dps_cons {k v : Expr} {ks : List (Option Expr)} {vs : List Expr} {tk tv : TE} {trs : List (TE × TE)} {Tk Tv : TDE} {Trs : List (TDE × TDE)} (hk : DE X B k tk Tk) (hv : DE X B v tv Tv) (hr : DPs X B pos ks vs trs Trs) : DPs X B pos (some k :: ks) (v :: vs) ((tk, tv) :: trs) ((Tk, Tv) :: Trs) :=
  ⟨pps_cons hk.pe hv.pe hr.pps, fun ρ μ σ H G Q Qn S h hd => hk.ref ρ μ σ H G _ _ S h fun x μ1 xv H1 G1 g1 S1 r1 q1 => hv.ref ρ μ1 σ H1 G1 _ _ S1 q1 fun y μ2 yv H2 G2 g2 S2 r2 q2 => hr.ref ρ μ2 σ H2 G2 _ _ S2 q2 fun ps μ3 ws H3 G3 g3 S3 r3 r4 q3 =>
    hd ((x, y) :: ps) μ3 ((xv, yv) :: ws) H3 G3 ((g1.trans g2).trans g3) S3 (Reps.cons (r1.mono (g2.trans g3)) r3) (Reps.cons (r2.mono g3) r4) q3⟩
@[simp] def keysD : List (D × D) → Option (List (Key × D))
  | [] => some []
  | (k, d) :: r => match keyD k, keysD r with
    | some k', some r' => some ((k', d) :: r')
    | _, _ => none
def mergeD (more : List (Key × D)) : List (Key × D) := more.foldl (fun acc kv => putD acc kv.1 kv.2) []
@[simp] def dDisp (c : Bool) (Trs : List (TDE × TDE)) : TDE := fun ρ μ Q => ∀ p, μ p = none → dPairs Trs ρ (mup μ p (.dic [])) fun ps μ2 => μ2 p = some (.dic []) ∧ ∃ kvs, keysD ps = some kvs ∧ kvs.length ≤ 15 ∧ (match c with
  | true => Q (.ptr p) (mup μ2 p (.dic (mergeD kvs)))
  | false => Q (.dic (mergeD kvs)) (mdel μ2 p))
theorem keys_go {K : PySem.W.Frag} {G : Gh} : ∀ {ps : List (D × D)} {kvs : List (Key × D)} {vs : List (V × V)}, keysD ps = some kvs → Reps K G (vs.map (·.1)) (ps.map (·.1)) → Reps K G (vs.map (·.2)) (ps.map (·.2)) → ∃ ws : List (Key × V), vs = ws.map (fun kv => (kV kv.1, kv.2)) ∧ FReps K G ws kvs
  | [], kvs, vs, h, r1, _ => by
    cases h
    have : vs = [] := by simpa using r1.nil_inv
    subst this
    exact ⟨[], rfl, FReps.nil⟩
  | (k, d) :: ps, kvs, vs, h, r1, r2 => by
    rw [keysD] at h
    cases q1 : keyD k with
    | none => simp [q1] at h
    | some k' =>
      cases q2 : keysD ps with
      | none => simp [q1, q2] at h
      | some r' =>
        simp [q1, q2] at h
        subst h
        cases vs with
        | nil => have := r1.1; simp at this
        | cons p vs =>
          obtain ⟨v1, w1, e1, a1, b1⟩ := r1.cons_inv
          obtain ⟨v2, w2, e2, a2, b2⟩ := r2.cons_inv
          simp at e1 e2
          obtain ⟨rfl, rfl⟩ := e1
          obtain ⟨rfl, rfl⟩ := e2
          obtain ⟨ws, e, rr⟩ := keys_go q2 b1 b2
          refine ⟨(k', p.2) :: ws, ?_, FReps.cons a2 rr⟩
          rw [List.map_cons, ← e, ← rep_key a1 q1]
theorem merge_go {K : PySem.W.Frag} {G : Gh} {ws : List (Key × V)} {kvs : List (Key × D)} (h : FReps K G ws kvs) : FReps K G (mergeK [] ws) (mergeD kvs) := by
  unfold mergeK mergeD
  have aux : ∀ (kvs : List (Key × D)) (ws : List (Key × V)) (a : List (Key × V)) (b : List (Key × D)), FReps K G ws kvs → FReps K G a b → FReps K G (ws.foldl (fun acc kv => putK acc kv.1 kv.2) a) (kvs.foldl (fun acc kv => putD acc kv.1 kv.2) b) := by
    intro kvs
    induction kvs with
    | nil => intro ws a b h h2; rw [h.nil_inv]; exact h2
    | cons p kvs ih =>
      intro ws a b h h2
      obtain ⟨k, d⟩ := p
      obtain ⟨v, r, rfl, x, y⟩ := h.cons_inv
      exact ih r _ _ y (h2.put k x)
  exact aux kvs ws [] [] h FReps.nil
theorem de_disp (c : Bool) {keys : List (Option Expr)} {values : List Expr} {trs : List (TE × TE)} {Trs : List (TDE × TDE)} (h : DPs X B pos keys values trs Trs) (hall : keys.all (·.isSome) = true := by rfl) (hl : keys.length = values.length := by rfl) (h0 : keys ≠ [] := by exact fun z => nomatch z)
    (h15 : keys.length ≤ 15 := by decide) : DE X B (.Dict keys values pos) (tDisp trs) (dDisp c Trs) :=
  ⟨pe_disp h.pps hall hl h0 h15, fun ρ μ σ H G Q Qn S q hd p n => by
    refine h.ref ρ _ σ _ G _ _ (S.cellNew n (show CellR X.K G (.dK []) (.dic []) from FReps.nil)) (q p (S.hold.free n).2.1) fun ps μ2 vs H2 G2 g2 S2 r1 r2 ⟨e, kvs, ek, l, q2⟩ => ?_
    obtain ⟨f1, o, y, z⟩ := S2.hold.cell p _ e
    obtain ⟨ws0, rfl, z2⟩ := cellR_dic z
    obtain rfl := z2.nil_inv
    obtain ⟨ws, rfl, rr⟩ := keys_go ek r1 r2
    refine ⟨y, ws, rfl, by rw [rr.len]; exact l, ?_⟩
    have rm := merge_go rr
    have S3 := S2.cellSet e (show CellR X.K G2 (.dK (mergeK [] ws)) (.dic (mergeD kvs)) from rm)
    cases c with
    | true => exact (hd.mono g2).now S3 (.ptr p) q2
    | false =>
      have e3 : (mup μ2 p (.dic (mergeD kvs))) p = some (.dic (mergeD kvs)) := mup_same
      have g : Gle G2 (G2.frz p (.dK (mergeK [] ws))) := Gle.frz f1
      have ed : mdel (mup μ2 p (.dic (mergeD kvs))) p = mdel μ2 p := by
        funext b; unfold mdel mup; split <;> simp_all
      have hf := S3.hold.freeze e3 upd_same
      rw [ed] at hf
      exact hd _ _ _ _ _ (g2.trans g) ⟨hf, S3.env.mono g⟩ (.dic (show upd G2.fr p _ p = _ from upd_same) rm.1 fun j v d x y => (rm.2.2 j v d x y).mono g) q2⟩

/-! ### for k in d: d a cell, locked while the loop runs -/
@[simp] def lockE (E : DEnds) (a : Addr) (kvs : List (Key × D)) (od : Obj) (vs : List (Key × V)) : DEnds :=
  { nx := fun ρ' μ' => μ' a = some (.dicL od vs kvs) ∧ E.nx ρ' (mup μ' a (.dic kvs)), rt := fun d μ' => μ' a = some (.dicL od vs kvs) ∧ E.rt d (mup μ' a (.dic kvs)), bk := fun ρ' μ' => μ' a = some (.dicL od vs kvs) ∧ E.bk ρ' (mup μ' a (.dic kvs)), ct := fun ρ' μ' => μ' a = some (.dicL od vs kvs) ∧ E.ct ρ' (mup μ' a (.dic kvs)) }
@[simp] def dLock (i : Nat) (T : TDS) : TDS := fun E ρ μ => match ρ[i]? with
  | some (some (.ptr a)) => match μ a with
    | some (.dic kvs) => ∀ od vs, T (lockE E a kvs od vs) ρ (mup μ a (.dicL od vs kvs))
    | _ => False
  | _ => False
theorem unlock_go {K : PySem.W.Frag} {G : Gh} {μ : Mu} {H : Hp} {a : Addr} {kvs : List (Key × D)} {od : Obj} {vs : List (Key × V)} (S : Hold K G μ H) (e : μ a = some (.dicL od vs kvs)) : H a = some (.frz od (.dK vs)) ∧ Hold K G (mup μ a (.dic kvs)) (upd H a (.dK vs)) := by
  obtain ⟨_, o, y, z⟩ := S.cell a _ e
  obtain ⟨rfl, z2⟩ := cellR_dicL z
  exact ⟨y, S.cellSet e (show CellR K G (.dK vs) (.dic kvs) from z2)⟩
theorem ds_lock (i : Nat) {st : Stmt} {t : TS} {T : TDS} (h : DS X B st t T) : DS X B st (tLock t) (dLock i T) := ⟨ps_lock h.ps, fun ρ μ σ H G E Dn S q hd => by
  unfold dLock at q
  split at q
  · next a e =>
    split at q
    · next kvs e2 =>
      obtain ⟨v, ev, rv⟩ := S.env.2 i _ e
      cases rv
      obtain ⟨_, o, y, z⟩ := S.hold.cell a _ e2
      obtain ⟨vs, rfl, z2⟩ := cellR_dic z
      refine ⟨a, _, y, trivial, fun od => ?_⟩
      refine h.ref ρ _ σ _ G _ _ (S.cellSet e2 (show CellR X.K G (.frz od (.dK vs)) (.dicL od vs kvs) from ⟨rfl, rfl, z2⟩)) (q od vs) ⟨?_, ?_, ?_, ?_⟩
      · rintro ρ' μ' σ' H' G' g S' ⟨e3, q'⟩
        obtain ⟨h1, h2⟩ := unlock_go S'.hold e3
        exact ⟨h1, hd.nx ρ' _ σ' _ G' g ⟨h2, S'.env⟩ q'⟩
      · rintro d μ' v H' G' g S' rv ⟨e3, q'⟩
        obtain ⟨h1, h2⟩ := unlock_go S' e3
        exact ⟨h1, hd.rt d _ v _ G' g h2 rv q'⟩
      · rintro ρ' μ' σ' H' G' g S' ⟨e3, q'⟩
        obtain ⟨h1, h2⟩ := unlock_go S'.hold e3
        exact ⟨h1, hd.bk ρ' _ σ' _ G' g ⟨h2, S'.env⟩ q'⟩
      · rintro ρ' μ' σ' H' G' g S' ⟨e3, q'⟩
        obtain ⟨h1, h2⟩ := unlock_go S'.hold e3
        exact ⟨h1, hd.ct ρ' _ σ' _ G' g ⟨h2, S'.env⟩ q'⟩
    · exact q.elim
  · exact q.elim⟩
/-! a walk that leans on the store: Kp holds at each turn -/
abbrev TDIK := DR → Mu → (List D → (Mu → Prop) → Mu → Prop) → Prop
def loopK (g : TDG) (T : TDS) (E : DEnds) (Kp : Mu → Prop) : List D → DR → Mu → Prop
  | [], ρ, μ => Kp μ ∧ E.nx ρ μ
  | x :: r, ρ, μ => Kp μ ∧ g x ρ μ fun ρ2 μ2 => T { E with nx := loopK g T E Kp r, ct := loopK g T E Kp r, bk := E.nx } ρ2 μ2
theorem loopK_kp {g : TDG} {T : TDS} {E : DEnds} {Kp : Mu → Prop} {xs : List D} {ρ : DR} {μ : Mu} (h : loopK g T E Kp xs ρ μ) : Kp μ := by
  cases xs with
  | nil => exact h.1
  | cons x r => exact h.1
@[simp] def dForK (I : TDIK) (g : TDG) (T : TDS) : TDS := fun E ρ μ => I ρ μ fun xs Kp μ1 => loopK g T E Kp xs ρ μ1
def RefIK (K : PySem.W.Frag) (B : Gh) (I : TDIK) (i : TI) : Prop := ∀ ρ μ σ H G (Q : List D → (Mu → Prop) → Mu → Prop) (R : It → Hp → Prop), Sat K B G ρ μ σ H → I ρ μ Q →
  (∀ xs Kp μ1 J H1 G1, Gle G G1 → Sat K B G1 ρ μ1 σ H1 → Q xs Kp μ1 →
    (∀ n H' G' μ', Gle G1 G' → Hold K G' μ' H' → Kp μ' → (n < xs.length → J.go n H') ∧ (xs.length ≤ n → J.stop n H')) →
    (∀ n x v H' H2 G' μ', Gle G1 G' → Hold K G' μ' H' → Kp μ' → xs[n]? = some x → J.yld n H' v H2 → ∃ G2, Gle G' G2 ∧ Hold K G2 μ' H2 ∧ Rep K G2 v x) → R J H1) → i σ H R
theorem ref_forK {K : PySem.W.Frag} {I : TDIK} {i : TI} {g : TDG} {gn : TG} {T : TDS} {t : TS} (hi : RefIK K B I i) (hg : RefG K B g gn) (ht : RefS K B T t) : RefS K B (dForK I g T) (tFor i gn t) := fun ρ μ σ H G E Dn S h hd => by
  refine hi ρ μ σ H G _ _ S h fun xs Kp μ1 J H1 G1 g1 S1 q1 hgo hy => ?_
  refine ⟨fun n m σ' H' => m = xs.length - n ∧ n ≤ xs.length ∧ ∃ G' ρ' μ', Gle G1 G' ∧ Sat K B G' ρ' μ' σ' H' ∧ loopK g T E Kp (xs.drop n) ρ' μ', ⟨xs.length, by simp, Nat.zero_le _, G1, ρ, μ1, Gle.refl _, S1, by simpa using q1⟩, ?_⟩
  rintro n m σ' H' ⟨rfl, hn, G', ρ', μ', g2, S2, q2⟩
  have kp := loopK_kp q2
  by_cases hlt : n < xs.length
  · refine .inr ⟨(hgo n H' G' μ' g2 S2.hold kp).1 hlt, fun σ3 H3 => ∃ G3 ρ3 μ3, Gle G1 G3 ∧ Sat K B G3 ρ3 μ3 σ3 H3 ∧ loopK g T E Kp (xs.drop (n + 1)) ρ3 μ3, ?_, ?_⟩
    · rintro σ3 H3 ⟨G3, ρ3, μ3, g3, S3, q3⟩
      exact ⟨xs.length - (n + 1), by omega, rfl, hlt, G3, ρ3, μ3, g3, S3, q3⟩
    · intro v H2 yv
      obtain ⟨G2, g3, h2, rv⟩ := hy n xs[n] v H' H2 G' μ' g2 S2.hold kp (List.getElem?_eq_getElem hlt) yv
      rw [List.drop_eq_getElem_cons hlt] at q2
      have S3 : Sat K B G2 ρ' μ' σ' H2 := ⟨h2, S2.env.mono g3⟩
      refine hg xs[n] v ρ' μ' σ' H2 G2 _ _ S3 rv q2.2 fun ρ4 μ4 σ4 H4 G4 g4 S4 q4 => ?_
      refine ht ρ4 μ4 σ4 H4 G4 _ _ S4 q4 ⟨?_, ?_, ?_, ?_⟩
      · exact fun ρ5 μ5 σ5 H5 G5 g5 S5 q5 => ⟨G5, ρ5, μ5, ((g2.trans g3).trans g4).trans g5, S5, q5⟩
      · exact fun d μ5 v5 H5 G5 g5 S5 r5 q5 => hd.rt d μ5 v5 H5 G5 ((((g1.trans g2).trans g3).trans g4).trans g5) S5 r5 q5
      · exact fun ρ5 μ5 σ5 H5 G5 g5 S5 q5 => hd.nx ρ5 μ5 σ5 H5 G5 ((((g1.trans g2).trans g3).trans g4).trans g5) S5 q5
      · exact fun ρ5 μ5 σ5 H5 G5 g5 S5 q5 => ⟨G5, ρ5, μ5, ((g2.trans g3).trans g4).trans g5, S5, q5⟩
  · have e : n = xs.length := by omega
    subst e
    rw [List.drop_length] at q2
    exact .inl ⟨(hgo _ H' G' μ' g2 S2.hold kp).2 (Nat.le_refl _), hd.nx ρ' μ' σ' H' G' (g1.trans g2) S2 q2.2⟩
structure DIK (X : Cx) (B : Gh) (tg e : Expr) (i : TI) (I : TDIK) : Prop where
  pi : PI X tg e i
  ref : RefIK X.K B I i
theorem ds_forK {tg iter : Expr} {body : List Stmt} {i : TI} {I : TDIK} {g : TG} {U : TDG} {t : TS} {T : TDS} (hp : PassesOwn (model X.prog X.w) X.A X.env X.xe) (hc : X.calm = true) (hi : DIK X B tg iter i I) (hg : DG X B tg g U) (hb : DSs X B body t T)
    (hs : ∀ x, foldedSetIterable iter X.env x = pure x := by intro _; rfl) : DS X B (.For tg iter body [] pos) (tFor i g t) (dForK I U T) := ⟨ps_for hp hc hi.pi hg.pg hb.pss hs, ref_forK hi.ref hg.ref hb.ref⟩
/-- the keys of a locked cell -/
@[simp] def iKey (T : TDE) : TDIK := fun ρ μ Q => T ρ μ fun d μ1 => match d with
  | .ptr a => match μ1 a with
    | some (.dicL od vs kvs) => Q (kvs.map fun kv => unkey kv.1) (fun μ' => μ' a = some (.dicL od vs kvs)) μ1
    | _ => False
  | _ => False
theorem di_key {tg e : Expr} {te : TE} {T : TDE} (h : DE X B e te T) : DIK X B tg e (iKeys te) (iKey T) := ⟨pi_keys h.pe, fun ρ μ σ H G Q R S q hd => h.ref ρ μ σ H G _ _ S q fun d μ1 v H1 G1 g1 S1 r1 q1 => by
  cases d with
  | ptr a =>
    cases r1
    have q2 : (match μ1 a with
      | some (.dicL od vs kvs) => Q (kvs.map fun kv => unkey kv.1) (fun μ' => μ' a = some (.dicL od vs kvs)) μ1
      | _ => False) := q1
    split at q2
    · next od vs kvs e =>
      have at' : ∀ {H' : Hp} {G' : Gh} {μ' : Mu}, Hold X.K G' μ' H' → μ' a = some (.dicL od vs kvs) → H' a = some (.frz od (.dK vs)) ∧ FReps X.K G' vs kvs := fun hh e => by
        obtain ⟨_, o, y, z⟩ := hh.cell a _ e
        obtain ⟨rfl, z2⟩ := cellR_dicL z
        exact ⟨y, z2⟩
      obtain ⟨h1, rr⟩ := at' S1.hold e
      refine ⟨a, od, rfl, .inl ⟨vs, h1, hd _ _ μ1 _ H1 G1 g1 S1 q2 (fun n H' G' μ' g h' kp => ⟨fun hn => ?_, fun hn => ?_⟩) fun n x w H' H2 G' μ' g h' kp ex y => ?_⟩⟩
      · exact ⟨(at' h' kp).1, by rw [rr.len]; simpa using hn⟩
      · exact ⟨(at' h' kp).1, by rw [rr.len]; simpa using hn⟩
      · obtain ⟨rfl, k, v, ek, rfl⟩ := y
        refine ⟨G', Gle.refl _, h', ?_⟩
        rw [List.getElem?_map] at ex
        have e3 : (vs.map (·.1))[n]? = some k := by rw [List.getElem?_map, ek]; rfl
        rw [rr.1, List.getElem?_map] at e3
        cases q : kvs[n]? with
        | none => rw [q] at e3; cases e3
        | some p =>
          rw [q] at e3 ex
          cases e3; cases ex
          exact rep_unkey _
    · exact q2.elim
  | _ => exact False.elim q1⟩
end
/-! join, insert -/
section
variable {X : Cx} {pos : Pos}
@[simp] def mJoin : RMD := fun x ds μ Q => match x, ds with
  | .str a, [d] => ∃ xs ss, vw μ d = .lst xs ∧ strsOf xs = some ss ∧ (ss.map (·.length)).sum + ss.length * a.length ≤ 16777216 ∧ Q (.str (Txt.join a ss)) μ
  | _, _ => False
theorem dm_join : MtR X "str.join" (fun x xs H Q => ∃ a p, ∃ ys : List Str, x = .str a ∧ xs = [.ref p] ∧ (SqL X.K H p (ys.map V.str) ∨ SqT X.K H p (ys.map V.str)) ∧
    (ys.map (·.length)).sum + ys.length * a.length ≤ 16777216 ∧ Q (.str (Txt.join a ys)) H) ∧ RefM X.K B "str" mJoin (fun x xs H Q => ∃ a p, ∃ ys : List Str, x = .str a ∧ xs = [.ref p] ∧ (SqL X.K H p (ys.map V.str) ∨ SqT X.K H p (ys.map V.str)) ∧
    (ys.map (·.length)).sum + ys.length * a.length ≤ 16777216 ∧ Q (.str (Txt.join a ys)) H) := by
  refine ⟨mt_join, ?_⟩
  intro ρ μ σ H G x dx vs ds Q Qn S r1 r2 h hd
  unfold mJoin at h
  split at h
  · next a d =>
    cases r1
    obtain ⟨v, rfl, rv⟩ := reps1 r2
    obtain ⟨xs, ss, e, es, l, q⟩ := h
    obtain ⟨p, ws, rfl, h1, rr⟩ := S.hold.lst rv e
    have e' := strsOf_eq es
    subst e'
    have ev := rr.strs
    subst ev
    exact ⟨a, p, ss, rfl, rfl, .inl (SqL.of h1), l, hd.now S (.str _) q⟩
  · exact h.elim
theorem dm_insert : MtR X "list.insert" (fun x vs H Q => ∃ (l : Addr) (xs : List V) (i : Int) (y : V), x = .ref l ∧ vs = [.int i, y] ∧ H l = some (.lst xs) ∧ xs.length < sizeLine ∧ 0 ≤ i ∧ i < 2 ^ 63 ∧
    Q .non (upd H l (.lst (xs.take i.toNat ++ [y] ++ xs.drop i.toNat)))) ∧ RefM X.K B "list" mInsert (fun x vs H Q => ∃ (l : Addr) (xs : List V) (i : Int) (y : V), x = .ref l ∧ vs = [.int i, y] ∧ H l = some (.lst xs) ∧ xs.length < sizeLine ∧ 0 ≤ i ∧ i < 2 ^ 63 ∧
    Q .non (upd H l (.lst (xs.take i.toNat ++ [y] ++ xs.drop i.toNat)))) := by
  refine ⟨mt_insert, ?_⟩
  intro ρ μ σ H G x dx vs ds Q Qn S r1 r2 h hd
  unfold mInsert at h
  split at h
  · next a i d =>
    cases r1
    obtain ⟨v, w, rfl, rv, rw'⟩ := reps2 r2
    cases rv
    obtain ⟨xs, e, l, b1, b2, q⟩ := h
    obtain ⟨ws, h1, rr⟩ := S.hold.lstAt e
    refine ⟨a, ws, i, w, rfl, rfl, h1, by rw [rr.1]; exact l, b1, b2, ?_⟩
    rw [List.append_assoc]
    exact hd.now (S.cellSet e (show CellR X.K G (.lst (ws.take i.toNat ++ ([w] ++ ws.drop i.toNat))) (.lst (xs.take i.toNat ++ d :: xs.drop i.toNat)) from (rr.take _).append (Reps.cons rw' (rr.drop _)))) .non q
  · exact h.elim

/-! truth of any value -/
theorem truV_go {K : PySem.W.Frag} {G : Gh} {μ : Mu} {H : Hp} {v : V} {d : D} {b : Bool} (S : Hold K G μ H) (r : Rep K G v d) (h : truD (vw μ d) = some b) : TruV K v H b := by
  cases e : vw μ d with
  | non => cases vw_non' e; cases r; rw [e] at h; cases h; rfl
  | bl c => cases vw_bl' e; cases r; rw [e] at h; cases h; rfl
  | int c => cases vw_int' e; cases r; rw [e] at h; cases h; rfl
  | str s =>
    cases vw_str' e; cases r; rw [e] at h
    simp only [truD] at h
    split at h
    · next l => cases h; exact ⟨l, rfl⟩
    · cases h
  | lst xs =>
    rw [e] at h; cases h
    obtain ⟨a, vs, rfl, h1, rr⟩ := S.lst r e
    refine .inl ⟨vs, SqL.of h1, ?_⟩
    cases vs with
    | nil => rw [rr.nil_inv']; rfl
    | cons v vs => obtain ⟨d, r, rfl, _⟩ := rr.cons_inv'; rfl
  | tup xs =>
    rw [e] at h; cases h
    obtain ⟨a, vs, rfl, h1, rr⟩ := S.tup r e
    refine .inr (.inl ⟨vs, h1, ?_⟩)
    cases vs with
    | nil => rw [rr.nil_inv']; rfl
    | cons v vs => obtain ⟨d, r, rfl, _⟩ := rr.cons_inv'; rfl
  | _ => rw [e] at h; cases h
theorem dt_tru {e : Expr} {te : TE} {T : TDE} (h : DE X B e te T) (he : ∀ whole, isTrue e X.env whole = (do let v ← whole; standAt e.pos; holding [v] (truthy v)) := by intro _; rfl) : DT X B e (fun σ H Q => te σ H fun x H' => ∃ k, TruV X.K x H' k ∧ Q k H') (dTru T) :=
  ⟨pt_truth h.pe he, fun ρ μ σ H G Q Qn S q hd => h.ref ρ μ σ H G _ _ S q fun d μ1 v H1 G1 g1 S1 r1 ⟨b, e1, q1⟩ => ⟨b, truV_go S1.hold r1 e1, hd b μ1 H1 G1 g1 S1 q1⟩⟩

/-! isinstance(x, T), T a built-in type -/
def tyNames : List String := ["NoneType", "bool", "int", "str", "list", "tuple", "dict"]
theorem kit_tbl : ∀ n ∈ tyNames, ∀ T ∈ tyNames, kitB n T = some (n == T || (n == "bool" && T == "int")) := by decide +kernel
/-- the answer -/
@[simp] def isiD (T : String) (d : D) : Option Bool := match d with
  | .non => some (decide ("NoneType" = T)) | .bl _ => some (decide ("bool" = T) || decide ("int" = T)) | .int _ => some (decide ("int" = T)) | .str _ => some (decide ("str" = T)) | .lst _ => some (decide ("list" = T)) | .tup _ => some (decide ("tuple" = T)) | .dic _ => some (decide ("dict" = T)) | _ => none
theorem isi_kit {T : String} {d : D} {b : Bool} (hT : T ∈ tyNames) (h : isiD T d = some b) : ∃ n, tyN d = some n ∧ kitB n T = some b := by
  cases d with
  | non => cases h; exact ⟨_, rfl, by rw [kit_tbl _ (by decide) T hT]; simp [BEq.beq]⟩
  | bl c => cases h; exact ⟨_, rfl, by rw [kit_tbl _ (by decide) T hT]; simp [Bool.beq_eq_decide_eq, eq_comm]⟩
  | int c => cases h; exact ⟨_, rfl, by rw [kit_tbl _ (by decide) T hT]; simp [BEq.beq]⟩
  | str c => cases h; exact ⟨_, rfl, by rw [kit_tbl _ (by decide) T hT]; simp [BEq.beq]⟩
  | lst c => cases h; exact ⟨_, rfl, by rw [kit_tbl _ (by decide) T hT]; simp [BEq.beq]⟩
  | tup c => cases h; exact ⟨_, rfl, by rw [kit_tbl _ (by decide) T hT]; simp [BEq.beq]⟩
  | dic c => cases h; exact ⟨_, rfl, by rw [kit_tbl _ (by decide) T hT]; simp [BEq.beq]⟩
  | _ => cases h
@[simp] def dIsi (T : String) (Tx : TDE) : TDE := fun ρ μ Q => Tx ρ μ fun d μ1 => ∃ b, isiD T (vw μ1 d) = some b ∧ Q (.bl b) μ1
theorem sqT_ty {K : PySem.W.Frag} {H : Hp} {a : Addr} {vs : List V} (h : SqT K H a vs) : TyX K H (.ref a) (.type "tuple") := by
  rcases h with (h | ⟨o, h⟩) | ⟨o, its, n, h1, h2, _⟩
  · exact .base (.tup h)
  · exact .fTuple h
  · exact .kTuple h1 h2
theorem ty_go {K : PySem.W.Frag} {G : Gh} {μ : Mu} {H : Hp} {v : V} {d : D} {n : String} (S : Hold K G μ H) (r : Rep K G v d) (h : tyN (vw μ d) = some n) : TyX K H v (.type n) := by
  cases e : vw μ d with
  | non => cases vw_non' e; cases r; rw [e] at h; cases h; exact .base .non
  | bl c => cases vw_bl' e; cases r; rw [e] at h; cases h; exact .base (.bl _)
  | int c => cases vw_int' e; cases r; rw [e] at h; cases h; exact .base (.int _)
  | str s => cases vw_str' e; cases r; rw [e] at h; cases h; exact .base (.str _)
  | lst xs =>
    rw [e] at h; cases h
    obtain ⟨a, vs, rfl, h1, rr⟩ := S.lst r e
    exact .base (.lst h1)
  | tup xs =>
    rw [e] at h; cases h
    obtain ⟨a, vs, rfl, h1, rr⟩ := S.tup r e
    exact sqT_ty h1
  | dic xs =>
    rw [e] at h; cases h
    obtain ⟨a, vs, rfl, h1, rr⟩ := S.dic r e
    rcases h1 with h1 | ⟨o, h1⟩
    · exact .base (.dK h1)
    · exact .fDict h1
  | _ => rw [e] at h; cases h
theorem de_isi (T : String) (hT : T ∈ tyNames) {x : Str} {e : Expr} {te : TE} {Tx : TDE} {p p2 : Pos} (he : DE X B e te Tx) (hm : X.mg "isinstance" = none) (hm2 : X.mg x = none) (hv2 : bootBuiltins x = some (.type T)) (hg : Gl X "isinstance" := by rfl) (hg2 : Gl X x := by rfl) (hn : x ≠ "__name__" := by decide) (hdb : (x == ("__debug__" : Str)) = false := by decide)
    (h1 : starEach [e, .Name x p2] X.env = (false, eval e X.env) :: starEach [.Name x p2] X.env := by rfl) (h1' : starEach [.Name x p2] X.env = (false, eval (.Name x p2) X.env) :: starEach [] X.env := by rfl) (h2 : (backTo pos (starEach [.Name x p2] X.env)).any (·.1) = false := by rfl) :
    DE X B (.Call (.Name "isinstance" p) [e, .Name x p2] [] pos) (tCB (rIsi X.K) (tCons te (tCons (tC (.ty T)) tNil))) (dIsi T Tx) :=
  ⟨pe_callB call_isi hg hm (by decide +kernel) (pa_cons he.pe (pa_cons (pe_bltn hg2 hm2 hv2 rfl hn hdb) pa_nil h1') h1) (by decide) (by decide) h1 h2, fun ρ μ σ H G Q Qn S h hd => he.ref ρ μ σ H G _ _ S h fun d μ1 v H1 G1 g1 S1 r1 ⟨b, e, q⟩ => by
    obtain ⟨n, e1, e2⟩ := isi_kit hT e
    exact ⟨v, .ty T, .type n, .type T, b, rfl, .ty T, ty_go S1.hold r1 e1, kit_ty e2, (hd.mono g1).now S1 (.bl b) q⟩⟩
/-- a dict of the module's own, keys and values texts -/
@[simp] def dKd (tbl : Str → Option Str) (Ti : TDE) : TDE := fun ρ μ Q => Ti ρ μ fun d μ1 => ∃ s v, d = .str s ∧ tbl s = some v ∧ Q (.str v) μ1
theorem de_kd (tbl : Str → Option Str) {x : Str} {p : Pos} {a : Addr} {i : Expr} {ti : TE} {Ti : TDE} (hm : X.mg x = some (.ref a)) (ht : ∀ s v, tbl s = some v → KDct X.K X.w a s (.str v)) (hi : DE X B i ti Ti) (hg : Gl X x := by rfl) (hs : PlainIx i := by exact fun _ _ => rfl) (hdb : (x == ("__debug__" : Str)) = false := by decide) :
    DE X B (.Subscript (.Name x p) i pos) (tOp (rIxD X.K X.w) (tC (.ref a)) ti) (dKd tbl Ti) :=
  ⟨pe_ix ix_kdict (pe_glob hg hm rfl hdb) hi.pe hs, fun ρ μ σ H G Q Qn S h hd => hi.ref ρ μ σ H G _ _ S h fun d μ1 v H1 G1 g1 S1 r1 ⟨s, v', e1, e2, q⟩ => by
    subst e1
    cases r1
    exact ⟨a, s, .str v', rfl, rfl, ht s v' e2, (hd.mono g1).now S1 (.str _) q⟩⟩
end
end DL

/-! DL7: defs by name. -/
namespace DL
open PySem PySem.Spec PyProof.Rows L2
structure DefAt (K : PySem.W.Frag) (mg : Str → Option Value) (x : Str) (st : Stmt) (ps : List Str) (f : Addr) (fd : FuncData) : Prop where
  F : Fun K x x st f fd
  m : mg x = some (.ref f)
  b : Binds K fd ps []
def Called (P : Program) (w : World) (K : PySem.W.Frag) (mg : Str → Option Value) (base : Heap) (k : Nat) (x : Str) (ps : List Str) (S : DSp) : Prop :=
  ∃ f fd, mg x = some (.ref f) ∧ PySem.W.keepIn K (.ref f) = true ∧ Binds K fd ps [] ∧ FnOk P w K mg base CX0 k f fd ps (toSp K S)
theorem DefAt.called {P : Program} {w : World} {K : PySem.W.Frag} {mg : Str → Option Value} {base : Heap} {k : Nat} {x : Str} {st : Stmt} {ps : List Str} {f : Addr} {fd : FuncData} {S : DSp} (D : DefAt K mg x st ps f fd) (F : FnOk P w K mg base CX0 k f fd ps (toSp K S)) : Called P w K mg base k x ps S := ⟨f, fd, D.m, D.F.kp, D.b, F⟩
theorem defAt_of {K : PySem.W.Frag} {h : Heap} {mg : Str → Option Value} {x : Str} {st : Stmt} {ps : List Str} {f : Addr} {oc : Value} {od an : Option Addr} {osl : Array (Option Value)} {kV doc pm cdv ct : Value} (X : K.In h) (G : h.Ns mainGlobals mg)
    (a : PySem.W.nsIn K mainGlobals x = some (some (.ref f))) (l : K.lookup f = some ⟨oc, od, .func (PySem.W.fnOf x x (defArgs st) (defBody st) (defScope st) .none kV doc pm an cdv ct), osl⟩) (c : PySem.W.codeIn K cdv x = true) (k : PySem.W.keepIn K (.ref f) = true)
    (hb : ∀ (kV doc pm : Value) (an : Option Addr) (cdv ct : Value) (us : List Value), us.length = ps.length → bindArgs (PySem.W.fnOf x x (defArgs st) (defBody st) (defScope st) .none kV doc pm an cdv ct) ⟨us, []⟩ = pure (ps.zip us)) :
    DefAt K mg x st ps f (PySem.W.fnOf x x (defArgs st) (defBody st) (defScope st) .none kV doc pm an cdv ct) :=
  ⟨fun_mk l c k, PySem.W.mg_of X G a, (fun_mk l c k).binds hb⟩
/-- a text constant of the module -/
def GlobS (s : Str) (x : Str) (mg : Str → Option Value) : Prop := ∃ t, mg x = some (.str s t)
/-- a tuple of texts of the module -/
def GlobT (K : PySem.W.Frag) (ss : List Str) (x : Str) (mg : Str → Option Value) : Prop := ∃ a, mg x = some (.ref a) ∧ ∀ G, Rep K G (.ref a) (.tup (ss.map .str))
/-- a dict of texts of the module -/
def GlobD (K : PySem.W.Frag) (w : World) (tbl : Str → Option Str) (x : Str) (mg : Str → Option Value) : Prop := ∃ a, mg x = some (.ref a) ∧ ∀ s v, tbl s = some v → KDct K w a s (.str v)
theorem called_recL {P : Program} {w : World} {K : PySem.W.Frag} {mg : Str → Option Value} {base : Heap} {j k : Nat} {x : Str} {ps : List Str} {S : DSp} (h : Called P w K mg base j x ps S) (l : j ≤ k) : Called P w K mg base k x ps S := by
  obtain ⟨f, fd, a, b, c, d⟩ := h
  exact ⟨f, fd, a, b, c, d.mono l⟩
end DL

/-! DL8: plain lemmas: texts, items, slices, sizes; loops by induction. -/
namespace DL
open PySem PySem.Spec PyProof.Rows L2
theorem szl : sizeLine = 16777216 := sizeLine_eq
theorem sz_le {n : Nat} (h : n ≤ 16000000) : n ≤ sizeLine := by rw [szl]; omega
theorem sz_lt {n : Nat} (h : n ≤ 16000000) : n < sizeLine := by rw [szl]; omega
@[simp] theorem loopL_nil {g : TDG} {T : TDS} {E : DEnds} {ρ : DR} {μ : Mu} : loopL g T E [] ρ μ = E.nx ρ μ := rfl
@[simp] theorem loopL_cons {g : TDG} {T : TDS} {E : DEnds} {x : D} {r : List D} {ρ : DR} {μ : Mu} : loopL g T E (x :: r) ρ μ = g x ρ μ fun ρ2 μ2 => T { E with nx := loopL g T E r, ct := loopL g T E r, bk := E.nx } ρ2 μ2 := rfl
@[simp] theorem loopK_nil {g : TDG} {T : TDS} {E : DEnds} {Kp : Mu → Prop} {ρ : DR} {μ : Mu} : loopK g T E Kp [] ρ μ = (Kp μ ∧ E.nx ρ μ) := rfl
@[simp] theorem loopK_cons {g : TDG} {T : TDS} {E : DEnds} {Kp : Mu → Prop} {x : D} {r : List D} {ρ : DR} {μ : Mu} : loopK g T E Kp (x :: r) ρ μ = (Kp μ ∧ g x ρ μ fun ρ2 μ2 => T { E with nx := loopK g T E Kp r, ct := loopK g T E Kp r, bk := E.nx } ρ2 μ2) := rfl
@[simp] theorem compL_nil {g : TDG} {tt : TDT} {te : TDE} {p : Addr} {ρ0 : DR} {Q : Mu → Prop} {μ : Mu} : compL g tt te p ρ0 Q [] μ = Q μ := rfl
@[simp] theorem compL_cons {g : TDG} {tt : TDT} {te : TDE} {p : Addr} {ρ0 : DR} {Q : Mu → Prop} {x : D} {r : List D} {μ : Mu} : compL g tt te p ρ0 Q (x :: r) μ = g x ρ0 μ fun ρ2 μ2 => tt ρ2 μ2 fun b μ3 => if b = true then te ρ2 μ3 fun d μ4 => ∃ acc, μ4 p = some (.lst acc) ∧ acc.length < sizeLine ∧ compL g tt te p ρ0 Q r (mup μ4 p (.lst (acc ++ [d]))) else compL g tt te p ρ0 Q r μ3 := rfl
/-- a loop by what holds ahead of the items that are left -/
theorem loop_ind {g : TDG} {T : TDS} {E : DEnds} (I : List D → DR → Mu → Prop) {xs : List D} {ρ : DR} {μ : Mu} (h : I xs ρ μ) (hn : ∀ ρ μ, I [] ρ μ → E.nx ρ μ)
    (hc : ∀ x r ρ μ (N : DR → Mu → Prop), I (x :: r) ρ μ → (∀ ρ' μ', I r ρ' μ' → N ρ' μ') → g x ρ μ fun ρ2 μ2 => T { E with nx := N, ct := N, bk := E.nx } ρ2 μ2) : loopL g T E xs ρ μ := by
  induction xs generalizing ρ μ with
  | nil => exact hn ρ μ h
  | cons x r ih => exact hc x r ρ μ _ h fun ρ' μ' h' => ih h'
theorem loopK_ind {g : TDG} {T : TDS} {E : DEnds} {Kp : Mu → Prop} (I : List D → DR → Mu → Prop) {xs : List D} {ρ : DR} {μ : Mu} (h : I xs ρ μ) (hk : ∀ r ρ μ, I r ρ μ → Kp μ) (hn : ∀ ρ μ, I [] ρ μ → E.nx ρ μ)
    (hc : ∀ x r ρ μ (N : DR → Mu → Prop), I (x :: r) ρ μ → (∀ ρ' μ', I r ρ' μ' → N ρ' μ') → g x ρ μ fun ρ2 μ2 => T { E with nx := N, ct := N, bk := E.nx } ρ2 μ2) : loopK g T E Kp xs ρ μ := by
  induction xs generalizing ρ μ with
  | nil => exact ⟨hk _ _ _ h, hn ρ μ h⟩
  | cons x r ih => exact ⟨hk _ _ _ h, hc x r ρ μ _ h fun ρ' μ' h' => ih h'⟩
/-- a comprehension by what holds of the items left, the list made, the store without it -/
theorem comp_ind {g : TDG} {tt : TDT} {te : TDE} {p : Addr} {ρ0 : DR} {Q : Mu → Prop} (I : List D → List D → Mu → Prop) {xs acc : List D} {μ : Mu} (hp : μ p = none) (h : I xs acc μ) (hl : acc.length + xs.length < sizeLine)
    (hn : ∀ acc μ, μ p = none → I [] acc μ → Q (mup μ p (.lst acc)))
    (hc : ∀ x r acc μ (N : Mu → Prop), μ p = none → I (x :: r) acc μ → (∀ μ', N μ' ↔ (∃ acc' μ'', μ' = mup μ'' p (.lst acc') ∧ μ'' p = none ∧ I r acc' μ'' ∧ acc'.length + r.length < sizeLine)) → acc.length < sizeLine → acc.length + 1 + r.length < sizeLine → g x ρ0 (mup μ p (.lst acc)) fun ρ2 μ2 => tt ρ2 μ2 fun b μ3 => if b = true then te ρ2 μ3 fun d μ4 => ∃ acc, μ4 p = some (.lst acc) ∧ acc.length < sizeLine ∧ N (mup μ4 p (.lst (acc ++ [d]))) else N μ3)
    (mono : ∀ x μ (N N' : Mu → Prop), (∀ μ, N μ → N' μ) → (g x ρ0 μ fun ρ2 μ2 => tt ρ2 μ2 fun b μ3 => if b = true then te ρ2 μ3 fun d μ4 => ∃ acc, μ4 p = some (.lst acc) ∧ acc.length < sizeLine ∧ N (mup μ4 p (.lst (acc ++ [d]))) else N μ3) → (g x ρ0 μ fun ρ2 μ2 => tt ρ2 μ2 fun b μ3 => if b = true then te ρ2 μ3 fun d μ4 => ∃ acc, μ4 p = some (.lst acc) ∧ acc.length < sizeLine ∧ N' (mup μ4 p (.lst (acc ++ [d]))) else N' μ3)) : compL g tt te p ρ0 Q xs (mup μ p (.lst acc)) := by
  induction xs generalizing acc μ with
  | nil => exact hn acc μ hp h
  | cons x r ih =>
    rw [List.length_cons] at hl
    rw [compL_cons]
    refine mono x _ _ _ ?_ (hc x r acc μ (fun μ' => ∃ acc' μ'', μ' = mup μ'' p (.lst acc') ∧ μ'' p = none ∧ I r acc' μ'' ∧ acc'.length + r.length < sizeLine) hp h (fun _ => Iff.rfl) (by omega) (by omega))
    rintro μ' ⟨acc', μ'', rfl, h1, h2, h3⟩
    exact ih h1 h2 h3
/-- .. the simple way: N is what is wanted behind the turn -/
theorem comp_ind' {g : TDG} {tt : TDT} {te : TDE} {p : Addr} {ρ0 : DR} {Q : Mu → Prop} (I : List D → List D → Mu → Prop) {xs acc : List D} {μ : Mu} (hp : μ p = none) (h : I xs acc μ) (hl : acc.length + xs.length < sizeLine)
    (hn : ∀ acc μ, μ p = none → I [] acc μ → Q (mup μ p (.lst acc)))
    (hc : ∀ x r acc μ (N : Mu → Prop), μ p = none → I (x :: r) acc μ → (∀ acc' μ'', μ'' p = none → I r acc' μ'' → acc'.length ≤ acc.length + 1 → N (mup μ'' p (.lst acc'))) → acc.length < sizeLine → g x ρ0 (mup μ p (.lst acc)) fun ρ2 μ2 => tt ρ2 μ2 fun b μ3 => if b = true then te ρ2 μ3 fun d μ4 => ∃ acc, μ4 p = some (.lst acc) ∧ acc.length < sizeLine ∧ N (mup μ4 p (.lst (acc ++ [d]))) else N μ3) : compL g tt te p ρ0 Q xs (mup μ p (.lst acc)) := by
  induction xs generalizing acc μ with
  | nil => exact hn acc μ hp h
  | cons x r ih =>
    rw [List.length_cons] at hl
    rw [compL_cons]
    exact hc x r acc μ (compL g tt te p ρ0 Q r) hp h (fun acc' μ'' h1 h2 h3 => ih h1 h2 (by omega)) (by omega)

/-! texts -/
theorem startswith_mk (a b : List Nat) : Txt.startswith (mk a) (mk b) = b.isPrefixOf a := by
  unfold Txt.startswith
  rw [PySem.StrLaws.subAt_eq]
  simp only [mk_length, mk_cps, List.drop_zero]
  rw [Bool.eq_iff_iff]
  simp only [Bool.and_eq_true, decide_eq_true_eq, beq_iff_eq, List.isPrefixOf_iff_prefix]
  constructor
  · rintro ⟨_, h⟩
    exact ⟨a.drop b.length, by rw [← h, List.length_take, Nat.min_eq_left (by omega)]; exact List.take_append_drop _ _⟩
  · rintro ⟨t, rfl⟩
    simp
theorem atI_nat' {α : Type} {xs : List α} {j : Nat} : atI xs (j : Int) = xs[j]? := by
  unfold atI ixN
  by_cases h : j < xs.length
  · have h1 : (0 : Int) ≤ (j : Int) := by omega
    have h2 : (j : Int) < (xs.length : Int) := by omega
    simp [h1, h2]
  · have h1 : (0 : Int) ≤ (j : Int) := by omega
    have h2 : ¬ (j : Int) < (xs.length : Int) := by omega
    simp [h1, h2]
    omega
theorem atI_0 {α : Type} {x : α} {xs : List α} : atI (x :: xs) 0 = some x := atI_nat (j := 0) rfl
theorem atI_lit {α : Type} {xs : List α} (j : Nat) {v : α} (h : xs[j]? = some v) : atI xs (OfNat.ofNat j : Int) = some v := atI_nat (j := j) h
theorem atI_m1 {α : Type} {xs : List α} (x : α) : atI (xs ++ [x]) (-1) = some x := atI_last xs x
theorem atI_int {α : Type} {xs : List α} {i : Int} (h0 : 0 ≤ i) : atI xs i = xs[i.toNat]? := by
  obtain ⟨j, rfl⟩ := Int.eq_ofNat_of_zero_le h0
  rw [atI_nat']; simp
theorem cutD_from {α : Type} (xs : List α) (k : Nat) : cutD xs (some (k : Int)) none = xs.drop k := by
  unfold cutD
  rw [HT.sIx_nat, HT.sIx_none]
  by_cases h : k ≤ xs.length
  · rw [Nat.min_eq_left h]
    exact List.take_of_length_le (by rw [List.length_drop]; omega)
  · have h' : xs.length ≤ k := by omega
    rw [Nat.min_eq_right h', List.drop_eq_nil_of_le (Nat.le_refl _), List.drop_eq_nil_of_le h']
    simp
theorem cutD_to {α : Type} (xs : List α) (k : Nat) : cutD xs none (some (k : Int)) = xs.take k := by
  unfold cutD
  rw [HT.sIx_nat, HT.sIx_none]
  simp only [List.drop_zero, Nat.sub_zero]
  by_cases h : k ≤ xs.length
  · rw [Nat.min_eq_left h]
  · rw [Nat.min_eq_right (by omega), List.take_of_length_le (Nat.le_refl _), List.take_of_length_le (by omega)]
theorem cutD_m1 {α : Type} (xs : List α) : cutD xs none (some (-1)) = xs.dropLast := by
  unfold cutD
  rw [HT.sIx_none]
  have e : HT.sIx xs.length xs.length (some (-1)) = xs.length - 1 := by
    unfold HT.sIx
    simp
    omega
  rw [e, List.drop_zero, List.dropLast_eq_take, Nat.sub_zero]
theorem cutD_len {α : Type} (xs : List α) (lo hi : Option Int) : (cutD xs lo hi).length ≤ xs.length := by
  unfold cutD; rw [List.length_take, List.length_drop]; omega
theorem ixN_m1 {n : Nat} (h : 0 < n) : ixN n (-1) = some (n - 1) := by
  unfold ixN
  rw [if_neg (by omega), if_pos (by omega)]
  congr 1; omega
theorem ixN_nat {n j : Nat} (h : j < n) : ixN n (j : Int) = some j := by
  unfold ixN
  rw [if_pos (by omega), if_pos (by omega)]; simp
theorem ixN_int {n : Nat} {i : Int} (h0 : 0 ≤ i) (h : i < n) : ixN n i = some i.toNat := by
  unfold ixN
  rw [if_pos h0, if_pos h]
@[simp] theorem atI_c0 {α : Type} {x : α} {r : List α} : atI (x :: r) 0 = some x := atI_nat (j := 0) rfl
@[simp] theorem atI_c1 {α : Type} {x y : α} {r : List α} : atI (x :: y :: r) 1 = some y := atI_nat (j := 1) rfl
@[simp] theorem atI_c2 {α : Type} {x y z : α} {r : List α} : atI (x :: y :: z :: r) 2 = some z := atI_nat (j := 2) rfl
@[simp] theorem atI_c3 {α : Type} {x y z u : α} {r : List α} : atI (x :: y :: z :: u :: r) 3 = some u := atI_nat (j := 3) rfl
@[simp] theorem atI_c4 {α : Type} {x y z u v : α} {r : List α} : atI (x :: y :: z :: u :: v :: r) 4 = some v := atI_nat (j := 4) rfl
@[simp] theorem atI_m1s {α : Type} {x : α} : atI [x] (-1) = some x := atI_last [] x
@[simp] theorem atI_m1a {α : Type} {x : α} {xs : List α} : atI (xs ++ [x]) (-1) = some x := atI_last xs x
end DL

/-! DL9: the source of draws, counters: cells made ghosts. -/
namespace DL
open PySem PySem.Spec PyProof.Rows L2
/-- what a source's cell holds: the list of its numbers at l -/
abbrev srcC (l : Addr) (p r c : Int) : Cell := .lst [.ptr l, .int p, .int r, .int c]
def sp_draw_p : DSp := fun ds μ Q _ => ∃ (a l : Addr) (ns : List Int) (p r c sz : Int), ds = [.ptr a, .int sz] ∧ a ≠ l ∧ μ a = some (srcC l p r c) ∧ μ l = some (.lst (ns.map .int)) ∧ 0 ≤ p ∧ 0 < sz ∧ sz < 1073741824 ∧
  ∀ n p' r' c', 0 ≤ n → n < sz → 0 ≤ p' → Q (.int n) (mup μ a (srcC l p' r' c'))
def sp_draw : DSp := fun ds μ Q _ => ∃ sz, ds = [.src, .int sz] ∧ 0 < sz ∧ sz < 1073741824 ∧ ∀ n, 0 ≤ n → n < sz → Q (.int n) μ
section
variable {K : PySem.W.Frag} {G : Gh} {μ : Mu} {H H' : Hp} {a l : Addr}
theorem cellR_src {G' : Gh} {o : HO} {p r c : Int} (h : CellR K G' o (srcC l p r c)) : o = .lst [.ref l, .int p, .int r, .int c] := by
  obtain ⟨vs, rfl, h⟩ := cellR_lst h
  obtain ⟨v1, w1, rfl, a1, h⟩ := h.cons_inv
  obtain ⟨v2, w2, rfl, a2, h⟩ := h.cons_inv
  obtain ⟨v3, w3, rfl, a3, h⟩ := h.cons_inv
  obtain ⟨v4, w4, rfl, a4, h⟩ := h.cons_inv
  rw [h.nil_inv, a2.ofInt, a3.ofInt, a4.ofInt]
  cases a1; rfl
/-- the source at a is written, nothing else -/
theorem Hold.srcSet (h : Hold K G μ H) (m : a ∈ G.src) {p r c : Int} {ns : List Int} (hl : G.fr l = some (.lst (ns.map V.int))) (h0 : 0 ≤ p) (k : ∀ b o, b ≠ a → H b = some o → H' b = some o) (e : H' a = some (.lst [.ref l, .int p, .int r, .int c])) : Hold K G μ H' := by
  obtain ⟨f1, f2, _⟩ := h.src a m
  refine ⟨fun b o q => k b o (ne_of_none q f1) (h.fr b o q), fun b c' q => ?_, fun b q => ?_, fun b q => ?_⟩
  · obtain ⟨x, o, y, z⟩ := h.cell b c' q
    have ne : b ≠ a := fun w => by rw [w, f2] at q; cases q
    exact ⟨x, o, k b o ne y, z⟩
  · obtain ⟨x, y, l', ns', p', r', c', z1, z2, z3⟩ := h.src b q
    by_cases w : b = a
    · subst w; exact ⟨x, y, l, ns, p, r, c, e, hl, h0⟩
    · exact ⟨x, y, l', ns', p', r', c', k b _ w z1, z2, z3⟩
  · obtain ⟨x, y, n, z, w⟩ := h.rooms b q
    exact ⟨x, y, n, z, k b _ (fun u => n (u ▸ m)) w⟩
/-- all but two objects frozen -/
def gBut (H : Hp) (a l : Addr) : Gh := ⟨fun b => if b = a ∨ b = l then none else H b, [], []⟩
def mTwo (a l : Addr) (c d : Cell) : Mu := fun b => if b = a then some c else if b = l then some d else none
theorem src_imp {vs : List V} {Q : VK} {E : XK} (h : toSp K sp_draw vs H Q E) : toSp K sp_draw_p vs H Q E := by
  obtain ⟨G, ds, μ, QQ, EE, hh, r, ⟨sz, rfl, s1, s2, q⟩, hq, _⟩ := h
  obtain ⟨v, w, rfl, rv, rw'⟩ := reps2 r
  rw [rw'.ofInt]
  cases rv with
  | src m =>
    rename_i a
    obtain ⟨f1, f2, l, ns, p, rr, c, h1, h2, h3⟩ := hh.src a m
    have hl := hh.fr _ _ h2
    have ne : a ≠ l := fun e => by rw [e, h2] at f1; cases f1
    refine ⟨gBut H a l, [.ptr a, .int sz], mTwo a l (srcC l p rr c) (.lst (ns.map .int)), fun d μ' => ∃ n p' r' c', d = .int n ∧ 0 ≤ n ∧ n < sz ∧ 0 ≤ p' ∧ μ' = mup (mTwo a l (srcC l p rr c) (.lst (ns.map .int))) a (srcC l p' r' c'), noX, ?_, Reps.cons (.ptr a) (Reps.cons (.int sz) Reps.nil), ?_, ?_, fun _ _ _ _ _ _ _ _ _ z => z.elim⟩
    · refine ⟨fun b o e => ?_, fun b c' e => ?_, (fun _ z => by cases z), (fun _ z => by cases z)⟩
      · unfold gBut at e
        simp only at e
        split at e
        · cases e
        · exact e
      · unfold mTwo at e
        split at e
        · next w =>
          subst w
          cases e
          have rs : Reps K (gBut H b l) [.ref l, .int p, .int rr, .int c] [.ptr l, .int p, .int rr, .int c] := Reps.cons (.ptr l) (Reps.cons (.int _) (Reps.cons (.int _) (Reps.cons (.int _) Reps.nil)))
          exact ⟨by simp [gBut], _, h1, rs⟩
        · split at e
          · next w =>
            subst w
            cases e
            have rs : Reps K (gBut H a b) (ns.map V.int) (ns.map .int) := Reps.ofInts ns
            exact ⟨by simp [gBut], _, hl, rs⟩
          · cases e
    · refine ⟨a, l, ns, p, rr, c, sz, rfl, ne, by simp [mTwo], by simp [mTwo, ne.symm], h3, s1, s2, fun n p' r' c' n0 n1 n2 => ⟨n, p', r', c', rfl, n0, n1, n2, rfl⟩⟩
    · rintro d μ' v H' G' g h' r' ⟨n, p', r2, c', rfl, n0, n1, n2, rfl⟩
      have ka : H' a = some (.lst [.ref l, .int p', .int r2, .int c']) := by
        obtain ⟨_, o, y, z⟩ := h'.cell a _ mup_same
        rw [cellR_src z] at y; exact y
      have kl : H' l = some (.lst (ns.map V.int)) := by
        obtain ⟨_, o, y, z⟩ := h'.cell l (.lst (ns.map .int)) (by rw [mup_ne ne.symm]; simp [mTwo, ne.symm])
        obtain ⟨vs, rfl, z2⟩ := cellR_lst z
        rw [z2.ints] at y; exact y
      refine hq (.int n) μ v H' G (Gle.refl G) (hh.srcSet m h2 n2 (fun b o nb e => ?_) ka) (by rw [r'.ofInt]; exact .int n) (q n n0 n1)
      by_cases w : b = l
      · subst w; rw [hl] at e; cases e; exact kl
      · exact h'.fr b o (g.fr b o (by simp [gBut, nb, w]; exact e))
/-- [list(script), 0, -1, 0], made a ghost -/
def sp_begin_p : DSp := fun ds μ Q _ => ∃ ns : List Int, (ds = [.scr ns] ∨ ds = [.lst (ns.map .int)]) ∧ ∀ a l, μ l = none → a ≠ l → μ a = none → Q (.ptr a) (mup (mup μ l (.lst (ns.map .int))) a (srcC l 0 (-1) 0))
def sp_begin : DSp := fun ds μ Q _ => ∃ ns : List Int, (ds = [.scr ns] ∨ ds = [.lst (ns.map .int)]) ∧ Q .src μ
theorem begin_imp {vs : List V} {Q : VK} {E : XK} (h : toSp K sp_begin vs H Q E) : toSp K sp_begin_p vs H Q E := by
  obtain ⟨G, ds, μ, QQ, EE, hh, r, ⟨ns, hd, q⟩, hq, _⟩ := h
  refine ⟨G, ds, μ, fun d μ' => ∃ a l, μ l = none ∧ a ≠ l ∧ μ a = none ∧ d = .ptr a ∧ μ' = mup (mup μ l (.lst (ns.map .int))) a (srcC l 0 (-1) 0), noX, hh, r, ⟨ns, hd, fun a l h1 h2 h3 => ⟨a, l, h1, h2, h3, rfl, rfl⟩⟩, ?_, fun _ _ _ _ _ _ _ _ _ z => z.elim⟩
  rintro d μ' v H' G' g h' r' ⟨a, l, h1, h2, h3, rfl, rfl⟩
  cases r'
  obtain ⟨_, o, ya, za⟩ := h'.cell a _ mup_same
  rw [cellR_src za] at ya
  have el : mup (mup μ l (.lst (ns.map .int))) a (srcC l 0 (-1) 0) l = some (.lst (ns.map .int)) := by rw [mup_ne h2.symm]; exact mup_same
  obtain ⟨fl, o2, yl, zl⟩ := h'.cell l _ el
  obtain ⟨vs2, rfl, z2⟩ := cellR_lst zl
  rw [z2.ints] at yl
  have h2' := h'.freeze el yl
  have em : mdel (mup (mup μ l (.lst (ns.map .int))) a (srcC l 0 (-1) 0)) l = mup μ a (srcC l 0 (-1) 0) := by
    funext b
    unfold mdel mup
    by_cases e : b = l
    · subst e; simp [h2.symm, h1]
    · simp [e]
  rw [em] at h2'
  have g2 : Gle G' (G'.frz l (.lst (ns.map V.int))) := Gle.frz fl
  have g3 : Gle (G'.frz l (.lst (ns.map V.int))) { G'.frz l (.lst (ns.map V.int)) with src := a :: (G'.frz l (.lst (ns.map V.int))).src } := ⟨Ext.refl _, fun b m => List.mem_cons_of_mem _ m, fun _ m => m⟩
  obtain ⟨fa, _⟩ := h2'.cell a _ mup_same
  refine hq .src μ (.ref a) H' _ (g.trans (g2.trans g3)) ⟨h2'.fr, fun b c' qb => ?_, fun b m => ?_, fun b m => ?_⟩ (.src List.mem_cons_self) q
  · have e : b ≠ a := fun e => by rw [e, h3] at qb; cases qb
    obtain ⟨x, o, y, z⟩ := h2'.cell b c' ((mup_ne e).trans qb)
    exact ⟨x, o, y, z.mono g3⟩
  · by_cases e : b = a
    · subst e
      exact ⟨fa, h3, l, ns, 0, -1, 0, ya, upd_same, by omega⟩
    · obtain ⟨x, y, z⟩ := h2'.src b ((List.mem_cons.mp m).resolve_left e)
      rw [mup_ne e] at y
      exact ⟨x, y, z⟩
  · obtain ⟨x, y, n, z, w⟩ := h2'.rooms b m
    have e : b ≠ a := fun e => by rw [e, mup_same] at y; cases y
    rw [mup_ne e] at y
    exact ⟨x, y, fun m2 => (List.mem_cons.mp m2).elim e n, z, w⟩
end
end DL

/-! DLA: readings over data, step by step (introduction rules). -/
namespace DL
open PySem PySem.Spec PyProof.Rows L2
section
variable {ρ : DR} {μ : Mu} {Q : QD} {E : DEnds} {T U : TDS} {Ta Tb Te : TDE} {TA : TDA} {c t u : TDT} {R : R2D} {d x y : D} {xs ys : List D} {i j : Int} {g : TDG} {Qb : Bool → Mu → Prop} {Ql : List D → Mu → Prop} {a : Addr}
theorem i_seq (h : T { E with nx := fun ρ' μ' => U E ρ' μ' } ρ μ) : dSeq T U E ρ μ := h
theorem i_next (h : E.nx ρ μ) : dNext E ρ μ := h
theorem i_asg (h : Te ρ μ fun d μ1 => g d ρ μ1 E.nx) : dAsg Te g E ρ μ := h
theorem i_ret (h : Te ρ μ E.rt) : dRet Te E ρ μ := h
theorem i_retN (h : E.rt .non μ) : dRetN E ρ μ := h
theorem i_drop (h : Te ρ μ fun _ μ1 => E.nx ρ μ1) : dDrop Te E ρ μ := h
theorem i_brk (h : E.bk ρ μ) : dBreak E ρ μ := h
theorem i_cont (h : E.ct ρ μ) : dCont E ρ μ := h
theorem i_ifS (h : c ρ μ fun b μ1 => if b = true then T E ρ μ1 else U E ρ μ1) : dIfS c T U E ρ μ := h
theorem i_aug {n : Nat} {z : D} (e : ρ[n]? = some (some z)) (h : Te ρ μ fun y μ1 => R z y μ1 fun w μ2 => E.nx (ρ.set n (some w)) μ2) : dAug n R Te E ρ μ := by
  unfold dAug; rw [e]; exact h
theorem i_frzS {n : Nat} (e : ρ[n]? = some (some (.ptr a))) (e2 : μ a = some (.lst xs)) (h : T E (ρ.set n (some (.lst xs))) (mdel μ a)) : dFrzS n T E ρ μ := by
  unfold dFrzS; rw [e]; simp only; rw [e2]; exact h
theorem i_for {I : TDI} (h : I ρ μ fun xs μ1 => loopL g T E xs ρ μ1) : dFor I g T E ρ μ := h
theorem i_forK {I : TDIK} (h : I ρ μ fun xs Kp μ1 => loopK g T E Kp xs ρ μ1) : dForK I g T E ρ μ := h
theorem i_iLst (h : Te ρ μ fun d μ1 => match d with | .lst xs => Ql xs μ1 | _ => False) : iLst Te ρ μ Ql := h
theorem i_mLst (h : Ql xs μ) : (match (D.lst xs) with | .lst xs => Ql xs μ | _ => False) := h
theorem i_iTup (h : Te ρ μ fun d μ1 => match d with | .tup xs => Ql xs μ1 | _ => False) : iTupD Te ρ μ Ql := h
theorem i_iScr (h : Te ρ μ fun d μ1 => match d with | .scr ns => Ql (ns.map .int) μ1 | _ => False) : iScr Te ρ μ Ql := h
theorem i_iTxt (h : Te ρ μ fun d μ1 => match d with | .str s => Ql (s.cps.toList.map fun c => .str (mk [c])) μ1 | _ => False) : iTxt Te ρ μ Ql := h
theorem i_dgName {n : Nat} {Qr : DR → Mu → Prop} (h : Qr (ρ.set n (some d)) μ) : dgName n d ρ μ Qr := h
theorem i_dgTup {n : Nat} {V : TDGs} {Qr : DR → Mu → Prop} (e : vw μ d = .tup xs) (l : xs.length = n) (h : V xs ρ μ Qr) : dgTup n V d ρ μ Qr := ⟨xs, e, l, h⟩
theorem i_dgCons {V : TDGs} {Qr : DR → Mu → Prop} (h : g d ρ μ fun ρ' μ' => V xs ρ' μ' Qr) : dgCons g V (d :: xs) ρ μ Qr := h
theorem i_dgNil {Qr : DR → Mu → Prop} (h : Qr ρ μ) : dgNil [] ρ μ Qr := ⟨rfl, h⟩
theorem i_dgSub {To Ti : TDE} {Qr : DR → Mu → Prop} (h : To ρ μ fun o μ1 => Ti ρ μ1 fun i μ2 => setD o i d μ2 fun μ3 => Qr ρ μ3) : dgSub To Ti d ρ μ Qr := h
theorem i_setD {n : Nat} {Qm : Mu → Prop} (e : μ a = some (.lst xs)) (l : ixN xs.length i = some n) (h : Qm (mup μ a (.lst (xs.set n d)))) : setD (.ptr a) (.int i) d μ Qm := ⟨xs, n, e, l, h⟩
theorem i_setDm {n : Nat} {Qm : Mu → Prop} (l : ixN xs.length i = some n) (h : Qm (mup μ a (.lst (xs.set n d)))) : setD (.ptr a) (.int i) d (mup μ a (.lst xs)) Qm := ⟨xs, n, mup_same, l, by rw [mup_mup]; exact h⟩
theorem i_appendm (l : xs.length ≤ 16000000) (h : Q .non (mup μ a (.lst (xs ++ [d])))) : mAppend (.ptr a) [d] (mup μ a (.lst xs)) Q := ⟨xs, mup_same, sz_lt l, by rw [mup_mup]; exact h⟩
theorem ixN_c0 {α : Type} {x : α} {r : List α} : ixN (x :: r).length 0 = some 0 := ixN_nat (j := 0) (by simp)
theorem ixN_c1 {α : Type} {x y : α} {r : List α} : ixN (x :: y :: r).length 1 = some 1 := ixN_nat (j := 1) (by simp)
theorem ixN_c2 {α : Type} {x y z : α} {r : List α} : ixN (x :: y :: z :: r).length 2 = some 2 := ixN_nat (j := 2) (by simp)
theorem ixN_c3 {α : Type} {x y z u : α} {r : List α} : ixN (x :: y :: z :: u :: r).length 3 = some 3 := ixN_nat (j := 3) (by simp)
-- expressions
theorem i_var {n : Nat} (e : ρ[n]? = some (some d)) (h : Q d μ) : dVar n ρ μ Q := by unfold dVar; rw [e]; exact h
theorem i_c (h : Q d μ) : dC d ρ μ Q := h
theorem i_op (h : Ta ρ μ fun x μ1 => Tb ρ μ1 fun y μ2 => R x y μ2 Q) : dOp R Ta Tb ρ μ Q := h
theorem i_B (h : Te ρ μ fun d μ1 => match d with | .bl b => Qb b μ1 | _ => False) : dB Te ρ μ Qb := h
theorem i_mB {b : Bool} (h : Qb b μ) : (match (D.bl b) with | .bl b => Qb b μ | _ => False) := h
theorem i_CB {S : RCD} (h : TA ρ μ fun ds μ1 => S ds μ1 Q) : dCB S TA ρ μ Q := h
theorem i_cons (h : Te ρ μ fun d μ1 => TA ρ μ1 fun ds μ2 => Ql (d :: ds) μ2) : dCons Te TA ρ μ Ql := h
theorem i_nil (h : Ql [] μ) : dNil ρ μ Ql := h
theorem i_lst {k : Bool} (h : TA ρ μ fun ds μ1 => ds.length ≤ sizeLine ∧ mkL k ds μ1 Q) : dLst k TA ρ μ Q := h
theorem i_tup (h : TA ρ μ fun ds μ1 => ds.length ≤ sizeLine ∧ Q (.tup ds) μ1) : dTup TA ρ μ Q := h
theorem i_few {k : Bool} (l : xs.length ≤ 1000) (h : mkL k xs μ Q) : xs.length ≤ sizeLine ∧ mkL k xs μ Q := ⟨sz_le (by omega), h⟩
theorem i_fewT (l : xs.length ≤ 1000) (h : Q (.tup xs) μ) : xs.length ≤ sizeLine ∧ Q (.tup xs) μ := ⟨sz_le (by omega), h⟩
theorem i_mkF (h : Q (.lst xs) μ) : mkL false xs μ Q := h
theorem i_mkT (h : ∀ a, μ a = none → Q (.ptr a) (mup μ a (.lst xs))) : mkL true xs μ Q := h
theorem i_sl {k : Bool} {Tl Th : TDO} (h : Te ρ μ fun x μ1 => Tl ρ μ1 fun l μ2 => Th ρ μ2 fun u μ3 => slW k x l u μ3 Q) : dSl k Te Tl Th ρ μ Q := h
theorem i_noPart {Qo : Option Int → Mu → Prop} (h : Qo none μ) : dNoPart ρ μ Qo := h
theorem i_part {Qo : Option Int → Mu → Prop} (h : Te ρ μ fun d μ1 => match d with | .int i => Qo (some i) μ1 | _ => False) : dPart Te ρ μ Qo := h
theorem i_mInt {Qi : Int → Mu → Prop} (h : Qi i μ) : (match (D.int i) with | .int i => Qi i μ | _ => False) := h
theorem i_slL {k : Bool} {lo hi : Option Int} (e : vw μ x = .lst xs) (h : mkL k (cutD xs lo hi) μ Q) : slW k x lo hi μ Q := by unfold slW; rw [e]; exact h
theorem i_slS {k : Bool} {lo hi : Option Int} {s : List Nat} (l : s.length ≤ 16000000) (h : Q (.str (mk (cutD s lo hi))) μ) : slW k (.str (mk s)) lo hi μ Q := by
  unfold slW; simp only [vw_str]; exact ⟨by rw [mk_length]; exact sz_le l, by rw [cutS_mk]; exact h⟩
theorem i_BM {Ty : String} {S : RMD} {To : TDE} (h : To ρ μ fun x μ1 => isTyD Ty (vw μ1 x) ∧ TA ρ μ1 fun ds μ2 => S x ds μ2 Q) : dBM Ty S To TA ρ μ Q := h
theorem i_and (h : t ρ μ fun c μ1 => if c = true then u ρ μ1 Qb else Qb false μ1) : dAnd t u ρ μ Qb := h
theorem i_or (h : t ρ μ fun c μ1 => if c = true then Qb true μ1 else u ρ μ1 Qb) : dOr t u ρ μ Qb := h
theorem i_not (h : t ρ μ fun c μ1 => Qb (!c) μ1) : dNot t ρ μ Qb := h
theorem i_andV (h : Ta ρ μ fun x μ1 => match x with | .bl c => if c = true then Tb ρ μ1 Q else Q (.bl false) μ1 | _ => False) : dAndV Ta Tb ρ μ Q := h
theorem i_orV (h : Ta ρ μ fun x μ1 => match x with | .bl c => if c = true then Q (.bl true) μ1 else Tb ρ μ1 Q | _ => False) : dOrV Ta Tb ρ μ Q := h
theorem i_notV (h : Ta ρ μ fun x μ1 => match x with | .bl c => Q (.bl (!c)) μ1 | _ => False) : dNotV Ta ρ μ Q := h
theorem i_if (h : t ρ μ fun c μ1 => if c = true then Ta ρ μ1 Q else Tb ρ μ1 Q) : dIf t Ta Tb ρ μ Q := h
theorem i_neg (h : Te ρ μ fun d μ1 => match d with | .int i => Q (.int (-i)) μ1 | _ => False) : dNeg Te ρ μ Q := h
theorem i_tru (h : Te ρ μ fun d μ1 => ∃ b, truD (vw μ1 d) = some b ∧ Qb b μ1) : dTru Te ρ μ Qb := h
theorem i_truB {b : Bool} (h : Qb b μ) : ∃ c, truD (vw μ (.bl b)) = some c ∧ Qb c μ := ⟨b, rfl, h⟩
theorem i_truL (e : vw μ x = .lst xs) (h : Qb (!xs.isEmpty) μ) : ∃ c, truD (vw μ x) = some c ∧ Qb c μ := ⟨_, by rw [e]; rfl, h⟩
theorem i_truI (h : Qb (i != 0) μ) : ∃ c, truD (vw μ (.int i)) = some c ∧ Qb c μ := ⟨_, rfl, h⟩
theorem i_truN (h : Qb false μ) : ∃ c, truD (vw μ .non) = some c ∧ Qb c μ := ⟨_, rfl, h⟩
theorem i_frz (h : Te ρ μ fun d μ1 => frz d μ1 Q) : dFrz Te ρ μ Q := h
theorem i_frzL (e : μ a = some (.lst xs)) (h : Q (.lst xs) (mdel μ a)) : frz (.ptr a) μ Q := by unfold frz; simp only; rw [e]; exact h
theorem i_lc {k : Bool} {I : TDI} {vs : List Nat} (h : I ρ μ fun xs μ1 => ∀ p, μ1 p = none → compL g t Te p (wipeD ρ vs) (fun μ2 => endL k p μ2 Q) xs (mup μ1 p (.lst []))) : dLc k I g t Te vs ρ μ Q := h
theorem i_call {S : DSp} (h : TA ρ μ fun ds μ1 => S ds μ1 Q noX) : dCall S TA ρ μ Q := h
theorem i_isi {Ty : String} {b : Bool} (h : Te ρ μ fun d μ1 => ∃ b, isiD Ty (vw μ1 d) = some b ∧ Q (.bl b) μ1) : dIsi Ty Te ρ μ Q := h
theorem i_kd {tbl : Str → Option Str} (h : Te ρ μ fun d μ1 => ∃ s v, d = .str s ∧ tbl s = some v ∧ Q (.str v) μ1) : dKd tbl Te ρ μ Q := h
theorem i_yes (h : Qb true μ) : dYes ρ μ Qb := h
-- operators on values
theorem i_addI (h : Q (.int (i + j)) μ) : opAdd (.int i) (.int j) μ Q := h
theorem i_addS {s r : List Nat} (l : s.length + r.length ≤ 16000000) (h : Q (.str (mk (s ++ r))) μ) : opAdd (.str (mk s)) (.str (mk r)) μ Q := by
  unfold opAdd; simp only [vw_str]; exact ⟨by rw [mk_length, mk_length]; exact sz_le l, by rw [mk_append]; exact h⟩
theorem i_addL (e1 : vw μ x = .lst xs) (e2 : vw μ y = .lst ys) (l : xs.length + ys.length ≤ 16000000) (h : Q (.lst (xs ++ ys)) μ) : opAdd x y μ Q := by
  unfold opAdd; rw [e1, e2]; exact ⟨sz_le l, h⟩
theorem i_z0 {f : Int → Int → D} (h : Q (f i j) μ) : opZ0 f (.int i) (.int j) μ Q := h
theorem i_z {C : Int → Int → Prop} {f : Int → Int → D} (hc : C i j) (h : Q (f i j) μ) : opZ C f (.int i) (.int j) μ Q := ⟨hc, h⟩
theorem i_eqI {n : Bool} (h : Q (.bl (n ^^ decide (i = j))) μ) : eqW n (.int i) (.int j) μ Q := h
theorem i_eqS {n : Bool} {s r : Str} (h : Q (.bl (n ^^ decide (s = r))) μ) : eqW n (.str s) (.str r) μ Q := h
theorem i_eqB {n : Bool} {s r : Bool} (h : Q (.bl (n ^^ decide (s = r))) μ) : eqW n (.bl s) (.bl r) μ Q := h
theorem i_isN {n : Bool} (h : Q (.bl (n ^^ isNonD d)) μ) : opIs n d .non μ Q := h
theorem i_ixL (e : vw μ x = .lst xs) (l : atI xs i = some d) (h : Q d μ) : opIx x (.int i) μ Q := by unfold opIx; rw [e]; exact ⟨d, l, h⟩
theorem i_ixT (e : vw μ x = .tup xs) (l : atI xs i = some d) (h : Q d μ) : opIx x (.int i) μ Q := by unfold opIx; rw [e]; exact ⟨d, l, h⟩
theorem i_ixS {s : List Nat} {n : Nat} (b : s.length ≤ 16000000) (l : atI s i = some n) (h : Q (.str (mk [n])) μ) : opIx (.str (mk s)) (.int i) μ Q := by
  unfold opIx; simp only [vw_str]; exact ⟨by rw [mk_length]; exact sz_le b, n, by rw [mk_cps]; exact l, h⟩
theorem i_lenL (e : vw μ x = .lst xs) (h : Q (.int xs.length) μ) : cLen [x] μ Q := by unfold cLen; simp only; rw [e]; exact h
theorem i_lenT (e : vw μ x = .tup xs) (h : Q (.int xs.length) μ) : cLen [x] μ Q := by unfold cLen; simp only; rw [e]; exact h
theorem i_lenS {s : List Nat} (b : s.length ≤ 16000000) (h : Q (.int s.length) μ) : cLen [.str (mk s)] μ Q := by
  unfold cLen; simp only [vw_str]; exact ⟨by rw [mk_length]; exact sz_le b, by rw [mk_length]; exact h⟩
theorem i_int (h : Q (.int i) μ) : cInt [.int i] μ Q := h
theorem i_listL {k : Bool} (e : vw μ x = .lst xs) (h : mkL k xs μ Q) : cList k [x] μ Q := by unfold cList; simp only; rw [e]; exact h
theorem i_listT {k : Bool} (e : vw μ x = .tup xs) (h : mkL k xs μ Q) : cList k [x] μ Q := by unfold cList; simp only; rw [e]; exact h
theorem i_append (e : μ a = some (.lst xs)) (l : xs.length ≤ 16000000) (h : Q .non (mup μ a (.lst (xs ++ [d])))) : mAppend (.ptr a) [d] μ Q := ⟨xs, e, sz_lt l, h⟩
theorem i_rng1 (h : TA ρ μ fun ds μ1 => match ds with | [.int j] => (-(2 ^ 62) ≤ j ∧ j < 2 ^ 62) ∧ Ql (rngD 0 j) μ1 | _ => False) : iRg1 TA ρ μ Ql := h
theorem i_rng2 (h : TA ρ μ fun ds μ1 => match ds with | [.int i, .int j] => (-(2 ^ 62) ≤ i ∧ i < 2 ^ 62 ∧ -(2 ^ 62) ≤ j ∧ j < 2 ^ 62) ∧ Ql (rngD i j) μ1 | _ => False) : iRg2 TA ρ μ Ql := h
theorem i_endF (e : μ a = some (.lst xs)) (h : Q (.lst xs) (mdel μ a)) : endL false a μ Q := ⟨xs, e, h⟩
theorem i_endT (h : Q (.ptr a) μ) : endL true a μ Q := h
theorem ite_b {b : Bool} {A B : Prop} (h1 : b = true → A) (h2 : b = false → B) : if b = true then A else B := by
  cases b with
  | true => exact h1 rfl
  | false => exact h2 rfl
theorem ite_d {p A B : Prop} [Decidable p] (h1 : p → A) (h2 : ¬ p → B) : if decide p = true then A else B := by
  by_cases h : p
  · rw [decide_eq_true h]; exact h1 h
  · rw [decide_eq_false h]; exact h2 h
theorem ite_nd {p A B : Prop} [Decidable p] (h1 : ¬ p → A) (h2 : p → B) : if (!decide p) = true then A else B := by
  by_cases h : p
  · rw [decide_eq_true h]; exact h2 h
  · rw [decide_eq_false h]; exact h1 h
theorem ite_xd {p A B : Prop} [Decidable p] (h1 : p → A) (h2 : ¬ p → B) : if (false ^^ decide p) = true then A else B := by
  rw [Bool.false_xor]; exact ite_d h1 h2
theorem ite_xn {p A B : Prop} [Decidable p] (h1 : ¬ p → A) (h2 : p → B) : if (true ^^ decide p) = true then A else B := by
  rw [Bool.true_xor]; exact ite_nd h1 h2
-- a whole expression at once
theorem v_asg {μ' : Mu} (h : ∀ Q : QD, Q d μ' → Te ρ μ Q) (k : g d ρ μ' E.nx) : dAsg Te g E ρ μ := h _ k
theorem v_ret {μ' : Mu} (h : ∀ Q : QD, Q d μ' → Te ρ μ Q) (k : E.rt d μ') : dRet Te E ρ μ := h _ k
theorem v_drop {μ' : Mu} (h : ∀ Q : QD, Q d μ' → Te ρ μ Q) (k : E.nx ρ μ') : dDrop Te E ρ μ := h _ k
theorem v_if {μ' : Mu} {b : Bool} (h : ∀ Q : Bool → Mu → Prop, Q b μ' → c ρ μ Q) (k : if b = true then T E ρ μ' else U E ρ μ') : dIfS c T U E ρ μ := h _ k
theorem v_for {μ' : Mu} {I : TDI} (h : ∀ Q : List D → Mu → Prop, Q xs μ' → I ρ μ Q) (k : loopL g T E xs ρ μ') : dFor I g T E ρ μ := h _ k
theorem v_sub {μ' μ2 : Mu} {To Ti : TDE} {o i' : D} {Qr : DR → Mu → Prop} (h1 : ∀ Q : QD, Q o μ' → To ρ μ Q) (h2 : ∀ Q : QD, Q i' μ2 → Ti ρ μ' Q) (k : setD o i' d μ2 fun μ3 => Qr ρ μ3) : dgSub To Ti d ρ μ Qr := h1 _ (h2 _ k)
theorem ite_Qb {p b : Bool} : (if p = true then Qb b μ else Qb false μ) = Qb (p && b) μ := by cases p <;> rfl
theorem ite_Qo {p b : Bool} : (if p = true then Qb true μ else Qb b μ) = Qb (p || b) μ := by cases p <;> rfl
theorem ite_Vb {p b : Bool} : (if p = true then Q (.bl b) μ else Q (.bl false) μ) = Q (.bl (p && b)) μ := by cases p <;> rfl
theorem ite_Vo {p b : Bool} : (if p = true then Q (.bl true) μ else Q (.bl b) μ) = Q (.bl (p || b)) μ := by cases p <;> rfl
end
end DL

/-! DLB: plain lemmas more. -/
namespace DL
open PySem PySem.Spec PyProof.Rows L2
@[simp] theorem rngD_len (lo hi : Int) : (rngD lo hi).length = (hi - lo).toNat := by simp [rngD]
theorem rngD_mem {lo hi : Int} {x : D} (h : x ∈ rngD lo hi) : ∃ i, x = .int i ∧ lo ≤ i ∧ i < hi := by
  unfold rngD at h
  obtain ⟨k, hk, rfl⟩ := List.mem_map.mp h
  rw [List.mem_range] at hk
  exact ⟨_, rfl, by omega, by omega⟩
@[simp] theorem rngD_02 : rngD 0 2 = [.int 0, .int 1] := rfl
@[simp] theorem rngD_03 : rngD 0 3 = [.int 0, .int 1, .int 2] := rfl
theorem ofString_nil : (Str.ofString "") = mk [] := rfl
theorem glue_nil : ∀ (ps : List (List Nat)) (acc : Array Nat), (ps.map mk).foldl (fun acc p => acc ++ (mk []).cps ++ p.cps) acc = acc ++ ps.flatten.toArray
  | [], acc => by simp
  | a :: r, acc => by
    simp only [List.map_cons, List.foldl_cons]
    rw [glue_nil r]
    simp
theorem joinE (ps : List (List Nat)) : Txt.join (mk []) (ps.map mk) = mk ps.flatten := by
  cases ps with
  | nil => rfl
  | cons a r =>
    show Builtin.Str.glued (mk []) (mk a :: r.map mk) = _
    unfold Builtin.Str.glued
    simp only [List.drop_succ_cons, List.drop_zero, List.headD_cons]
    rw [glue_nil r]
    simp [mk]
theorem sum_mk (ps : List (List Nat)) : ((ps.map mk).map (·.length)).sum = ps.flatten.length := by
  induction ps with
  | nil => rfl
  | cons a r ih => simp only [List.map_cons, List.sum_cons, ih, List.flatten_cons, List.length_append, mk_length]
theorem strsOf_mk (ps : List (List Nat)) : strsOf (ps.map fun p => D.str (mk p)) = some (ps.map mk) := by
  rw [show (ps.map fun p => D.str (mk p)) = (ps.map mk).map D.str by rw [List.map_map]; rfl]; exact strsOf_map _
theorem set_last {α : Type} (xs : List α) (x y : α) : (xs ++ [x]).set xs.length y = xs ++ [y] := by
  rw [List.set_append_right _ _ (Nat.le_refl _), Nat.sub_self]; rfl
theorem ixN_last {α : Type} (xs : List α) (x : α) : ixN (xs ++ [x]).length (-1) = some xs.length := by
  rw [ixN_m1 (by simp)]; simp
theorem cutD_map {α β : Type} (f : α → β) (xs : List α) (lo hi : Option Int) : cutD (xs.map f) lo hi = (cutD xs lo hi).map f := by
  unfold cutD; simp
theorem cutD_upto {α : Type} (xs : List α) {i : Int} (h : 0 ≤ i) : cutD xs none (some i) = xs.take i.toNat := by
  obtain ⟨j, rfl⟩ := Int.eq_ofNat_of_zero_le h; rw [cutD_to]; simp
theorem cutD_behind {α : Type} (xs : List α) {i : Int} (h : 0 ≤ i) : cutD xs (some i) none = xs.drop i.toNat := by
  obtain ⟨j, rfl⟩ := Int.eq_ofNat_of_zero_le h; rw [cutD_from]; simp

/-! comprehensions: what the turn reads told after the frame is known -/
section
variable {X : Cx} {pos : Pos}
abbrev Fam (α : Type) := Shared → Hp → Addr → List (Str × Addr) → List Addr → α
theorem de_lcA (c : Bool) {elt tg iter : Expr} {ifs : List Expr} {scope : Scope} {own : List (Str × Nat)} {wi : TI} {I : TDI} {g : TG} {U : TDG} {tt : TT} {tt' : Fam TT} {Tt : TDT} {te : TE} {te' : Fam TE} {Te : TDE} (hc : X.calm = true) (hN : X.N.Nodup) (hi : DI X B tg iter wi I) (ok : BlkOk X.N X.env.scope scope own)
    (hg : ∀ (s : Shared) (H : Hp) (C : Addr) (cl : List (Str × Addr)) (fp : List Addr), DG (X.blk s H scope (compEnvC scope cl C X.env) fp) B tg g U) (hk : KeepG g (own.map (·.2))) (ht : ∀ (s : Shared) (H : Hp) (C : Addr) (cl : List (Str × Addr)) (fp : List Addr), DTs (X.blk s H scope (compEnvC scope cl C X.env) fp) B ifs (tt' s H C cl fp) Tt)
    (he : ∀ (s : Shared) (H : Hp) (C : Addr) (cl : List (Str × Addr)) (fp : List Addr), DE (X.blk s H scope (compEnvC scope cl C X.env) fp) B elt (te' s H C cl fp) Te)
    (et : tt' = fun _ _ _ _ _ => tt := by (first | rfl | (simp only [Cx.blk]; rfl))) (ee : te' = fun _ _ _ _ _ => te := by (first | rfl | (simp only [Cx.blk]; rfl))) (hs : ∀ x, foldedSetIterable iter X.env x = pure x := by intro _; rfl) :
    DE X B (.ListComp elt [⟨tg, iter, ifs, 0⟩] scope pos) (tLc wi g tt te (own.map (·.2))) (dLc c I U Tt Te (own.map (·.2))) := by
  subst et; subst ee
  exact de_lc c hc hN hi ok hg hk ht he hs
theorem ds_setLcA (c : Bool) (i : Nat) {y : Str} {py : Pos} {elt tg iter : Expr} {ifs : List Expr} {scope : Scope} {own : List (Str × Nat)} {spos : Pos} {wi : TI} {I : TDI} {g : TG} {U : TDG} {tt : TT} {tt' : Fam TT} {Tt : TDT} {te : TE} {te' : Fam TE} {Te : TDE} (hc : X.calm = true) (hN : X.N.Nodup) (hy : X.N[i]? = some y) (hyl : X.env.scope.names.lookup y = some .local)
    (hsw : swapsWith (.ListComp elt [⟨tg, iter, ifs, 0⟩] scope pos) (some (.Name y py)) spos.line X.env = pure true) (hi : DI X B tg iter wi I) (ok : BlkOk X.N X.env.scope scope own)
    (hg : ∀ (s : Shared) (H : Hp) (C : Addr) (cl : List (Str × Addr)) (fp : List Addr), DG (X.blk s H scope (compEnvC scope cl C X.env) fp) B tg g U) (hk : KeepG g (own.map (·.2))) (ht : ∀ (s : Shared) (H : Hp) (C : Addr) (cl : List (Str × Addr)) (fp : List Addr), DTs (X.blk s H scope (compEnvC scope cl C X.env) fp) B ifs (tt' s H C cl fp) Tt)
    (he : ∀ (s : Shared) (H : Hp) (C : Addr) (cl : List (Str × Addr)) (fp : List Addr), DE (X.blk s H scope (compEnvC scope cl C X.env) fp) B elt (te' s H C cl fp) Te)
    (et : tt' = fun _ _ _ _ _ => tt := by (first | rfl | (simp only [Cx.blk]; rfl))) (ee : te' = fun _ _ _ _ _ => te := by (first | rfl | (simp only [Cx.blk]; rfl))) (hs : ∀ x, foldedSetIterable iter X.env x = pure x := by intro _; rfl) :
    DS X B (.Assign [.Name y py] (.ListComp elt [⟨tg, iter, ifs, 0⟩] scope pos) spos) (tAsg (tLc wi g tt te (own.map (·.2))) (gName i)) (dAsg (dLc c I U Tt Te (own.map (·.2))) (dgName i)) := by
  subst et; subst ee
  exact ds_setLc c i hc hN hy hyl hsw hi ok hg hk ht he hs
end
end DL

/-! DLC: readings unfold before their parts are looked at. -/
namespace DL
open PySem PySem.Spec PyProof.Rows L2
def oS {α : Type} (o : Option α) (P : α → Prop) : Prop := match o with | some d => P d | none => False
@[simp ↓] theorem oS_p {α : Type} {o : Option α} {P : α → Prop} : oS o P = (match o with | some d => P d | none => False) := id rfl
theorem oS_eq {α : Type} {o : Option α} {P : α → Prop} : oS o P = (∃ d, o = some d ∧ P d) := by cases o <;> simp [oS]
def lS (v : D) (P : List D → Prop) : Prop := match v with | .lst xs => P xs | _ => False
@[simp ↓] theorem lS_p {v : D} {P : List D → Prop} : lS v P = (match v with | .lst xs => P xs | _ => False) := id rfl
theorem lS_eq {v : D} {P : List D → Prop} : lS v P = (∃ xs, v = .lst xs ∧ P xs) := by cases v <;> simp [lS]
def tS (v : D) (P : List D → Prop) : Prop := match v with | .tup xs => P xs | _ => False
@[simp ↓] theorem tS_p {v : D} {P : List D → Prop} : tS v P = (match v with | .tup xs => P xs | _ => False) := id rfl
theorem tS_eq {v : D} {P : List D → Prop} : tS v P = (∃ xs, v = .tup xs ∧ P xs) := by cases v <;> simp [tS]
def dS (v : D) (P : List (Key × D) → Prop) : Prop := match v with | .dic xs => P xs | _ => False
@[simp ↓] theorem dS_p {v : D} {P : List (Key × D) → Prop} : dS v P = (match v with | .dic xs => P xs | _ => False) := id rfl
theorem dS_eq {v : D} {P : List (Key × D) → Prop} : dS v P = (∃ xs, v = .dic xs ∧ P xs) := by cases v <;> simp [dS]
def sS (v : D) (P : Str → Prop) : Prop := match v with | .str xs => P xs | _ => False
@[simp ↓] theorem sS_p {v : D} {P : Str → Prop} : sS v P = (match v with | .str xs => P xs | _ => False) := id rfl
theorem sS_eq {v : D} {P : Str → Prop} : sS v P = (∃ xs, v = .str xs ∧ P xs) := by cases v <;> simp [sS]
def pS (v : D) (P : Addr → Prop) : Prop := match v with | .ptr xs => P xs | _ => False
@[simp ↓] theorem pS_p {v : D} {P : Addr → Prop} : pS v P = (match v with | .ptr xs => P xs | _ => False) := id rfl
theorem pS_eq {v : D} {P : Addr → Prop} : pS v P = (∃ xs, v = .ptr xs ∧ P xs) := by cases v <;> simp [pS]
def cS (v : Option Cell) (P : List D → Prop) : Prop := match v with | some (.lst xs) => P xs | _ => False
@[simp ↓] theorem cS_p {v : Option Cell} {P : List D → Prop} : cS v P = (match v with | some (.lst xs) => P xs | _ => False) := id rfl
theorem cS_eq {v : Option Cell} {P : List D → Prop} : cS v P = (∃ xs, v = some (.lst xs) ∧ P xs) := by
  cases v with
  | none => simp [cS]
  | some c => cases c <;> simp [cS]
def cdS (v : Option Cell) (P : List (Key × D) → Prop) : Prop := match v with | some (.dic xs) => P xs | _ => False
@[simp ↓] theorem cdS_p {v : Option Cell} {P : List (Key × D) → Prop} : cdS v P = (match v with | some (.dic xs) => P xs | _ => False) := id rfl
theorem cdS_eq {v : Option Cell} {P : List (Key × D) → Prop} : cdS v P = (∃ xs, v = some (.dic xs) ∧ P xs) := by
  cases v with
  | none => simp [cdS]
  | some c => cases c <;> simp [cdS]
def oneC (s : Str) : Option Nat := match s.cps.toList with | [c] => some c | _ => none
@[simp] theorem oneC_mk (c : Nat) : oneC (mk [c]) = some c := id rfl
theorem oneC_eq {s : Str} {P : Nat → Prop} : oS (oneC s) P = (∃ c, s = mk [c] ∧ P c) := by
  rw [oS_eq]
  refine propext ⟨fun ⟨c, h, q⟩ => ⟨c, ?_, q⟩, fun ⟨c, h, q⟩ => ⟨c, by rw [h]; rfl, q⟩⟩
  unfold oneC at h
  split at h
  · next d e => cases h; rw [← DL.mk_of s, e]
  · cases h
@[simp ↓] theorem compL_cons_p {g : TDG} {tt : TDT} {te : TDE} {p : Addr} {ρ0 : DR} {Q : Mu → Prop} {x : D} {r : List D} {μ : Mu} : compL g tt te p ρ0 Q (x :: r) μ = (g x ρ0 μ fun ρ2 μ2 => tt ρ2 μ2 fun b μ3 => if b = true then te ρ2 μ3 fun d μ4 => cS (μ4 p) fun acc => acc.length < sizeLine ∧ compL g tt te p ρ0 Q r (mup μ4 p (.lst (acc ++ [d]))) else compL g tt te p ρ0 Q r μ3) := by
  simp only [cS_eq]; rfl
@[simp ↓] theorem compL_nil_p {g : TDG} {tt : TDT} {te : TDE} {p : Addr} {ρ0 : DR} {Q : Mu → Prop} {μ : Mu} : compL g tt te p ρ0 Q [] μ = Q μ := id rfl
@[simp ↓] theorem loopL_nil_p {g : TDG} {T : TDS} {E : DEnds} {ρ : DR} {μ : Mu} : loopL g T E [] ρ μ = E.nx ρ μ := id rfl
/-- the ends of a first statement, of a turn -/
def sqE (E : DEnds) (N : DR → Mu → Prop) : DEnds := { E with nx := N }
def lpE (E : DEnds) (N : DR → Mu → Prop) : DEnds := { E with nx := N, ct := N, bk := E.nx }
section
variable {E : DEnds} {N : DR → Mu → Prop} {ρ : DR} {μ : Mu} {d : D}
@[simp ↓] theorem sqE_nx : (sqE E N).nx ρ μ = N ρ μ := id rfl
@[simp ↓] theorem sqE_rt : (sqE E N).rt d μ = E.rt d μ := id rfl
@[simp ↓] theorem sqE_bk : (sqE E N).bk ρ μ = E.bk ρ μ := id rfl
@[simp ↓] theorem sqE_ct : (sqE E N).ct ρ μ = E.ct ρ μ := id rfl
@[simp ↓] theorem lpE_nx : (lpE E N).nx ρ μ = N ρ μ := id rfl
@[simp ↓] theorem lpE_rt : (lpE E N).rt d μ = E.rt d μ := id rfl
@[simp ↓] theorem lpE_bk : (lpE E N).bk ρ μ = E.nx ρ μ := id rfl
@[simp ↓] theorem lpE_ct : (lpE E N).ct ρ μ = N ρ μ := id rfl
@[simp ↓] theorem dSeq_p {T U : TDS} : dSeq T U E ρ μ = T (sqE E (U E)) ρ μ := id rfl
@[simp ↓] theorem dRet_p {T : TDE} : dRet T E ρ μ = T ρ μ fun d μ1 => E.rt d μ1 := id rfl
end
@[simp ↓] theorem loopL_cons_p {g : TDG} {T : TDS} {E : DEnds} {x : D} {r : List D} {ρ : DR} {μ : Mu} : loopL g T E (x :: r) ρ μ = g x ρ μ fun ρ2 μ2 => T (lpE E (loopL g T E r)) ρ2 μ2 := id rfl
@[simp ↓] theorem dVar_p {i : Nat} {ρ} {μ} {Q} : dVar i ρ μ Q = (match ρ[i]? with | some (some d) => Q d μ | _ => False) := id rfl
@[simp ↓] theorem dC_p {d : D} {z0} {μ} {Q} : dC d z0 μ Q = (Q d μ) := id rfl
@[simp ↓] theorem dNil_p {z0} {μ} {Q} : dNil  z0 μ Q = (Q [] μ) := id rfl
@[simp ↓] theorem dCons_p {Ta : TDE} {Tr : TDA} {ρ} {μ} {Q} : dCons Ta Tr ρ μ Q = (Ta ρ μ fun d μ1 => Tr ρ μ1 fun ds μ2 => Q (d :: ds) μ2) := id rfl
@[simp ↓] theorem dLst_p {c : Bool} {T : TDA} {ρ} {μ} {Q} : dLst c T ρ μ Q = (T ρ μ fun ds μ1 => ds.length ≤ sizeLine ∧ mkL c ds μ1 Q) := id rfl
@[simp ↓] theorem dTup_p {T : TDA} {ρ} {μ} {Q} : dTup T ρ μ Q = (T ρ μ fun ds μ1 => ds.length ≤ sizeLine ∧ Q (.tup ds) μ1) := id rfl
@[simp ↓] theorem dOp_p {R : R2D} {Ta Tb : TDE} {ρ} {μ} {Q} : dOp R Ta Tb ρ μ Q = (Ta ρ μ fun x μ1 => Tb ρ μ1 fun y μ2 => R x y μ2 Q) := id rfl
@[simp ↓] theorem dB_p {T : TDE} {ρ} {μ} {Q} : dB T ρ μ Q = (T ρ μ fun d μ1 => match d with | .bl b => Q b μ1 | _ => False) := id rfl
@[simp ↓] theorem opAdd_p {x} {y} {μ} {Q} : opAdd  x y μ Q = (match vw μ x, vw μ y with
  | .int i, .int j => Q (.int (i + j)) μ
  | .str s, .str t => s.length + t.length ≤ sizeLine ∧ Q (.str (s ++ t)) μ
  | .lst xs, .lst ys => xs.length + ys.length ≤ sizeLine ∧ Q (.lst (xs ++ ys)) μ
  | _, _ => False) := id rfl
@[simp ↓] theorem opAddC_p {x} {y} {μ} {Q} : opAddC  x y μ Q = (match vw μ x, vw μ y with
  | .lst xs, .lst ys => xs.length + ys.length ≤ sizeLine ∧ mkL true (xs ++ ys) μ Q
  | _, _ => False) := id rfl
@[simp ↓] theorem opZ_p {C : Int → Int → Prop} {g : Int → Int → D} {x} {y} {μ} {Q} : opZ C g x y μ Q = (match x, y with
  | .int i, .int j => C i j ∧ Q (g i j) μ
  | _, _ => False) := id rfl
@[simp ↓] theorem opZ0_p {g : Int → Int → D} {x} {y} {μ} {Q} : opZ0 g x y μ Q = (match x, y with
  | .int i, .int j => Q (g i j) μ
  | _, _ => False) := id rfl
@[simp ↓] theorem eqW_p {neg : Bool} {x} {y} {μ} {Q} : eqW neg x y μ Q = (match vw μ x, vw μ y with
  | .int i, .int j => Q (.bl (neg ^^ decide (i = j))) μ
  | .str i, .str j => Q (.bl (neg ^^ decide (i = j))) μ
  | .bl i, .bl j => Q (.bl (neg ^^ decide (i = j))) μ
  | .non, .non => Q (.bl (neg ^^ true)) μ
  | .non, .str _ => Q (.bl (neg ^^ false)) μ
  | .str _, .non => Q (.bl (neg ^^ false)) μ
  | .non, .int _ => Q (.bl (neg ^^ false)) μ
  | .int _, .non => Q (.bl (neg ^^ false)) μ
  | .lst xs, .lst ys => oS (pyL xs) fun ds => oS (pyL ys) fun es => SeqAt.shaped (.list ds) = true ∧ SeqAt.shaped (.list es) = true ∧ Q (.bl (neg ^^ PyData.eqvAll ds es)) μ
  | .tup xs, .tup ys => oS (pyL xs) fun ds => oS (pyL ys) fun es => SeqAt.shaped (.tuple ds) = true ∧ SeqAt.shaped (.tuple es) = true ∧ Q (.bl (neg ^^ PyData.eqvAll ds es)) μ
  | _, _ => False) := by
  first | (simp only [oS_eq, lS_eq, tS_eq, dS_eq, sS_eq, pS_eq, cS_eq, cdS_eq]; rfl) | (simp only [oS_eq, lS_eq, tS_eq, dS_eq, sS_eq, pS_eq, cS_eq, cdS_eq, oneC_eq, ← exists_and_left]; rfl)
@[simp ↓] theorem opIs_p {neg : Bool} {x} {y} {μ} {Q} : opIs neg x y μ Q = (match y with
  | .non => Q (.bl (neg ^^ isNonD x)) μ
  | _ => False) := id rfl
@[simp ↓] theorem inSeq_p {neg : Bool} {x : D} {xs : List D} {μ : Mu} {Q : QD} : inSeq neg x xs μ Q  = (match x with
  | .str s => oS (strsOf xs) fun ss => Q (.bl (neg ^^ decide (s ∈ ss))) μ
  | .int s => oS (intsOf xs) fun ss => Q (.bl (neg ^^ decide (s ∈ ss))) μ
  | _ => False) := by
  first | (simp only [oS_eq, lS_eq, tS_eq, dS_eq, sS_eq, pS_eq, cS_eq, cdS_eq]; rfl) | (simp only [oS_eq, lS_eq, tS_eq, dS_eq, sS_eq, pS_eq, cS_eq, cdS_eq, oneC_eq, ← exists_and_left]; rfl)
@[simp ↓] theorem inW_p {neg : Bool} {x} {y} {μ} {Q} : inW neg x y μ Q = (match vw μ y with
  | .lst xs => inSeq neg x xs μ Q
  | .tup xs => inSeq neg x xs μ Q
  | .str t => match x with
    | .str s => oS (oneC s) fun c => Q (.bl (neg ^^ decide (c ∈ t.cps.toList))) μ
    | _ => False
  | _ => False) := by
  simp only [oneC_eq]; rfl
@[simp ↓] theorem opIx_p {x} {y} {μ} {Q} : opIx  x y μ Q = (match vw μ x, y with
  | .lst xs, .int i => oS (atI xs i) fun d => Q d μ
  | .tup xs, .int i => oS (atI xs i) fun d => Q d μ
  | .str s, .int i => s.length ≤ sizeLine ∧ oS (atI s.cps.toList i) fun c => Q (.str (mk [c])) μ
  | _, _ => False) := by
  first | (simp only [oS_eq, lS_eq, tS_eq, dS_eq, sS_eq, pS_eq, cS_eq, cdS_eq]; rfl) | (simp only [oS_eq, lS_eq, tS_eq, dS_eq, sS_eq, pS_eq, cS_eq, cdS_eq, oneC_eq, ← exists_and_left]; rfl)
@[simp ↓] theorem dNoPart_p {z0} {μ} {Q} : dNoPart  z0 μ Q = (Q none μ) := id rfl
@[simp ↓] theorem dPart_p {T : TDE} {ρ} {μ} {Q} : dPart T ρ μ Q = (T ρ μ fun d μ1 => match d with | .int i => Q (some i) μ1 | _ => False) := id rfl
@[simp ↓] theorem slW_p {c : Bool} {x : D} {lo hi : Option Int} {μ : Mu} {Q : QD} : slW c x lo hi μ Q  = (match vw μ x with
  | .lst xs => mkL c (cutD xs lo hi) μ Q
  | .str s => s.length ≤ sizeLine ∧ Q (.str (cutS s lo hi)) μ
  | _ => False) := id rfl
@[simp ↓] theorem dSl_p {c : Bool} {T : TDE} {Tl Th : TDO} {ρ} {μ} {Q} : dSl c T Tl Th ρ μ Q = (T ρ μ fun x μ1 => Tl ρ μ1 fun l μ2 => Th ρ μ2 fun u μ3 => slW c x l u μ3 Q) := id rfl
@[simp ↓] theorem dCB_p {R : RCD} {T : TDA} {ρ} {μ} {Q} : dCB R T ρ μ Q = (T ρ μ fun ds μ1 => R ds μ1 Q) := id rfl
@[simp ↓] theorem cLen_p {ds} {μ} {Q} : cLen  ds μ Q = (match ds with
  | [x] => match vw μ x with
    | .lst xs => Q (.int xs.length) μ
    | .tup xs => Q (.int xs.length) μ
    | .str s => s.length ≤ sizeLine ∧ Q (.int s.length) μ
    | .scr ns => Q (.int ns.length) μ
    | _ => False
  | _ => False) := id rfl
@[simp ↓] theorem cList_p {c : Bool} {ds} {μ} {Q} : cList c ds μ Q = (match ds with
  | [x] => match vw μ x with
    | .lst xs => mkL c xs μ Q
    | .tup xs => mkL c xs μ Q
    | .scr ns => mkL c (ns.map .int) μ Q
    | _ => False
  | _ => False) := id rfl
@[simp ↓] theorem cInt_p {ds} {μ} {Q} : cInt  ds μ Q = (match ds with
  | [.int i] => Q (.int i) μ
  | [.bl b] => Q (.int (if b then 1 else 0)) μ
  | _ => False) := id rfl
@[simp ↓] theorem cMin2_p {ds} {μ} {Q} : cMin2  ds μ Q = (match ds with
  | [.int i, .int j] => Q (.int (if j < i then j else i)) μ
  | _ => False) := id rfl
@[simp ↓] theorem cMax2_p {ds} {μ} {Q} : cMax2  ds μ Q = (match ds with
  | [.int i, .int j] => Q (.int (if j > i then j else i)) μ
  | _ => False) := id rfl
@[simp ↓] theorem cAll_p {ds} {μ} {Q} : cAll  ds μ Q = (match ds with
  | [x] => lS (vw μ x) fun xs => oS (blsOf xs) fun bs => Q (.bl (bs.all id)) μ
  | _ => False) := by
  first | (simp only [oS_eq, lS_eq, tS_eq, dS_eq, sS_eq, pS_eq, cS_eq, cdS_eq]; rfl) | (simp only [oS_eq, lS_eq, tS_eq, dS_eq, sS_eq, pS_eq, cS_eq, cdS_eq, oneC_eq, ← exists_and_left]; rfl)
@[simp ↓] theorem cAny_p {ds} {μ} {Q} : cAny  ds μ Q = (match ds with
  | [x] => lS (vw μ x) fun xs => oS (blsOf xs) fun bs => Q (.bl (bs.any id)) μ
  | _ => False) := by
  first | (simp only [oS_eq, lS_eq, tS_eq, dS_eq, sS_eq, pS_eq, cS_eq, cdS_eq]; rfl) | (simp only [oS_eq, lS_eq, tS_eq, dS_eq, sS_eq, pS_eq, cS_eq, cdS_eq, oneC_eq, ← exists_and_left]; rfl)
@[simp ↓] theorem dBM_p {T : String} {R : RMD} {To : TDE} {Ta : TDA} {ρ} {μ} {Q} : dBM T R To Ta ρ μ Q = (To ρ μ fun x μ1 => isTyD T (vw μ1 x) ∧ Ta ρ μ1 fun ds μ2 => R x ds μ2 Q) := id rfl
@[simp ↓] theorem mAppend_p {x} {ds} {μ} {Q} : mAppend  x ds μ Q = (match x, ds with
  | .ptr a, [d] => cS (μ a) fun xs => xs.length < sizeLine ∧ Q .non (mup μ a (.lst (xs ++ [d])))
  | _, _ => False) := by
  first | (simp only [oS_eq, lS_eq, tS_eq, dS_eq, sS_eq, pS_eq, cS_eq, cdS_eq]; rfl) | (simp only [oS_eq, lS_eq, tS_eq, dS_eq, sS_eq, pS_eq, cS_eq, cdS_eq, oneC_eq, ← exists_and_left]; rfl)
@[simp ↓] theorem mPop_p {x} {ds} {μ} {Q} : mPop  x ds μ Q = (match x, ds with
  | .ptr a, [] => ∃ xs d, μ a = some (.lst (xs ++ [d])) ∧ Q d (mup μ a (.lst xs))
  | _, _ => False) := id rfl
@[simp ↓] theorem mInsert_p {x} {ds} {μ} {Q} : mInsert  x ds μ Q = (match x, ds with
  | .ptr a, [.int i, d] => cS (μ a) fun xs => xs.length < sizeLine ∧ 0 ≤ i ∧ i < 2 ^ 63 ∧ Q .non (mup μ a (.lst (xs.take i.toNat ++ d :: xs.drop i.toNat)))
  | _, _ => False) := by
  first | (simp only [oS_eq, lS_eq, tS_eq, dS_eq, sS_eq, pS_eq, cS_eq, cdS_eq]; rfl) | (simp only [oS_eq, lS_eq, tS_eq, dS_eq, sS_eq, pS_eq, cS_eq, cdS_eq, oneC_eq, ← exists_and_left]; rfl)
@[simp ↓] theorem mStarts_p {x} {ds} {μ} {Q} : mStarts  x ds μ Q = (match x, ds with
  | .str a, [.str b] => Q (.bl (Txt.startswith a b)) μ
  | _, _ => False) := id rfl
@[simp ↓] theorem mEnds_p {x} {ds} {μ} {Q} : mEnds  x ds μ Q = (match x, ds with
  | .str a, [.str b] => Q (.bl (Txt.endswith a b)) μ
  | _, _ => False) := id rfl
@[simp ↓] theorem mSplit_p {c : Bool} {x} {ds} {μ} {Q} : mSplit c x ds μ Q = (match x, ds with
  | .str a, [.str b] => (b.length == 0) = false ∧ a.length + 2 ≤ sizeLine ∧ mkL c ((Txt.split a b).map .str) μ Q
  | _, _ => False) := id rfl
@[simp ↓] theorem dAnd_p {t u : TDT} {ρ} {μ} {Q} : dAnd t u ρ μ Q = (t ρ μ fun c μ1 => if c = true then u ρ μ1 Q else Q false μ1) := id rfl
@[simp ↓] theorem dOr_p {t u : TDT} {ρ} {μ} {Q} : dOr t u ρ μ Q = (t ρ μ fun c μ1 => if c = true then Q true μ1 else u ρ μ1 Q) := id rfl
@[simp ↓] theorem dNot_p {t : TDT} {ρ} {μ} {Q} : dNot t ρ μ Q = (t ρ μ fun c μ1 => Q (!c) μ1) := id rfl
@[simp ↓] theorem dAndV_p {ta tb : TDE} {ρ} {μ} {Q} : dAndV ta tb ρ μ Q = (ta ρ μ fun x μ1 => match x with | .bl c => if c = true then tb ρ μ1 Q else Q (.bl false) μ1 | _ => False) := id rfl
@[simp ↓] theorem dOrV_p {ta tb : TDE} {ρ} {μ} {Q} : dOrV ta tb ρ μ Q = (ta ρ μ fun x μ1 => match x with | .bl c => if c = true then Q (.bl true) μ1 else tb ρ μ1 Q | _ => False) := id rfl
@[simp ↓] theorem dNotV_p {ta : TDE} {ρ} {μ} {Q} : dNotV ta ρ μ Q = (ta ρ μ fun x μ1 => match x with | .bl c => Q (.bl (!c)) μ1 | _ => False) := id rfl
@[simp ↓] theorem dIf_p {t : TDT} {ta tb : TDE} {ρ} {μ} {Q} : dIf t ta tb ρ μ Q = (t ρ μ fun c μ1 => if c = true then ta ρ μ1 Q else tb ρ μ1 Q) := id rfl
@[simp ↓] theorem dNeg_p {T : TDE} {ρ} {μ} {Q} : dNeg T ρ μ Q = (T ρ μ fun d μ1 => match d with | .int i => Q (.int (-i)) μ1 | _ => False) := id rfl
@[simp ↓] theorem dTru_p {T : TDE} {ρ} {μ} {Q} : dTru T ρ μ Q = (T ρ μ fun d μ1 => oS (truD (vw μ1 d)) fun b => Q b μ1) := by
  first | (simp only [oS_eq, lS_eq, tS_eq, dS_eq, sS_eq, pS_eq, cS_eq, cdS_eq]; rfl) | (simp only [oS_eq, lS_eq, tS_eq, dS_eq, sS_eq, pS_eq, cS_eq, cdS_eq, oneC_eq, ← exists_and_left]; rfl)
@[simp ↓] theorem dgName_p {i : Nat} {d} {ρ} {μ} {Q} : dgName i d ρ μ Q = (Q (ρ.set i (some d)) μ) := id rfl
@[simp ↓] theorem dgNil_p {ds} {ρ} {μ} {Q} : dgNil  ds ρ μ Q = (ds = [] ∧ Q ρ μ) := id rfl
@[simp ↓] theorem dgCons_p {T : TDG} {U : TDGs} {ds} {ρ} {μ} {Q} : dgCons T U ds ρ μ Q = (match ds with
  | d :: r => T d ρ μ fun ρ' μ' => U r ρ' μ' Q
  | [] => False) := id rfl
@[simp ↓] theorem dgTup_p {n : Nat} {U : TDGs} {d} {ρ} {μ} {Q} : dgTup n U d ρ μ Q = (tS (vw μ d) fun xs => xs.length = n ∧ U xs ρ μ Q) := by
  first | (simp only [oS_eq, lS_eq, tS_eq, dS_eq, sS_eq, pS_eq, cS_eq, cdS_eq]; rfl) | (simp only [oS_eq, lS_eq, tS_eq, dS_eq, sS_eq, pS_eq, cS_eq, cdS_eq, oneC_eq, ← exists_and_left]; rfl)
@[simp ↓] theorem setD_p {o i d : D} {μ : Mu} {Q : Mu → Prop} : setD o i d μ Q  = (match o, i with
  | .ptr a, .int k => cS (μ a) fun xs => oS (ixN xs.length k) fun j => Q (mup μ a (.lst (xs.set j d)))
  | _, _ => False) := by
  first | (simp only [oS_eq, lS_eq, tS_eq, dS_eq, sS_eq, pS_eq, cS_eq, cdS_eq]; rfl) | (simp only [oS_eq, lS_eq, tS_eq, dS_eq, sS_eq, pS_eq, cS_eq, cdS_eq, oneC_eq, ← exists_and_left]; rfl)
@[simp ↓] theorem dgSub_p {To Ti : TDE} {d} {ρ} {μ} {Q} : dgSub To Ti d ρ μ Q = (To ρ μ fun o μ1 => Ti ρ μ1 fun i μ2 => setD o i d μ2 fun μ3 => Q ρ μ3) := id rfl
@[simp ↓] theorem dNext_p {E} {ρ} {μ} : dNext  E ρ μ = (E.nx ρ μ) := id rfl
@[simp ↓] theorem dBreak_p {E} {ρ} {μ} : dBreak  E ρ μ = (E.bk ρ μ) := id rfl
@[simp ↓] theorem dCont_p {E} {ρ} {μ} : dCont  E ρ μ = (E.ct ρ μ) := id rfl
@[simp ↓] theorem dDrop_p {T : TDE} {E} {ρ} {μ} : dDrop T E ρ μ = (T ρ μ fun _ μ1 => E.nx ρ μ1) := id rfl
@[simp ↓] theorem dRetN_p {E} {z1} {μ} : dRetN  E z1 μ = (E.rt .non μ) := id rfl
@[simp ↓] theorem dIfS_p {c : TDT} {T U : TDS} {E} {ρ} {μ} : dIfS c T U E ρ μ = (c ρ μ fun b μ1 => if b = true then T E ρ μ1 else U E ρ μ1) := id rfl
@[simp ↓] theorem dAsg_p {T : TDE} {g : TDG} {E} {ρ} {μ} : dAsg T g E ρ μ = (T ρ μ fun d μ1 => g d ρ μ1 E.nx) := id rfl
@[simp ↓] theorem dAug_p {i : Nat} {R : R2D} {T : TDE} {E} {ρ} {μ} : dAug i R T E ρ μ = (match ρ[i]? with
  | some (some x) => T ρ μ fun y μ1 => R x y μ1 fun z μ2 => E.nx (ρ.set i (some z)) μ2
  | _ => False) := id rfl
@[simp ↓] theorem dFrzS_p {i : Nat} {T : TDS} {E} {ρ} {μ} : dFrzS i T E ρ μ = (match ρ[i]? with
  | some (some (.ptr a)) => match μ a with
    | some (.lst xs) => T E (ρ.set i (some (.lst xs))) (mdel μ a)
    | _ => False
  | _ => False) := id rfl
@[simp ↓] theorem frz_p {d : D} {μ : Mu} {Q : QD} : frz d μ Q  = (match d with
  | .ptr a => match μ a with
    | some (.lst xs) => Q (.lst xs) (mdel μ a)
    | some (.dic xs) => Q (.dic xs) (mdel μ a)
    | some (.ins C fs) => Q (.obj C fs) (mdel μ a)
    | _ => False
  | d => Q d μ) := id rfl
@[simp ↓] theorem dFrz_p {T : TDE} {ρ} {μ} {Q} : dFrz T ρ μ Q = (T ρ μ fun d μ1 => frz d μ1 Q) := id rfl
@[simp ↓] theorem dFor_p {I : TDI} {g : TDG} {T : TDS} {E} {ρ} {μ} : dFor I g T E ρ μ = (I ρ μ fun xs μ1 => loopL g T E xs ρ μ1) := id rfl
@[simp ↓] theorem iLst_p {T : TDE} {ρ} {μ} {Q} : iLst T ρ μ Q = (T ρ μ fun d μ1 => match d with | .lst xs => Q xs μ1 | _ => False) := id rfl
@[simp ↓] theorem iTupD_p {T : TDE} {ρ} {μ} {Q} : iTupD T ρ μ Q = (T ρ μ fun d μ1 => match d with | .tup xs => Q xs μ1 | _ => False) := id rfl
@[simp ↓] theorem iScr_p {T : TDE} {ρ} {μ} {Q} : iScr T ρ μ Q = (T ρ μ fun d μ1 => match d with | .scr ns => Q (ns.map .int) μ1 | _ => False) := id rfl
@[simp ↓] theorem iRg1_p {T : TDA} {ρ} {μ} {Q} : iRg1 T ρ μ Q = (T ρ μ fun ds μ1 => match ds with | [.int j] => (-(2 ^ 62) ≤ j ∧ j < 2 ^ 62) ∧ Q (rngD 0 j) μ1 | _ => False) := id rfl
@[simp ↓] theorem iRg2_p {T : TDA} {ρ} {μ} {Q} : iRg2 T ρ μ Q = (T ρ μ fun ds μ1 => match ds with | [.int i, .int j] => (-(2 ^ 62) ≤ i ∧ i < 2 ^ 62 ∧ -(2 ^ 62) ≤ j ∧ j < 2 ^ 62) ∧ Q (rngD i j) μ1 | _ => False) := id rfl
@[simp ↓] theorem iTxt_p {T : TDE} {ρ} {μ} {Q} : iTxt T ρ μ Q = (T ρ μ fun d μ1 => match d with | .str s => Q (s.cps.toList.map fun c => .str (mk [c])) μ1 | _ => False) := id rfl
@[simp ↓] theorem endL_p {c : Bool} {p : Addr} {μ : Mu} {Q : QD} : endL c p μ Q  = (match c with
  | true => Q (.ptr p) μ
  | false => cS (μ p) fun acc => Q (.lst acc) (mdel μ p)) := by
  first | (simp only [oS_eq, lS_eq, tS_eq, dS_eq, sS_eq, pS_eq, cS_eq, cdS_eq]; rfl) | (simp only [oS_eq, lS_eq, tS_eq, dS_eq, sS_eq, pS_eq, cS_eq, cdS_eq, oneC_eq, ← exists_and_left]; rfl)
@[simp ↓] theorem dLc_p {c : Bool} {I : TDI} {g : TDG} {tt : TDT} {te : TDE} {vs : List Nat} {ρ} {μ} {Q} : dLc c I g tt te vs ρ μ Q = (I ρ μ fun xs μ1 => ∀ p, μ1 p = none → compL g tt te p (wipeD ρ vs) (fun μ2 => endL c p μ2 Q) xs (mup μ1 p (.lst []))) := id rfl
@[simp ↓] theorem dYes_p {z0} {μ} {Q} : dYes  z0 μ Q = (Q true μ) := id rfl
@[simp ↓] theorem dCall_p {S : DSp} {T : TDA} {ρ} {μ} {Q} : dCall S T ρ μ Q = (T ρ μ fun ds μ1 => S ds μ1 Q noX) := id rfl
@[simp ↓] theorem dDGet_p {Td Tk : TDE} {ρ} {μ} {Q} : dDGet Td Tk ρ μ Q = (Td ρ μ fun x μ1 => Tk ρ μ1 fun y μ2 => dS (vw μ2 x) fun kvs => oS (keyD y) fun k => oS (valD kvs k) fun d => Q d μ2) := by
  first | (simp only [oS_eq, lS_eq, tS_eq, dS_eq, sS_eq, pS_eq, cS_eq, cdS_eq]; rfl) | (simp only [oS_eq, lS_eq, tS_eq, dS_eq, sS_eq, pS_eq, cS_eq, cdS_eq, oneC_eq, ← exists_and_left]; rfl)
@[simp ↓] theorem dDIn_p {neg : Bool} {Tk Td : TDE} {ρ} {μ} {Q} : dDIn neg Tk Td ρ μ Q = (Tk ρ μ fun y μ1 => Td ρ μ1 fun x μ2 => dS (vw μ2 x) fun kvs => oS (keyD y) fun k => Q (.bl (neg ^^ (valD kvs k).isSome)) μ2) := by
  first | (simp only [oS_eq, lS_eq, tS_eq, dS_eq, sS_eq, pS_eq, cS_eq, cdS_eq]; rfl) | (simp only [oS_eq, lS_eq, tS_eq, dS_eq, sS_eq, pS_eq, cS_eq, cdS_eq, oneC_eq, ← exists_and_left]; rfl)
@[simp ↓] theorem dsDPut_p {Td Tk Tv : TDE} {E} {ρ} {μ} : dsDPut Td Tk Tv E ρ μ = (Tv ρ μ fun v μ1 => Td ρ μ1 fun x μ2 => Tk ρ μ2 fun y μ3 => pS x fun a => cdS (μ3 a) fun kvs => oS (keyD y) fun k => kvs.length < sizeLine ∧ E.nx ρ (mup μ3 a (.dic (putD kvs k v)))) := by
  first | (simp only [oS_eq, lS_eq, tS_eq, dS_eq, sS_eq, pS_eq, cS_eq, cdS_eq]; rfl) | (simp only [oS_eq, lS_eq, tS_eq, dS_eq, sS_eq, pS_eq, cS_eq, cdS_eq, oneC_eq, ← exists_and_left]; rfl)
@[simp ↓] theorem dDNew_p {c : Bool} {z0} {μ} {Q} : dDNew c z0 μ Q = (mkDc c [] μ Q) := id rfl
@[simp ↓] theorem dDisp_p {c : Bool} {Trs : List (TDE × TDE)} {ρ} {μ} {Q} : dDisp c Trs ρ μ Q = (∀ p, μ p = none → dPairs Trs ρ (mup μ p (.dic [])) fun ps μ2 => μ2 p = some (.dic []) ∧ oS (keysD ps) fun kvs => kvs.length ≤ 15 ∧ (match c with
  | true => Q (.ptr p) (mup μ2 p (.dic (mergeD kvs)))
  | false => Q (.dic (mergeD kvs)) (mdel μ2 p))) := by
  first | (simp only [oS_eq, lS_eq, tS_eq, dS_eq, sS_eq, pS_eq, cS_eq, cdS_eq]; rfl) | (simp only [oS_eq, lS_eq, tS_eq, dS_eq, sS_eq, pS_eq, cS_eq, cdS_eq, oneC_eq, ← exists_and_left]; rfl)
@[simp ↓] theorem dLock_p {i : Nat} {T : TDS} {E} {ρ} {μ} : dLock i T E ρ μ = (match ρ[i]? with
  | some (some (.ptr a)) => match μ a with
    | some (.dic kvs) => ∀ od vs, T (lockE E a kvs od vs) ρ (mup μ a (.dicL od vs kvs))
    | _ => False
  | _ => False) := id rfl
@[simp ↓] theorem dForK_p {I : TDIK} {g : TDG} {T : TDS} {E} {ρ} {μ} : dForK I g T E ρ μ = (I ρ μ fun xs Kp μ1 => loopK g T E Kp xs ρ μ1) := id rfl
@[simp ↓] theorem iKey_p {T : TDE} {ρ} {μ} {Q} : iKey T ρ μ Q = (T ρ μ fun d μ1 => match d with
  | .ptr a => match μ1 a with
    | some (.dicL od vs kvs) => Q (kvs.map fun kv => unkey kv.1) (fun μ' => μ' a = some (.dicL od vs kvs)) μ1
    | _ => False
  | _ => False) := id rfl
@[simp ↓] theorem mJoin_p {x} {ds} {μ} {Q} : mJoin  x ds μ Q = (match x, ds with
  | .str a, [d] => lS (vw μ d) fun xs => oS (strsOf xs) fun ss => (ss.map (·.length)).sum + ss.length * a.length ≤ 16777216 ∧ Q (.str (Txt.join a ss)) μ
  | _, _ => False) := by
  first | (simp only [oS_eq, lS_eq, tS_eq, dS_eq, sS_eq, pS_eq, cS_eq, cdS_eq]; rfl) | (simp only [oS_eq, lS_eq, tS_eq, dS_eq, sS_eq, pS_eq, cS_eq, cdS_eq, oneC_eq, ← exists_and_left]; rfl)
@[simp ↓] theorem dIsi_p {T : String} {Tx : TDE} {ρ} {μ} {Q} : dIsi T Tx ρ μ Q = (Tx ρ μ fun d μ1 => oS (isiD T (vw μ1 d)) fun b => Q (.bl b) μ1) := by
  first | (simp only [oS_eq, lS_eq, tS_eq, dS_eq, sS_eq, pS_eq, cS_eq, cdS_eq]; rfl) | (simp only [oS_eq, lS_eq, tS_eq, dS_eq, sS_eq, pS_eq, cS_eq, cdS_eq, oneC_eq, ← exists_and_left]; rfl)
@[simp ↓] theorem dKd_p {tbl : Str → Option Str} {Ti : TDE} {ρ} {μ} {Q} : dKd tbl Ti ρ μ Q = (Ti ρ μ fun d μ1 => sS d fun s => oS (tbl s) fun v => Q (.str v) μ1) := by
  first | (simp only [oS_eq, lS_eq, tS_eq, dS_eq, sS_eq, pS_eq, cS_eq, cdS_eq]; rfl) | (simp only [oS_eq, lS_eq, tS_eq, dS_eq, sS_eq, pS_eq, cS_eq, cdS_eq, oneC_eq, ← exists_and_left]; rfl)
@[simp ↓ high] theorem dVar_0 {d : D} {r : DR} {μ : Mu} {Q : QD} : dVar 0 (some d :: r) μ Q = Q d μ := id rfl
@[simp ↓ high] theorem dgName_0 {z : Option D} {d : D} {r : DR} {μ : Mu} {Q : DR → Mu → Prop} : dgName 0 d (z :: r) μ Q = Q (some d :: r) μ := id rfl
@[simp ↓ high] theorem dVar_1 {x0 : Option D} {d : D} {r : DR} {μ : Mu} {Q : QD} : dVar 1 (x0 :: some d :: r) μ Q = Q d μ := id rfl
@[simp ↓ high] theorem dgName_1 {x0 : Option D} {z : Option D} {d : D} {r : DR} {μ : Mu} {Q : DR → Mu → Prop} : dgName 1 d (x0 :: z :: r) μ Q = Q (x0 :: some d :: r) μ := id rfl
@[simp ↓ high] theorem dVar_2 {x0 x1 : Option D} {d : D} {r : DR} {μ : Mu} {Q : QD} : dVar 2 (x0 :: x1 :: some d :: r) μ Q = Q d μ := id rfl
@[simp ↓ high] theorem dgName_2 {x0 x1 : Option D} {z : Option D} {d : D} {r : DR} {μ : Mu} {Q : DR → Mu → Prop} : dgName 2 d (x0 :: x1 :: z :: r) μ Q = Q (x0 :: x1 :: some d :: r) μ := id rfl
@[simp ↓ high] theorem dVar_3 {x0 x1 x2 : Option D} {d : D} {r : DR} {μ : Mu} {Q : QD} : dVar 3 (x0 :: x1 :: x2 :: some d :: r) μ Q = Q d μ := id rfl
@[simp ↓ high] theorem dgName_3 {x0 x1 x2 : Option D} {z : Option D} {d : D} {r : DR} {μ : Mu} {Q : DR → Mu → Prop} : dgName 3 d (x0 :: x1 :: x2 :: z :: r) μ Q = Q (x0 :: x1 :: x2 :: some d :: r) μ := id rfl
@[simp ↓ high] theorem dVar_4 {x0 x1 x2 x3 : Option D} {d : D} {r : DR} {μ : Mu} {Q : QD} : dVar 4 (x0 :: x1 :: x2 :: x3 :: some d :: r) μ Q = Q d μ := id rfl
@[simp ↓ high] theorem dgName_4 {x0 x1 x2 x3 : Option D} {z : Option D} {d : D} {r : DR} {μ : Mu} {Q : DR → Mu → Prop} : dgName 4 d (x0 :: x1 :: x2 :: x3 :: z :: r) μ Q = Q (x0 :: x1 :: x2 :: x3 :: some d :: r) μ := id rfl
@[simp ↓ high] theorem dVar_5 {x0 x1 x2 x3 x4 : Option D} {d : D} {r : DR} {μ : Mu} {Q : QD} : dVar 5 (x0 :: x1 :: x2 :: x3 :: x4 :: some d :: r) μ Q = Q d μ := id rfl
@[simp ↓ high] theorem dgName_5 {x0 x1 x2 x3 x4 : Option D} {z : Option D} {d : D} {r : DR} {μ : Mu} {Q : DR → Mu → Prop} : dgName 5 d (x0 :: x1 :: x2 :: x3 :: x4 :: z :: r) μ Q = Q (x0 :: x1 :: x2 :: x3 :: x4 :: some d :: r) μ := id rfl
@[simp ↓ high] theorem dVar_6 {x0 x1 x2 x3 x4 x5 : Option D} {d : D} {r : DR} {μ : Mu} {Q : QD} : dVar 6 (x0 :: x1 :: x2 :: x3 :: x4 :: x5 :: some d :: r) μ Q = Q d μ := id rfl
@[simp ↓ high] theorem dgName_6 {x0 x1 x2 x3 x4 x5 : Option D} {z : Option D} {d : D} {r : DR} {μ : Mu} {Q : DR → Mu → Prop} : dgName 6 d (x0 :: x1 :: x2 :: x3 :: x4 :: x5 :: z :: r) μ Q = Q (x0 :: x1 :: x2 :: x3 :: x4 :: x5 :: some d :: r) μ := id rfl
@[simp ↓ high] theorem dVar_7 {x0 x1 x2 x3 x4 x5 x6 : Option D} {d : D} {r : DR} {μ : Mu} {Q : QD} : dVar 7 (x0 :: x1 :: x2 :: x3 :: x4 :: x5 :: x6 :: some d :: r) μ Q = Q d μ := id rfl
@[simp ↓ high] theorem dgName_7 {x0 x1 x2 x3 x4 x5 x6 : Option D} {z : Option D} {d : D} {r : DR} {μ : Mu} {Q : DR → Mu → Prop} : dgName 7 d (x0 :: x1 :: x2 :: x3 :: x4 :: x5 :: x6 :: z :: r) μ Q = Q (x0 :: x1 :: x2 :: x3 :: x4 :: x5 :: x6 :: some d :: r) μ := id rfl
@[simp ↓ high] theorem dVar_8 {x0 x1 x2 x3 x4 x5 x6 x7 : Option D} {d : D} {r : DR} {μ : Mu} {Q : QD} : dVar 8 (x0 :: x1 :: x2 :: x3 :: x4 :: x5 :: x6 :: x7 :: some d :: r) μ Q = Q d μ := id rfl
@[simp ↓ high] theorem dgName_8 {x0 x1 x2 x3 x4 x5 x6 x7 : Option D} {z : Option D} {d : D} {r : DR} {μ : Mu} {Q : DR → Mu → Prop} : dgName 8 d (x0 :: x1 :: x2 :: x3 :: x4 :: x5 :: x6 :: x7 :: z :: r) μ Q = Q (x0 :: x1 :: x2 :: x3 :: x4 :: x5 :: x6 :: x7 :: some d :: r) μ := id rfl
@[simp ↓ high] theorem dVar_9 {x0 x1 x2 x3 x4 x5 x6 x7 x8 : Option D} {d : D} {r : DR} {μ : Mu} {Q : QD} : dVar 9 (x0 :: x1 :: x2 :: x3 :: x4 :: x5 :: x6 :: x7 :: x8 :: some d :: r) μ Q = Q d μ := id rfl
@[simp ↓ high] theorem dgName_9 {x0 x1 x2 x3 x4 x5 x6 x7 x8 : Option D} {z : Option D} {d : D} {r : DR} {μ : Mu} {Q : DR → Mu → Prop} : dgName 9 d (x0 :: x1 :: x2 :: x3 :: x4 :: x5 :: x6 :: x7 :: x8 :: z :: r) μ Q = Q (x0 :: x1 :: x2 :: x3 :: x4 :: x5 :: x6 :: x7 :: x8 :: some d :: r) μ := id rfl
@[simp ↓ high] theorem dVar_10 {x0 x1 x2 x3 x4 x5 x6 x7 x8 x9 : Option D} {d : D} {r : DR} {μ : Mu} {Q : QD} : dVar 10 (x0 :: x1 :: x2 :: x3 :: x4 :: x5 :: x6 :: x7 :: x8 :: x9 :: some d :: r) μ Q = Q d μ := id rfl
@[simp ↓ high] theorem dgName_10 {x0 x1 x2 x3 x4 x5 x6 x7 x8 x9 : Option D} {z : Option D} {d : D} {r : DR} {μ : Mu} {Q : DR → Mu → Prop} : dgName 10 d (x0 :: x1 :: x2 :: x3 :: x4 :: x5 :: x6 :: x7 :: x8 :: x9 :: z :: r) μ Q = Q (x0 :: x1 :: x2 :: x3 :: x4 :: x5 :: x6 :: x7 :: x8 :: x9 :: some d :: r) μ := id rfl
@[simp ↓ high] theorem dVar_11 {x0 x1 x2 x3 x4 x5 x6 x7 x8 x9 x10 : Option D} {d : D} {r : DR} {μ : Mu} {Q : QD} : dVar 11 (x0 :: x1 :: x2 :: x3 :: x4 :: x5 :: x6 :: x7 :: x8 :: x9 :: x10 :: some d :: r) μ Q = Q d μ := id rfl
@[simp ↓ high] theorem dgName_11 {x0 x1 x2 x3 x4 x5 x6 x7 x8 x9 x10 : Option D} {z : Option D} {d : D} {r : DR} {μ : Mu} {Q : DR → Mu → Prop} : dgName 11 d (x0 :: x1 :: x2 :: x3 :: x4 :: x5 :: x6 :: x7 :: x8 :: x9 :: x10 :: z :: r) μ Q = Q (x0 :: x1 :: x2 :: x3 :: x4 :: x5 :: x6 :: x7 :: x8 :: x9 :: x10 :: some d :: r) μ := id rfl
@[simp ↓ high] theorem dVar_12 {x0 x1 x2 x3 x4 x5 x6 x7 x8 x9 x10 x11 : Option D} {d : D} {r : DR} {μ : Mu} {Q : QD} : dVar 12 (x0 :: x1 :: x2 :: x3 :: x4 :: x5 :: x6 :: x7 :: x8 :: x9 :: x10 :: x11 :: some d :: r) μ Q = Q d μ := id rfl
@[simp ↓ high] theorem dgName_12 {x0 x1 x2 x3 x4 x5 x6 x7 x8 x9 x10 x11 : Option D} {z : Option D} {d : D} {r : DR} {μ : Mu} {Q : DR → Mu → Prop} : dgName 12 d (x0 :: x1 :: x2 :: x3 :: x4 :: x5 :: x6 :: x7 :: x8 :: x9 :: x10 :: x11 :: z :: r) μ Q = Q (x0 :: x1 :: x2 :: x3 :: x4 :: x5 :: x6 :: x7 :: x8 :: x9 :: x10 :: x11 :: some d :: r) μ := id rfl
@[simp ↓ high] theorem dVar_13 {x0 x1 x2 x3 x4 x5 x6 x7 x8 x9 x10 x11 x12 : Option D} {d : D} {r : DR} {μ : Mu} {Q : QD} : dVar 13 (x0 :: x1 :: x2 :: x3 :: x4 :: x5 :: x6 :: x7 :: x8 :: x9 :: x10 :: x11 :: x12 :: some d :: r) μ Q = Q d μ := id rfl
@[simp ↓ high] theorem dgName_13 {x0 x1 x2 x3 x4 x5 x6 x7 x8 x9 x10 x11 x12 : Option D} {z : Option D} {d : D} {r : DR} {μ : Mu} {Q : DR → Mu → Prop} : dgName 13 d (x0 :: x1 :: x2 :: x3 :: x4 :: x5 :: x6 :: x7 :: x8 :: x9 :: x10 :: x11 :: x12 :: z :: r) μ Q = Q (x0 :: x1 :: x2 :: x3 :: x4 :: x5 :: x6 :: x7 :: x8 :: x9 :: x10 :: x11 :: x12 :: some d :: r) μ := id rfl
@[simp ↓ high] theorem dVar_14 {x0 x1 x2 x3 x4 x5 x6 x7 x8 x9 x10 x11 x12 x13 : Option D} {d : D} {r : DR} {μ : Mu} {Q : QD} : dVar 14 (x0 :: x1 :: x2 :: x3 :: x4 :: x5 :: x6 :: x7 :: x8 :: x9 :: x10 :: x11 :: x12 :: x13 :: some d :: r) μ Q = Q d μ := id rfl
@[simp ↓ high] theorem dgName_14 {x0 x1 x2 x3 x4 x5 x6 x7 x8 x9 x10 x11 x12 x13 : Option D} {z : Option D} {d : D} {r : DR} {μ : Mu} {Q : DR → Mu → Prop} : dgName 14 d (x0 :: x1 :: x2 :: x3 :: x4 :: x5 :: x6 :: x7 :: x8 :: x9 :: x10 :: x11 :: x12 :: x13 :: z :: r) μ Q = Q (x0 :: x1 :: x2 :: x3 :: x4 :: x5 :: x6 :: x7 :: x8 :: x9 :: x10 :: x11 :: x12 :: x13 :: some d :: r) μ := id rfl
@[simp ↓ high] theorem dVar_15 {x0 x1 x2 x3 x4 x5 x6 x7 x8 x9 x10 x11 x12 x13 x14 : Option D} {d : D} {r : DR} {μ : Mu} {Q : QD} : dVar 15 (x0 :: x1 :: x2 :: x3 :: x4 :: x5 :: x6 :: x7 :: x8 :: x9 :: x10 :: x11 :: x12 :: x13 :: x14 :: some d :: r) μ Q = Q d μ := id rfl
@[simp ↓ high] theorem dgName_15 {x0 x1 x2 x3 x4 x5 x6 x7 x8 x9 x10 x11 x12 x13 x14 : Option D} {z : Option D} {d : D} {r : DR} {μ : Mu} {Q : DR → Mu → Prop} : dgName 15 d (x0 :: x1 :: x2 :: x3 :: x4 :: x5 :: x6 :: x7 :: x8 :: x9 :: x10 :: x11 :: x12 :: x13 :: x14 :: z :: r) μ Q = Q (x0 :: x1 :: x2 :: x3 :: x4 :: x5 :: x6 :: x7 :: x8 :: x9 :: x10 :: x11 :: x12 :: x13 :: x14 :: some d :: r) μ := id rfl
@[simp ↓ high] theorem dVar_16 {x0 x1 x2 x3 x4 x5 x6 x7 x8 x9 x10 x11 x12 x13 x14 x15 : Option D} {d : D} {r : DR} {μ : Mu} {Q : QD} : dVar 16 (x0 :: x1 :: x2 :: x3 :: x4 :: x5 :: x6 :: x7 :: x8 :: x9 :: x10 :: x11 :: x12 :: x13 :: x14 :: x15 :: some d :: r) μ Q = Q d μ := id rfl
@[simp ↓ high] theorem dgName_16 {x0 x1 x2 x3 x4 x5 x6 x7 x8 x9 x10 x11 x12 x13 x14 x15 : Option D} {z : Option D} {d : D} {r : DR} {μ : Mu} {Q : DR → Mu → Prop} : dgName 16 d (x0 :: x1 :: x2 :: x3 :: x4 :: x5 :: x6 :: x7 :: x8 :: x9 :: x10 :: x11 :: x12 :: x13 :: x14 :: x15 :: z :: r) μ Q = Q (x0 :: x1 :: x2 :: x3 :: x4 :: x5 :: x6 :: x7 :: x8 :: x9 :: x10 :: x11 :: x12 :: x13 :: x14 :: x15 :: some d :: r) μ := id rfl
@[simp ↓ high] theorem dVar_17 {x0 x1 x2 x3 x4 x5 x6 x7 x8 x9 x10 x11 x12 x13 x14 x15 x16 : Option D} {d : D} {r : DR} {μ : Mu} {Q : QD} : dVar 17 (x0 :: x1 :: x2 :: x3 :: x4 :: x5 :: x6 :: x7 :: x8 :: x9 :: x10 :: x11 :: x12 :: x13 :: x14 :: x15 :: x16 :: some d :: r) μ Q = Q d μ := id rfl
@[simp ↓ high] theorem dgName_17 {x0 x1 x2 x3 x4 x5 x6 x7 x8 x9 x10 x11 x12 x13 x14 x15 x16 : Option D} {z : Option D} {d : D} {r : DR} {μ : Mu} {Q : DR → Mu → Prop} : dgName 17 d (x0 :: x1 :: x2 :: x3 :: x4 :: x5 :: x6 :: x7 :: x8 :: x9 :: x10 :: x11 :: x12 :: x13 :: x14 :: x15 :: x16 :: z :: r) μ Q = Q (x0 :: x1 :: x2 :: x3 :: x4 :: x5 :: x6 :: x7 :: x8 :: x9 :: x10 :: x11 :: x12 :: x13 :: x14 :: x15 :: x16 :: some d :: r) μ := id rfl
@[simp ↓ high] theorem dVar_18 {x0 x1 x2 x3 x4 x5 x6 x7 x8 x9 x10 x11 x12 x13 x14 x15 x16 x17 : Option D} {d : D} {r : DR} {μ : Mu} {Q : QD} : dVar 18 (x0 :: x1 :: x2 :: x3 :: x4 :: x5 :: x6 :: x7 :: x8 :: x9 :: x10 :: x11 :: x12 :: x13 :: x14 :: x15 :: x16 :: x17 :: some d :: r) μ Q = Q d μ := id rfl
@[simp ↓ high] theorem dgName_18 {x0 x1 x2 x3 x4 x5 x6 x7 x8 x9 x10 x11 x12 x13 x14 x15 x16 x17 : Option D} {z : Option D} {d : D} {r : DR} {μ : Mu} {Q : DR → Mu → Prop} : dgName 18 d (x0 :: x1 :: x2 :: x3 :: x4 :: x5 :: x6 :: x7 :: x8 :: x9 :: x10 :: x11 :: x12 :: x13 :: x14 :: x15 :: x16 :: x17 :: z :: r) μ Q = Q (x0 :: x1 :: x2 :: x3 :: x4 :: x5 :: x6 :: x7 :: x8 :: x9 :: x10 :: x11 :: x12 :: x13 :: x14 :: x15 :: x16 :: x17 :: some d :: r) μ := id rfl
@[simp ↓ high] theorem dVar_19 {x0 x1 x2 x3 x4 x5 x6 x7 x8 x9 x10 x11 x12 x13 x14 x15 x16 x17 x18 : Option D} {d : D} {r : DR} {μ : Mu} {Q : QD} : dVar 19 (x0 :: x1 :: x2 :: x3 :: x4 :: x5 :: x6 :: x7 :: x8 :: x9 :: x10 :: x11 :: x12 :: x13 :: x14 :: x15 :: x16 :: x17 :: x18 :: some d :: r) μ Q = Q d μ := id rfl
@[simp ↓ high] theorem dgName_19 {x0 x1 x2 x3 x4 x5 x6 x7 x8 x9 x10 x11 x12 x13 x14 x15 x16 x17 x18 : Option D} {z : Option D} {d : D} {r : DR} {μ : Mu} {Q : DR → Mu → Prop} : dgName 19 d (x0 :: x1 :: x2 :: x3 :: x4 :: x5 :: x6 :: x7 :: x8 :: x9 :: x10 :: x11 :: x12 :: x13 :: x14 :: x15 :: x16 :: x17 :: x18 :: z :: r) μ Q = Q (x0 :: x1 :: x2 :: x3 :: x4 :: x5 :: x6 :: x7 :: x8 :: x9 :: x10 :: x11 :: x12 :: x13 :: x14 :: x15 :: x16 :: x17 :: x18 :: some d :: r) μ := id rfl
@[simp ↓ high] theorem dVar_20 {x0 x1 x2 x3 x4 x5 x6 x7 x8 x9 x10 x11 x12 x13 x14 x15 x16 x17 x18 x19 : Option D} {d : D} {r : DR} {μ : Mu} {Q : QD} : dVar 20 (x0 :: x1 :: x2 :: x3 :: x4 :: x5 :: x6 :: x7 :: x8 :: x9 :: x10 :: x11 :: x12 :: x13 :: x14 :: x15 :: x16 :: x17 :: x18 :: x19 :: some d :: r) μ Q = Q d μ := id rfl
@[simp ↓ high] theorem dgName_20 {x0 x1 x2 x3 x4 x5 x6 x7 x8 x9 x10 x11 x12 x13 x14 x15 x16 x17 x18 x19 : Option D} {z : Option D} {d : D} {r : DR} {μ : Mu} {Q : DR → Mu → Prop} : dgName 20 d (x0 :: x1 :: x2 :: x3 :: x4 :: x5 :: x6 :: x7 :: x8 :: x9 :: x10 :: x11 :: x12 :: x13 :: x14 :: x15 :: x16 :: x17 :: x18 :: x19 :: z :: r) μ Q = Q (x0 :: x1 :: x2 :: x3 :: x4 :: x5 :: x6 :: x7 :: x8 :: x9 :: x10 :: x11 :: x12 :: x13 :: x14 :: x15 :: x16 :: x17 :: x18 :: x19 :: some d :: r) μ := id rfl
@[simp ↓ high] theorem dVar_21 {x0 x1 x2 x3 x4 x5 x6 x7 x8 x9 x10 x11 x12 x13 x14 x15 x16 x17 x18 x19 x20 : Option D} {d : D} {r : DR} {μ : Mu} {Q : QD} : dVar 21 (x0 :: x1 :: x2 :: x3 :: x4 :: x5 :: x6 :: x7 :: x8 :: x9 :: x10 :: x11 :: x12 :: x13 :: x14 :: x15 :: x16 :: x17 :: x18 :: x19 :: x20 :: some d :: r) μ Q = Q d μ := id rfl
@[simp ↓ high] theorem dgName_21 {x0 x1 x2 x3 x4 x5 x6 x7 x8 x9 x10 x11 x12 x13 x14 x15 x16 x17 x18 x19 x20 : Option D} {z : Option D} {d : D} {r : DR} {μ : Mu} {Q : DR → Mu → Prop} : dgName 21 d (x0 :: x1 :: x2 :: x3 :: x4 :: x5 :: x6 :: x7 :: x8 :: x9 :: x10 :: x11 :: x12 :: x13 :: x14 :: x15 :: x16 :: x17 :: x18 :: x19 :: x20 :: z :: r) μ Q = Q (x0 :: x1 :: x2 :: x3 :: x4 :: x5 :: x6 :: x7 :: x8 :: x9 :: x10 :: x11 :: x12 :: x13 :: x14 :: x15 :: x16 :: x17 :: x18 :: x19 :: x20 :: some d :: r) μ := id rfl
@[simp ↓ high] theorem dVar_22 {x0 x1 x2 x3 x4 x5 x6 x7 x8 x9 x10 x11 x12 x13 x14 x15 x16 x17 x18 x19 x20 x21 : Option D} {d : D} {r : DR} {μ : Mu} {Q : QD} : dVar 22 (x0 :: x1 :: x2 :: x3 :: x4 :: x5 :: x6 :: x7 :: x8 :: x9 :: x10 :: x11 :: x12 :: x13 :: x14 :: x15 :: x16 :: x17 :: x18 :: x19 :: x20 :: x21 :: some d :: r) μ Q = Q d μ := id rfl
@[simp ↓ high] theorem dgName_22 {x0 x1 x2 x3 x4 x5 x6 x7 x8 x9 x10 x11 x12 x13 x14 x15 x16 x17 x18 x19 x20 x21 : Option D} {z : Option D} {d : D} {r : DR} {μ : Mu} {Q : DR → Mu → Prop} : dgName 22 d (x0 :: x1 :: x2 :: x3 :: x4 :: x5 :: x6 :: x7 :: x8 :: x9 :: x10 :: x11 :: x12 :: x13 :: x14 :: x15 :: x16 :: x17 :: x18 :: x19 :: x20 :: x21 :: z :: r) μ Q = Q (x0 :: x1 :: x2 :: x3 :: x4 :: x5 :: x6 :: x7 :: x8 :: x9 :: x10 :: x11 :: x12 :: x13 :: x14 :: x15 :: x16 :: x17 :: x18 :: x19 :: x20 :: x21 :: some d :: r) μ := id rfl
@[simp ↓ high] theorem dVar_23 {x0 x1 x2 x3 x4 x5 x6 x7 x8 x9 x10 x11 x12 x13 x14 x15 x16 x17 x18 x19 x20 x21 x22 : Option D} {d : D} {r : DR} {μ : Mu} {Q : QD} : dVar 23 (x0 :: x1 :: x2 :: x3 :: x4 :: x5 :: x6 :: x7 :: x8 :: x9 :: x10 :: x11 :: x12 :: x13 :: x14 :: x15 :: x16 :: x17 :: x18 :: x19 :: x20 :: x21 :: x22 :: some d :: r) μ Q = Q d μ := id rfl
@[simp ↓ high] theorem dgName_23 {x0 x1 x2 x3 x4 x5 x6 x7 x8 x9 x10 x11 x12 x13 x14 x15 x16 x17 x18 x19 x20 x21 x22 : Option D} {z : Option D} {d : D} {r : DR} {μ : Mu} {Q : DR → Mu → Prop} : dgName 23 d (x0 :: x1 :: x2 :: x3 :: x4 :: x5 :: x6 :: x7 :: x8 :: x9 :: x10 :: x11 :: x12 :: x13 :: x14 :: x15 :: x16 :: x17 :: x18 :: x19 :: x20 :: x21 :: x22 :: z :: r) μ Q = Q (x0 :: x1 :: x2 :: x3 :: x4 :: x5 :: x6 :: x7 :: x8 :: x9 :: x10 :: x11 :: x12 :: x13 :: x14 :: x15 :: x16 :: x17 :: x18 :: x19 :: x20 :: x21 :: x22 :: some d :: r) μ := id rfl
@[simp ↓ high] theorem dVar_24 {x0 x1 x2 x3 x4 x5 x6 x7 x8 x9 x10 x11 x12 x13 x14 x15 x16 x17 x18 x19 x20 x21 x22 x23 : Option D} {d : D} {r : DR} {μ : Mu} {Q : QD} : dVar 24 (x0 :: x1 :: x2 :: x3 :: x4 :: x5 :: x6 :: x7 :: x8 :: x9 :: x10 :: x11 :: x12 :: x13 :: x14 :: x15 :: x16 :: x17 :: x18 :: x19 :: x20 :: x21 :: x22 :: x23 :: some d :: r) μ Q = Q d μ := id rfl
@[simp ↓ high] theorem dgName_24 {x0 x1 x2 x3 x4 x5 x6 x7 x8 x9 x10 x11 x12 x13 x14 x15 x16 x17 x18 x19 x20 x21 x22 x23 : Option D} {z : Option D} {d : D} {r : DR} {μ : Mu} {Q : DR → Mu → Prop} : dgName 24 d (x0 :: x1 :: x2 :: x3 :: x4 :: x5 :: x6 :: x7 :: x8 :: x9 :: x10 :: x11 :: x12 :: x13 :: x14 :: x15 :: x16 :: x17 :: x18 :: x19 :: x20 :: x21 :: x22 :: x23 :: z :: r) μ Q = Q (x0 :: x1 :: x2 :: x3 :: x4 :: x5 :: x6 :: x7 :: x8 :: x9 :: x10 :: x11 :: x12 :: x13 :: x14 :: x15 :: x16 :: x17 :: x18 :: x19 :: x20 :: x21 :: x22 :: x23 :: some d :: r) μ := id rfl
@[simp ↓ high] theorem dVar_25 {x0 x1 x2 x3 x4 x5 x6 x7 x8 x9 x10 x11 x12 x13 x14 x15 x16 x17 x18 x19 x20 x21 x22 x23 x24 : Option D} {d : D} {r : DR} {μ : Mu} {Q : QD} : dVar 25 (x0 :: x1 :: x2 :: x3 :: x4 :: x5 :: x6 :: x7 :: x8 :: x9 :: x10 :: x11 :: x12 :: x13 :: x14 :: x15 :: x16 :: x17 :: x18 :: x19 :: x20 :: x21 :: x22 :: x23 :: x24 :: some d :: r) μ Q = Q d μ := id rfl
@[simp ↓ high] theorem dgName_25 {x0 x1 x2 x3 x4 x5 x6 x7 x8 x9 x10 x11 x12 x13 x14 x15 x16 x17 x18 x19 x20 x21 x22 x23 x24 : Option D} {z : Option D} {d : D} {r : DR} {μ : Mu} {Q : DR → Mu → Prop} : dgName 25 d (x0 :: x1 :: x2 :: x3 :: x4 :: x5 :: x6 :: x7 :: x8 :: x9 :: x10 :: x11 :: x12 :: x13 :: x14 :: x15 :: x16 :: x17 :: x18 :: x19 :: x20 :: x21 :: x22 :: x23 :: x24 :: z :: r) μ Q = Q (x0 :: x1 :: x2 :: x3 :: x4 :: x5 :: x6 :: x7 :: x8 :: x9 :: x10 :: x11 :: x12 :: x13 :: x14 :: x15 :: x16 :: x17 :: x18 :: x19 :: x20 :: x21 :: x22 :: x23 :: x24 :: some d :: r) μ := id rfl
section
variable {μ : Mu} {Q : QD} {n : Bool} {i j : Int} {s t : Str} {b c : Bool} {xs ys : List D} {x y : D}
@[simp ↓ high] theorem eqW_ii : eqW n (.int i) (.int j) μ Q = Q (.bl (n ^^ decide (i = j))) μ := id rfl
@[simp ↓ high] theorem eqW_ss : eqW n (.str s) (.str t) μ Q = Q (.bl (n ^^ decide (s = t))) μ := id rfl
@[simp ↓ high] theorem eqW_bb : eqW n (.bl b) (.bl c) μ Q = Q (.bl (n ^^ decide (b = c))) μ := id rfl
@[simp ↓ high] theorem opAdd_ii : opAdd (.int i) (.int j) μ Q = Q (.int (i + j)) μ := id rfl
@[simp ↓ high] theorem opAdd_ss : opAdd (.str s) (.str t) μ Q = (s.length + t.length ≤ sizeLine ∧ Q (.str (s ++ t)) μ) := id rfl
@[simp ↓ high] theorem opAdd_ll : opAdd (.lst xs) (.lst ys) μ Q = (xs.length + ys.length ≤ sizeLine ∧ Q (.lst (xs ++ ys)) μ) := id rfl
@[simp ↓ high] theorem opZ_ii {C : Int → Int → Prop} {g : Int → Int → D} : opZ C g (.int i) (.int j) μ Q = (C i j ∧ Q (g i j) μ) := id rfl
@[simp ↓ high] theorem opZ0_ii {g : Int → Int → D} : opZ0 g (.int i) (.int j) μ Q = Q (g i j) μ := id rfl
@[simp ↓ high] theorem opIs_n : opIs n x .non μ Q = Q (.bl (n ^^ isNonD x)) μ := id rfl
@[simp ↓ high] theorem opIx_l : opIx (.lst xs) (.int i) μ Q = oS (atI xs i) fun d => Q d μ := by rw [opIx_p]; rfl
@[simp ↓ high] theorem opIx_t : opIx (.tup xs) (.int i) μ Q = oS (atI xs i) fun d => Q d μ := by rw [opIx_p]; rfl
@[simp ↓ high] theorem opIx_s : opIx (.str s) (.int i) μ Q = (s.length ≤ sizeLine ∧ oS (atI s.cps.toList i) fun c => Q (.str (mk [c])) μ) := by rw [opIx_p]; rfl
@[simp ↓ high] theorem cLen_l : cLen [.lst xs] μ Q = Q (.int xs.length) μ := id rfl
@[simp ↓ high] theorem mkL_fp : mkL false xs μ Q = Q (.lst xs) μ := id rfl
@[simp ↓ high] theorem mkL_tp : mkL true xs μ Q = (∀ a, μ a = none → Q (.ptr a) (mup μ a (.lst xs))) := id rfl
@[simp ↓ high] theorem mkDc_fp {kvs : List (Key × D)} : mkDc false kvs μ Q = Q (.dic kvs) μ := id rfl
@[simp ↓ high] theorem mkDc_tp {kvs : List (Key × D)} : mkDc true kvs μ Q = (∀ a, μ a = none → Q (.ptr a) (mup μ a (.dic kvs))) := id rfl
@[simp ↓ high] theorem oS_some {α : Type} {d : α} {P : α → Prop} : oS (some d) P = P d := id rfl
theorem sh_b2 (a b : Bool) : SeqAt.shaped (.list [.bool a, .bool b]) = true := by cases a <;> cases b <;> decide
@[simp ↓ high] theorem eqW_b2 {b' c' : Bool} : eqW n (.lst [.bl b, .bl c]) (.lst [.bl b', .bl c']) μ Q = Q (.bl (n ^^ decide (b = b' ∧ c = c'))) μ := by
  cases b <;> cases c <;> cases b' <;> cases c' <;> (rw [eqW_p]; simp [oS, pyL, py, sh_b2, PyData.eqvAll, PyData.eqv])
end
end DL

/-! DLD: loops over ranges and items with the short ends; pure data and their equality. -/
namespace DL
open PySem PySem.Spec PyProof.Rows L2
theorem rngD_cons {lo hi : Int} (h : lo < hi) : rngD lo hi = .int lo :: rngD (lo + 1) hi := by
  unfold rngD
  have e : (hi - lo).toNat = (hi - (lo + 1)).toNat + 1 := by omega
  rw [e, List.range_succ_eq_map, List.map_cons, List.map_map]
  congr 1
  · simp
  · apply List.map_congr_left
    intro k _
    simp only [Function.comp]
    congr 1
    omega
theorem rngD_end {lo hi : Int} (h : hi ≤ lo) : rngD lo hi = [] := by
  unfold rngD; rw [show (hi - lo).toNat = 0 by omega]; rfl
/-- a loop over a range, by what holds at each number -/
theorem loop_rng {g : TDG} {T : TDS} {E : DEnds} {lo hi : Int} (I : Int → DR → Mu → Prop) {ρ : DR} {μ : Mu} (hl : lo ≤ hi) (h : I lo ρ μ) (hn : ∀ ρ μ, I hi ρ μ → E.nx ρ μ)
    (hc : ∀ j ρ μ (N : DR → Mu → Prop), lo ≤ j → j < hi → I j ρ μ → (∀ ρ' μ', I (j + 1) ρ' μ' → N ρ' μ') → g (.int j) ρ μ fun ρ2 μ2 => T (lpE E N) ρ2 μ2) : loopL g T E (rngD lo hi) ρ μ := by
  generalize hm : (hi - lo).toNat = m
  induction m generalizing lo ρ μ with
  | zero =>
    have : lo = hi := by omega
    subst this
    rw [rngD_end (Int.le_refl _)]
    exact hn ρ μ h
  | succ m ih =>
    rw [rngD_cons (by omega), loopL_cons_p]
    exact hc lo ρ μ _ (Int.le_refl _) (by omega) h fun ρ' μ' h' => ih (by omega) h' (fun j ρ μ N h1 h2 => hc j ρ μ N (by omega) h2) (by omega)
theorem loop_it {g : TDG} {T : TDS} {E : DEnds} (I : List D → DR → Mu → Prop) {xs : List D} {ρ : DR} {μ : Mu} (h : I xs ρ μ) (hn : ∀ ρ μ, I [] ρ μ → E.nx ρ μ)
    (hc : ∀ x r ρ μ (N : DR → Mu → Prop), I (x :: r) ρ μ → (∀ ρ' μ', I r ρ' μ' → N ρ' μ') → g x ρ μ fun ρ2 μ2 => T (lpE E N) ρ2 μ2) : loopL g T E xs ρ μ := loop_ind I h hn hc
/-- plain data -/
def atomD : D → Prop
  | .non => True | .bl _ => True | .int _ => True | .str _ => True | _ => False
def Pd : Nat → D → Prop
  | 0, d => atomD d
  | n + 1, d => atomD d ∨ ∃ xs, (d = .lst xs ∨ d = .tup xs) ∧ xs.length ≤ 16000000 ∧ ∀ x ∈ xs, Pd n x
theorem vw_atom {μ : Mu} {d : D} (h : atomD d) : vw μ d = d := by cases d <;> first | rfl | exact h.elim
theorem Pd.vw {μ : Mu} {d : D} {n : Nat} (h : Pd n d) : vw μ d = d := by
  cases n with
  | zero => exact vw_atom h
  | succ n =>
    rcases h with h | ⟨xs, rfl | rfl, _⟩
    · exact vw_atom h
    · rfl
    · rfl
theorem Pd.up {d : D} {n : Nat} (h : Pd n d) : Pd (n + 1) d := by
  induction n generalizing d with
  | zero => exact .inl h
  | succ n ih =>
    rcases h with h | ⟨xs, e, l, h⟩
    · exact .inl h
    · exact .inr ⟨xs, e, l, fun x hx => ih (h x hx)⟩
noncomputable def eqD (x y : D) : Bool := @decide (x = y) (Classical.propDecidable _)
theorem eqD_iff {x y : D} : eqD x y = true ↔ x = y := by unfold eqD; exact @decide_eq_true_iff _ (Classical.propDecidable _)
theorem eqD_no {x y : D} : eqD x y = false ↔ x ≠ y := by rw [← Bool.not_eq_true, eqD_iff]
@[simp] theorem eqD_self {x : D} : eqD x x = true := eqD_iff.mpr rfl
theorem isNonD_vw {μ : Mu} {d : D} : isNonD d = isNonD (vw μ d) := by
  cases d <;> first | rfl | skip
  rename_i a
  cases h : μ a with
  | none => simp [vw, h]
  | some c => cases c <;> simp [vw, h]
theorem Pd_cases {n : Nat} {d : D} (h : Pd n d) : d = .non ∨ (∃ b, d = .bl b) ∨ (∃ b, d = .int b) ∨ (∃ b, d = .str b) ∨ (∃ b, d = .lst b) ∨ (∃ b, d = .tup b) := by
  have a : ∀ {d}, atomD d → d = .non ∨ (∃ b, d = .bl b) ∨ (∃ b, d = .int b) ∨ (∃ b, d = .str b) ∨ (∃ b, d = .lst b) ∨ (∃ b, d = .tup b) := by
    intro d h; cases d <;> first | exact h.elim | simp
  cases n with
  | zero => exact a h
  | succ n =>
    rcases h with h | ⟨xs, rfl | rfl, _⟩
    · exact a h
    · simp
    · simp
theorem nd_n : isNonD .non = true := rfl
theorem nd_b {b : Bool} : isNonD (.bl b) = false := rfl
theorem nd_i {b : Int} : isNonD (.int b) = false := rfl
theorem nd_s {b : Str} : isNonD (.str b) = false := rfl
theorem nd_l {b : List D} : isNonD (.lst b) = false := rfl
theorem nd_t {b : List D} : isNonD (.tup b) = false := rfl
theorem eqD_of {x y : D} {p : Prop} [Decidable p] (h : x = y ↔ p) : eqD x y = decide p := by
  by_cases q : p
  · rw [decide_eq_true q, eqD_iff.mpr (h.mpr q)]
  · rw [decide_eq_false q, eqD_no.mpr (fun e => q (h.mp e))]
theorem eqD_b {b c : Bool} : eqD (.bl b) (.bl c) = decide (b = c) := eqD_of (by simp)
theorem eqD_i {b c : Int} : eqD (.int b) (.int c) = decide (b = c) := eqD_of (by simp)
theorem eqD_s {b c : Str} : eqD (.str b) (.str c) = decide (b = c) := eqD_of (by simp)
theorem eqD_t {b c : List D} : eqD (.tup b) (.tup c) = eqD (.lst b) (.lst c) := by
  by_cases h : b = c
  · subst h; simp
  · rw [eqD_no.mpr (by simpa using h), eqD_no.mpr (by simpa using h)]
/-- one statement at a time: what follows is a letter -/
theorem seq_hide {T U : TDS} {E : DEnds} {ρ : DR} {μ : Mu} (h : ∀ N, N = U E → T (sqE E N) ρ μ) : dSeq T U E ρ μ := h _ rfl
/-- .. or only what is known behind it -/
theorem seq_cut {T U : TDS} {E : DEnds} {ρ : DR} {μ : Mu} (P : DR → Mu → Prop) (h1 : ∀ N, (∀ ρ μ, P ρ μ → N ρ μ) → T (sqE E N) ρ μ) (h2 : ∀ ρ μ, P ρ μ → U E ρ μ) : dSeq T U E ρ μ := h1 _ h2
theorem mup_none {μ : Mu} {p a : Addr} {c : Cell} : mup μ p c a = none ↔ a ≠ p ∧ μ a = none := by
  unfold mup; split
  · next h => subst h; simp
  · next h => simp [h]
theorem mup_comm {μ : Mu} {p a : Addr} {c d : Cell} (h : a ≠ p) : mup (mup μ p c) a d = mup (mup μ a d) p c := by
  funext b; unfold mup; split
  · next e => subst e; simp [h]
  · rfl
@[simp] theorem atI_m1c {α : Type} {x y : α} {r : List α} : atI (x :: y :: r) (-1) = atI (y :: r) (-1) := by
  have e1 : ixN (x :: y :: r).length (-1) = some ((y :: r).length) := by
    rw [ixN_m1 (by simp)]; simp
  have e2 : ixN (y :: r).length (-1) = some ((y :: r).length - 1) := ixN_m1 (by simp)
  unfold atI
  rw [e1, e2]
  simp
/-- the loop is a letter while its items are found -/
theorem for_hide {I : TDI} {g : TDG} {T : TDS} {E : DEnds} {ρ : DR} {μ : Mu} (h : ∀ L, L = loopL g T E → I ρ μ fun xs μ1 => L xs ρ μ1) : dFor I g T E ρ μ := h _ rfl
theorem for_rng {hi : Int} {g : TDG} {T : TDS} {E : DEnds} (I : Int → DR → Mu → Prop) {ρ : DR} {μ : Mu} (hl : 0 ≤ hi) (hm : hi < 2 ^ 62) (h : I 0 ρ μ) (hn : ∀ ρ μ, I hi ρ μ → E.nx ρ μ)
    (hc : ∀ j ρ μ (N : DR → Mu → Prop), 0 ≤ j → j < hi → I j ρ μ → (∀ ρ' μ', I (j + 1) ρ' μ' → N ρ' μ') → g (.int j) ρ μ fun ρ2 μ2 => T (lpE E N) ρ2 μ2) : dFor (iRg1 (dCons (dC (.int hi)) dNil)) g T E ρ μ :=
  show ((-(2 ^ 62) ≤ hi ∧ hi < 2 ^ 62) ∧ loopL g T E (rngD 0 hi) ρ μ) from ⟨⟨by omega, hm⟩, loop_rng I hl h hn hc⟩
@[simp] theorem ixN_1_0 : ixN 1 0 = some 0 := rfl
@[simp] theorem ixN_1_m1 : ixN 1 (-1) = some 0 := rfl
@[simp] theorem ixN_2_0 : ixN 2 0 = some 0 := rfl
@[simp] theorem ixN_2_1 : ixN 2 1 = some 1 := rfl
@[simp] theorem ixN_2_m1 : ixN 2 (-1) = some 1 := rfl
@[simp] theorem ixN_3_0 : ixN 3 0 = some 0 := rfl
@[simp] theorem ixN_3_1 : ixN 3 1 = some 1 := rfl
@[simp] theorem ixN_3_2 : ixN 3 2 = some 2 := rfl
@[simp] theorem ixN_3_m1 : ixN 3 (-1) = some 2 := rfl
@[simp] theorem ixN_4_0 : ixN 4 0 = some 0 := rfl
@[simp] theorem ixN_4_1 : ixN 4 1 = some 1 := rfl
@[simp] theorem ixN_4_2 : ixN 4 2 = some 2 := rfl
@[simp] theorem ixN_4_3 : ixN 4 3 = some 3 := rfl
@[simp] theorem ixN_4_m1 : ixN 4 (-1) = some 3 := rfl
@[simp] theorem ixN_5_0 : ixN 5 0 = some 0 := rfl
@[simp] theorem ixN_5_1 : ixN 5 1 = some 1 := rfl
@[simp] theorem ixN_5_2 : ixN 5 2 = some 2 := rfl
@[simp] theorem ixN_5_3 : ixN 5 3 = some 3 := rfl
@[simp] theorem ixN_5_4 : ixN 5 4 = some 4 := rfl
@[simp] theorem ixN_5_m1 : ixN 5 (-1) = some 4 := rfl
@[simp] theorem ixN_6_0 : ixN 6 0 = some 0 := rfl
@[simp] theorem ixN_6_1 : ixN 6 1 = some 1 := rfl
@[simp] theorem ixN_6_2 : ixN 6 2 = some 2 := rfl
@[simp] theorem ixN_6_3 : ixN 6 3 = some 3 := rfl
@[simp] theorem ixN_6_4 : ixN 6 4 = some 4 := rfl
@[simp] theorem ixN_6_5 : ixN 6 5 = some 5 := rfl
@[simp] theorem ixN_6_m1 : ixN 6 (-1) = some 5 := rfl
@[simp] theorem ixN_7_0 : ixN 7 0 = some 0 := rfl
@[simp] theorem ixN_7_1 : ixN 7 1 = some 1 := rfl
@[simp] theorem ixN_7_2 : ixN 7 2 = some 2 := rfl
@[simp] theorem ixN_7_3 : ixN 7 3 = some 3 := rfl
@[simp] theorem ixN_7_4 : ixN 7 4 = some 4 := rfl
@[simp] theorem ixN_7_5 : ixN 7 5 = some 5 := rfl
@[simp] theorem ixN_7_6 : ixN 7 6 = some 6 := rfl
@[simp] theorem ixN_7_m1 : ixN 7 (-1) = some 6 := rfl
@[simp] theorem ixN_8_0 : ixN 8 0 = some 0 := rfl
@[simp] theorem ixN_8_1 : ixN 8 1 = some 1 := rfl
@[simp] theorem ixN_8_2 : ixN 8 2 = some 2 := rfl
@[simp] theorem ixN_8_3 : ixN 8 3 = some 3 := rfl
@[simp] theorem ixN_8_4 : ixN 8 4 = some 4 := rfl
@[simp] theorem ixN_8_5 : ixN 8 5 = some 5 := rfl
@[simp] theorem ixN_8_6 : ixN 8 6 = some 6 := rfl
@[simp] theorem ixN_8_7 : ixN 8 7 = some 7 := rfl
@[simp] theorem ixN_8_m1 : ixN 8 (-1) = some 7 := rfl
@[simp] theorem ixN_9_0 : ixN 9 0 = some 0 := rfl
@[simp] theorem ixN_9_1 : ixN 9 1 = some 1 := rfl
@[simp] theorem ixN_9_2 : ixN 9 2 = some 2 := rfl
@[simp] theorem ixN_9_3 : ixN 9 3 = some 3 := rfl
@[simp] theorem ixN_9_4 : ixN 9 4 = some 4 := rfl
@[simp] theorem ixN_9_5 : ixN 9 5 = some 5 := rfl
@[simp] theorem ixN_9_6 : ixN 9 6 = some 6 := rfl
@[simp] theorem ixN_9_7 : ixN 9 7 = some 7 := rfl
@[simp] theorem ixN_9_8 : ixN 9 8 = some 8 := rfl
@[simp] theorem ixN_9_m1 : ixN 9 (-1) = some 8 := rfl
@[simp] theorem ixN_10_0 : ixN 10 0 = some 0 := rfl
@[simp] theorem ixN_10_1 : ixN 10 1 = some 1 := rfl
@[simp] theorem ixN_10_2 : ixN 10 2 = some 2 := rfl
@[simp] theorem ixN_10_3 : ixN 10 3 = some 3 := rfl
@[simp] theorem ixN_10_4 : ixN 10 4 = some 4 := rfl
@[simp] theorem ixN_10_5 : ixN 10 5 = some 5 := rfl
@[simp] theorem ixN_10_6 : ixN 10 6 = some 6 := rfl
@[simp] theorem ixN_10_7 : ixN 10 7 = some 7 := rfl
@[simp] theorem ixN_10_8 : ixN 10 8 = some 8 := rfl
@[simp] theorem ixN_10_9 : ixN 10 9 = some 9 := rfl
@[simp] theorem ixN_10_m1 : ixN 10 (-1) = some 9 := rfl
@[simp] theorem ixN_11_0 : ixN 11 0 = some 0 := rfl
@[simp] theorem ixN_11_1 : ixN 11 1 = some 1 := rfl
@[simp] theorem ixN_11_2 : ixN 11 2 = some 2 := rfl
@[simp] theorem ixN_11_3 : ixN 11 3 = some 3 := rfl
@[simp] theorem ixN_11_4 : ixN 11 4 = some 4 := rfl
@[simp] theorem ixN_11_5 : ixN 11 5 = some 5 := rfl
@[simp] theorem ixN_11_6 : ixN 11 6 = some 6 := rfl
@[simp] theorem ixN_11_7 : ixN 11 7 = some 7 := rfl
@[simp] theorem ixN_11_8 : ixN 11 8 = some 8 := rfl
@[simp] theorem ixN_11_9 : ixN 11 9 = some 9 := rfl
@[simp] theorem ixN_11_10 : ixN 11 10 = some 10 := rfl
@[simp] theorem ixN_11_m1 : ixN 11 (-1) = some 10 := rfl
@[simp] theorem ixN_12_0 : ixN 12 0 = some 0 := rfl
@[simp] theorem ixN_12_1 : ixN 12 1 = some 1 := rfl
@[simp] theorem ixN_12_2 : ixN 12 2 = some 2 := rfl
@[simp] theorem ixN_12_3 : ixN 12 3 = some 3 := rfl
@[simp] theorem ixN_12_4 : ixN 12 4 = some 4 := rfl
@[simp] theorem ixN_12_5 : ixN 12 5 = some 5 := rfl
@[simp] theorem ixN_12_6 : ixN 12 6 = some 6 := rfl
@[simp] theorem ixN_12_7 : ixN 12 7 = some 7 := rfl
@[simp] theorem ixN_12_8 : ixN 12 8 = some 8 := rfl
@[simp] theorem ixN_12_9 : ixN 12 9 = some 9 := rfl
@[simp] theorem ixN_12_10 : ixN 12 10 = some 10 := rfl
@[simp] theorem ixN_12_11 : ixN 12 11 = some 11 := rfl
@[simp] theorem ixN_12_m1 : ixN 12 (-1) = some 11 := rfl
end DL

/-! DLE: own classes: made, fields, methods, properties; list * int. -/
namespace DL
open PySem PySem.Spec PyProof.Rows L2
theorem mk_inj' {a b : List Nat} (h : mk a = mk b) : a = b := by
  have := congrArg (fun s => s.cps.toList) h
  simpa using this
@[simp] theorem ofString_inj {a b : String} : Str.ofString a = Str.ofString b ↔ a = b := by
  constructor
  · intro h
    rw [ofString_mk, ofString_mk] at h
    have h2 := mk_inj' h
    apply String.ext
    exact List.map_inj_right (fun x y e => Char.ext (UInt32.toNat_inj.mp e)) |>.mp h2
  · rintro rfl; rfl
/-! fields -/
def fget : List (Str × D) → Str → Option D
  | [], _ => none
  | (g, x) :: r, f => if g = f then some x else fget r f
def fput (f : Str) (d : D) : List (Str × D) → List (Str × D)
  | [] => [(f, d)]
  | (g, x) :: r => if g = f then (g, d) :: r else (g, x) :: fput f d r
@[simp] theorem fget_nil {f : Str} : fget [] f = none := rfl
@[simp] theorem fget_cons {g f : Str} {x : D} {r : List (Str × D)} : fget ((g, x) :: r) f = if g = f then some x else fget r f := rfl
@[simp] theorem fput_nil {f : Str} {d : D} : fput f d [] = [(f, d)] := rfl
@[simp] theorem fput_cons {g f : Str} {x d : D} {r : List (Str × D)} : fput f d ((g, x) :: r) = if g = f then (g, d) :: r else (g, x) :: fput f d r := rfl
section
variable {K : PySem.W.Frag} {G : Gh}
theorem lookup_cons_if {α : Type} (f g : Str) (y : α) (fs : List (Str × α)) : ((f, y) :: fs).lookup g = if f = g then some y else fs.lookup g := by
  by_cases h : f = g
  · subst h; simp [List.lookup]
  · have e : (g == f) = false := by simpa using fun x => h x.symm
    rw [if_neg h]; simp [List.lookup, e]
theorem FReps.fget {ds : List (Str × D)} (f : Str) : ∀ {kv : List (Str × V)}, FReps K G kv ds → (∀ d, DL.fget ds f = some d → ∃ v, kv.lookup f = some v ∧ Rep K G v d) ∧ (DL.fget ds f = none → kv.lookup f = none) := by
  induction ds with
  | nil => intro kv h; rw [h.nil_inv]; exact And.intro (fun d e => by simp at e) (fun _ => rfl)
  | cons p ds ih =>
    intro kv h
    obtain ⟨k', d⟩ := p
    obtain ⟨v, r, rfl, a, b⟩ := h.cons_inv
    rw [fget_cons, lookup_cons_if]
    by_cases e : k' = f
    · rw [if_pos e, if_pos e]; exact ⟨fun d' q => by cases q; exact ⟨v, rfl, a⟩, fun q => by cases q⟩
    · rw [if_neg e, if_neg e]; exact ih b
theorem FReps.fput {ds : List (Str × D)} {v : V} {d : D} (f : Str) (r : Rep K G v d) : ∀ {kv : List (Str × V)}, FReps K G kv ds → FReps K G (putF f v kv) (DL.fput f d ds) := by
  induction ds with
  | nil => intro kv h; rw [h.nil_inv]; exact FReps.cons r FReps.nil
  | cons p ds ih =>
    intro kv h
    obtain ⟨k', d'⟩ := p
    obtain ⟨v', kr, rfl, a, b⟩ := h.cons_inv
    show FReps K G (if k' = f then (k', v) :: kr else (k', v') :: putF f v kr) (if k' = f then (k', d) :: ds else (k', d') :: DL.fput f d ds)
    by_cases e : k' = f
    · rw [if_pos e, if_pos e]; exact FReps.cons r b
    · rw [if_neg e, if_neg e]; exact FReps.cons a (ih b)
end
/-- d is an object of the class at C with these fields -/
def oF (C : Addr) (d : D) (P : List (Str × D) → Prop) : Prop := match d with | .obj C' fs => C' = C ∧ P fs | _ => False
@[simp ↓] theorem oF_obj {C C' : Addr} {fs : List (Str × D)} {P : List (Str × D) → Prop} : oF C (.obj C' fs) P = (C' = C ∧ P fs) := id rfl
theorem oF_go {K : PySem.W.Frag} {G : Gh} {μ : Mu} {H : Hp} {v : V} {d : D} {C : Addr} {P : List (Str × D) → Prop} (h : oF C (vw μ d) P) (S : Hold K G μ H) (r : Rep K G v d) : ∃ a dx vs fs, v = .ref a ∧ H a = some (.ins C dx vs) ∧ FReps K G vs fs ∧ vw μ d = .obj C fs ∧ P fs := by
  cases e : vw μ d with
  | obj C' fs =>
    rw [e] at h
    obtain ⟨rfl, p⟩ := h
    obtain ⟨a, dx, vs, rfl, h1, rr⟩ := S.obj r e
    exact ⟨a, dx, vs, fs, rfl, h1, rr, rfl, p⟩
  | _ => rw [e] at h; exact False.elim h
/-- what is known of an own class: its name, its fields -/
structure Klass (K : PySem.W.Frag) (mg : Str → Option Value) (C : Addr) (x : Str) (fs : List Str) : Prop where
  m : mg x = some (.ref C)
  cl : Cls K C
  na : ∀ (i : Nat) f, fs[i]? = some f → NoAttr K C f
structure MethAt (K : PySem.W.Frag) (C : Addr) (m q : Str) (st : Stmt) (ps : List Str) (f : Addr) (fd : FuncData) : Prop where
  F : Fun K m q st f fd
  M : Meth K C m f
  b : Binds K fd ps []
def CalledM (P : Program) (w : World) (K : PySem.W.Frag) (mg : Str → Option Value) (base : Heap) (k : Nat) (C : Addr) (m : Str) (ps : List Str) (S : DSp) : Prop :=
  ∃ f fd, Meth K C m f ∧ Binds K fd ps [] ∧ FnOk P w K mg base CX0 k f fd ps (toSp K S)
theorem MethAt.called {P : Program} {w : World} {K : PySem.W.Frag} {mg : Str → Option Value} {base : Heap} {k : Nat} {C : Addr} {m q : Str} {st : Stmt} {ps : List Str} {f : Addr} {fd : FuncData} {S : DSp} (D : MethAt K C m q st ps f fd) (F : FnOk P w K mg base CX0 k f fd ps (toSp K S)) : CalledM P w K mg base k C m ps S := ⟨f, fd, D.M, D.b, F⟩
/-- C(..) with its __init__ -/
def Made (P : Program) (w : World) (K : PySem.W.Frag) (mg : Str → Option Value) (base : Heap) (k : Nat) (C : Addr) (ps : List Str) (S : DSp) : Prop :=
  ∃ f fd, Mk K C f ∧ Binds K fd ps [] ∧ FnOk P w K mg base CX0 k f fd ps (toSp K S)
section
variable {X : Cx} {pos : Pos} {C : Addr}
/-! o.f -/
def dFld (C : Addr) (f : Str) (T : TDE) : TDE := fun ρ μ Q => T ρ μ fun d μ1 => oF C (vw μ1 d) fun fs => oS (fget fs f) fun v => Q v μ1
@[simp ↓] theorem dFld_p {f : Str} {T : TDE} {ρ} {μ} {Q} : dFld C f T ρ μ Q = (T ρ μ fun d μ1 => oF C (vw μ1 d) fun fs => oS (fget fs f) fun v => Q v μ1) := id rfl
theorem de_fld {e : Expr} {te : TE} {T : TDE} {f : Str} (cl : Cls X.K C) (na : NoAttr X.K C f) (h : DE X B e te T) (hb : attributeBase e f X.env (eval e X.env) = eval e X.env := by rfl) : DE X B (.Attribute e f pos) (tFld X.K te f) (dFld C f T) :=
  ⟨pe_fld h.pe hb, fun ρ μ σ H G Q Qn S q hd => h.ref ρ μ σ H G _ _ S q fun d μ1 v H1 G1 g1 S1 r1 q1 => by
    obtain ⟨a, dx, vs, fs, rfl, h1, rr, _, q2⟩ := oF_go q1 S1.hold r1
    rw [oS_eq] at q2
    obtain ⟨x, e, q3⟩ := q2
    obtain ⟨v, l, rv⟩ := (rr.fget f).1 x e
    exact ⟨a, C, dx, vs, v, rfl, h1, cl, na, l, (hd.mono g1).now S1 rv q3⟩⟩
/-! o.f = e -/
def insS (C : Addr) (d : D) (μ : Mu) (P : Addr → List (Str × D) → Prop) : Prop := pS d fun a => match μ a with | some (.ins C' fs) => C' = C ∧ P a fs | _ => False
@[simp ↓] theorem insS_p {a : Addr} {μ : Mu} {P : Addr → List (Str × D) → Prop} : insS C (.ptr a) μ P = (match μ a with | some (.ins C' fs) => C' = C ∧ P a fs | _ => False) := id rfl
theorem insS_go {K : PySem.W.Frag} {G : Gh} {μ : Mu} {H : Hp} {v : V} {d : D} {P : Addr → List (Str × D) → Prop} (h : insS C d μ P) (S : Hold K G μ H) (r : Rep K G v d) : ∃ a dx vs fs, v = .ref a ∧ d = .ptr a ∧ H a = some (.ins C dx vs) ∧ FReps K G vs fs ∧ μ a = some (.ins C fs) ∧ P a fs := by
  cases d with
  | ptr a =>
    cases r
    rw [insS_p] at h
    split at h
    · next C' fs e =>
      obtain ⟨rfl, p⟩ := h
      obtain ⟨_, o, y, z⟩ := S.cell a _ e
      obtain ⟨dx, vs, rfl, z2⟩ := cellR_ins z
      exact ⟨a, dx, vs, fs, rfl, rfl, y, z2, e, p⟩
    · exact h.elim
  | _ => exact False.elim h
def dsFld (C : Addr) (f : Str) (To Te : TDE) : TDS := fun E ρ μ => Te ρ μ fun y μ1 => To ρ μ1 fun o μ2 => insS C o μ2 fun a fs => fs.length < 1000 ∧ E.nx ρ (mup μ2 a (.ins C (fput f y fs)))
@[simp ↓] theorem dsFld_p {f : Str} {To Te : TDE} {E} {ρ} {μ} : dsFld C f To Te E ρ μ = (Te ρ μ fun y μ1 => To ρ μ1 fun o μ2 => insS C o μ2 fun a fs => fs.length < 1000 ∧ E.nx ρ (mup μ2 a (.ins C (fput f y fs)))) := id rfl
theorem ds_fld {o e : Expr} {f : Str} {to te : TE} {To Te : TDE} {p' : Pos} (cl : Cls X.K C) (na : NoAttr X.K C f) (ho : DE X B o to To) (he : DE X B e te Te) (hs : swapsWith e (some (.Attribute o f p')) pos.line X.env = pure false := by rfl) :
    DS X B (.Assign [.Attribute o f p'] e pos) (sFld X.K to te f) (dsFld C f To Te) :=
  ⟨ps_fld ho.pe he.pe hs, fun ρ μ σ H G E Dn S h hd => he.ref ρ μ σ H G _ _ S h fun y μ1 v H1 G1 g1 S1 r1 q1 => ho.ref ρ μ1 σ H1 G1 _ _ S1 q1 fun o' μ2 ov H2 G2 g2 S2 r2 q2 => by
    obtain ⟨a, dx, vs, fs, rfl, rfl, h1, rr, e1, l, q3⟩ := insS_go q2 S2.hold r2
    exact ⟨a, C, dx, vs, rfl, h1, cl, na, by rw [rr.len]; exact l, hd.nx ρ _ σ _ G2 (g1.trans g2) (S2.cellSet e1 (show CellR X.K G2 (.ins C dx (putF f v vs)) (.ins C (fput f y fs)) from ⟨rfl, rr.fput f (r1.mono g2)⟩)) q3⟩⟩
/-! calls of methods, properties -/
variable {CX : CXT} {k : Nat} {f : Addr} {fd : FuncData} {ps : List Str} {Sp : DSp} {m : Str} {o e : Expr} {es : List Expr} {to : TE} {To : TDE} {t : TA} {T : TDA} {apos : Pos} {p : Pos} {x : Str}
def dMeth (C : Addr) (m : Str) (Sp : DSp) (To : TDE) (T : TDA) : TDE := fun ρ μ Q => To ρ μ fun o μ1 => oF C (vw μ1 o) fun fs => fget fs m = none ∧ T ρ μ1 fun ds μ2 => Sp (o :: ds) μ2 Q noX
@[simp ↓] theorem dMeth_p {To : TDE} {T : TDA} {ρ} {μ} {Q} : dMeth C m Sp To T ρ μ Q = (To ρ μ fun o μ1 => oF C (vw μ1 o) fun fs => fget fs m = none ∧ T ρ μ1 fun ds μ2 => Sp (o :: ds) μ2 Q noX) := id rfl
theorem ref_meth {K : PySem.W.Frag} (ho : RefE K B To to) (ha : RefA K B T t) : RefE K B (dMeth C m Sp To T) (tMeth C m (toSp K Sp) [] E0 to t) := fun ρ μ σ H G Q Qn S q hd => ho ρ μ σ H G _ _ S q fun d μ1 v H1 G1 g1 S1 r1 q1 => by
  obtain ⟨a, dx, vs, fs, rfl, h1, rr, _, l, q2⟩ := oF_go q1 S1.hold r1
  refine ⟨a, dx, vs, rfl, h1, (rr.fget m).2 l, ha ρ μ1 σ H1 G1 _ _ S1 q2 fun ds μ2 ws H2 G2 g2 S2 r2 q3 => ?_⟩
  refine ⟨G2, d :: ds, μ2, Q, noX, S2.hold, by rw [List.append_nil]; exact Reps.cons (r1.mono g2) r2, q3, fun d' μ' v' H' G' g' h' r' q' => hd d' μ' v' H' G' ((g1.trans g2).trans g') ⟨h', S2.env.mono g'⟩ r' q', fun _ _ _ _ _ _ _ _ _ z => z.elim⟩
theorem de_meth {pl : Sem Bool} (cl : Cls X.K C) (hm : Meth X.K C m f) (F : FnOk X.prog X.w X.K X.mg X.base CX0 k f fd ps (toSp X.K Sp)) (hr : Room k X.A) (hb : Binds X.K fd ps []) (ho : DE X B o to To) (ha : DA X B (e :: es) t T)
    (hst : starEach (e :: es) X.env = (false, eval e X.env) :: starEach es X.env := by rfl) (hpl : (backTo pos (starEach es X.env)).any (·.1) = false := by rfl)
    (ht : eval (.Call (.Attribute o m apos) (e :: es) [] pos) X.env = (do
      let ov ← eval o X.env
      standAt apos.atName
      let (f, first) ← holding [ov] (getMethod ov m pl)
      callWith pos f first (backTo pos (starEach (e :: es) X.env)) (backToKw pos (keywordEach [] X.env))) := by rfl) :
    DE X B (.Call (.Attribute o m apos) (e :: es) [] pos) (tMeth C m (toSp X.K Sp) [] E0 to t) (dMeth C m Sp To T) := ⟨pe_meth ho.pe cl hm F hr hb .nil pass0 ha.pa hst hpl ht, ref_meth ho.ref ha.ref⟩
theorem de_meth0 {pl : Sem Bool} (cl : Cls X.K C) (hm : Meth X.K C m f) (F : FnOk X.prog X.w X.K X.mg X.base CX0 k f fd ps (toSp X.K Sp)) (hr : Room k X.A) (hb : Binds X.K fd ps []) (ho : DE X B o to To)
    (ht : eval (.Call (.Attribute o m apos) [] [] pos) X.env = (do
      let ov ← eval o X.env
      standAt apos.atName
      let (f, first) ← holding [ov] (getMethod ov m pl)
      callWith pos f first (backTo pos (starEach [] X.env)) (backToKw pos (keywordEach [] X.env))) := by rfl) :
    DE X B (.Call (.Attribute o m apos) [] [] pos) (tMeth C m (toSp X.K Sp) [] E0 to tNil) (dMeth C m Sp To dNil) := ⟨pe_meth0 ho.pe cl hm F hr hb .nil pass0 ht, ref_meth ho.ref da_nil.ref⟩
def dProp (C : Addr) (Sp : DSp) (To : TDE) : TDE := fun ρ μ Q => To ρ μ fun o μ1 => oF C (vw μ1 o) fun _ => Sp [o] μ1 Q noX
@[simp ↓] theorem dProp_p {To : TDE} {ρ} {μ} {Q} : dProp C Sp To ρ μ Q = (To ρ μ fun o μ1 => oF C (vw μ1 o) fun _ => Sp [o] μ1 Q noX) := id rfl
theorem de_prop {pr : Addr} (cl : Cls X.K C) (hp : PropOf X.K C m pr f) (F : FnOk X.prog X.w X.K X.mg X.base CX0 k f fd ps (toSp X.K Sp)) (hr : Room (k + 1) X.A) (hb : Binds X.K fd ps []) (ho : DE X B o to To) (hab : attributeBase o m X.env (eval o X.env) = eval o X.env := by rfl) :
    DE X B (.Attribute o m pos) (tProp C (toSp X.K Sp) [] E0 to) (dProp C Sp To) := ⟨pe_prop ho.pe cl hp F hr hb .nil pass0 hab, fun ρ μ σ H G Q Qn S q hd => ho.ref ρ μ σ H G _ _ S q fun d μ1 v H1 G1 g1 S1 r1 q1 => by
  obtain ⟨a, dx, vs, fs, rfl, h1, rr, _, q2⟩ := oF_go q1 S1.hold r1
  exact ⟨a, dx, vs, rfl, h1, G1, [d], μ1, Q, noX, S1.hold, Reps.one r1, q2, fun d' μ' v' H' G' g' h' r' q' => hd d' μ' v' H' G' (g1.trans g') ⟨h', S1.env.mono g'⟩ r' q', fun _ _ _ _ _ _ _ _ _ z => z.elim⟩⟩
/-! C(..) -/
def dMake (C : Addr) (Sp : DSp) (T : TDA) : TDE := fun ρ μ Q => T ρ μ fun ds μ1 => ∀ x, μ1 x = none → Sp (.ptr x :: ds) (mup μ1 x (.ins C [])) (fun v μ2 => v = .non ∧ Q (.ptr x) μ2) noX
@[simp ↓] theorem dMake_p {T : TDA} {ρ} {μ} {Q} : dMake C Sp T ρ μ Q = (T ρ μ fun ds μ1 => ∀ x, μ1 x = none → Sp (.ptr x :: ds) (mup μ1 x (.ins C [])) (fun v μ2 => v = .non ∧ Q (.ptr x) μ2) noX) := id rfl
theorem ref_make {K : PySem.W.Frag} (ha : RefA K B T t) : RefE K B (dMake C Sp T) (tMake C (toSp K Sp) [] E0 t) := fun ρ μ σ H G Q Qn S q hd => ha ρ μ σ H G _ _ S q fun ds μ1 vs H1 G1 g1 S1 r1 q1 => by
  intro x dx nx ndx ne
  have e1 : Ext H1 (upd H1 dx (.own x)) := Ext.new ndx
  have nx2 : (upd H1 dx (.own x)) x = none := by rw [upd_ne (Ne.symm ne)]; exact nx
  have h2 : Hold K G1 (mup μ1 x (.ins C [])) (upd (upd H1 dx (.own x)) x (.ins C dx [])) := (S1.hold.ext e1).cellNew nx2 (show CellR K G1 (.ins C dx []) (.ins C []) from ⟨rfl, FReps.nil⟩)
  refine ⟨G1, .ptr x :: ds, mup μ1 x (.ins C []), fun v μ2 => v = .non ∧ Q (.ptr x) μ2, noX, h2, by rw [List.append_nil]; exact Reps.cons (.ptr x) r1, q1 x (S1.hold.free nx).2.1, fun d' μ' v' H' G' g' h' r' q' => ?_, fun _ _ _ _ _ _ _ _ _ z => z.elim⟩
  obtain ⟨rfl, q'⟩ := q'
  exact ⟨r'.ofNon, hd (.ptr x) μ' (.ref x) H' G' (g1.trans g') ⟨h', S1.env.mono g'⟩ (.ptr x) q'⟩
theorem de_make (M : Mk X.K C f) (F : FnOk X.prog X.w X.K X.mg X.base CX0 k f fd ps (toSp X.K Sp)) (hr : Room (k + 1) X.A) (hb : Binds X.K fd ps []) (hm : X.mg x = some (.ref C)) (ha : DA X B (e :: es) t T) (hg : Gl X x := by rfl)
    (hdb : (x == ("__debug__" : Str)) = false := by decide) (he : starEach (e :: es) X.env = (false, eval e X.env) :: starEach es X.env := by rfl) (hpl : (backTo pos (starEach es X.env)).any (·.1) = false := by rfl) :
    DE X B (.Call (.Name x p) (e :: es) [] pos) (tMake C (toSp X.K Sp) [] E0 t) (dMake C Sp T) := ⟨pe_make M F hr hg hm hb .nil pass0 ha.pa hdb he hpl, ref_make ha.ref⟩
theorem de_make0 (M : Mk X.K C f) (F : FnOk X.prog X.w X.K X.mg X.base CX0 k f fd ps (toSp X.K Sp)) (hr : Room (k + 1) X.A) (hb : Binds X.K fd ps []) (hm : X.mg x = some (.ref C)) (hg : Gl X x := by rfl)
    (hdb : (x == ("__debug__" : Str)) = false := by decide) : DE X B (.Call (.Name x p) [] [] pos) (tMake C (toSp X.K Sp) [] E0 tNil) (dMake C Sp dNil) := ⟨pe_make0 M F hr hg hm hb .nil pass0 hdb, ref_make da_nil.ref⟩
/-! xs * k -/
def opRep (c : Bool) : R2D := fun x y μ Q => match y with
  | .int k => lS (vw μ x) fun xs => (-(2 ^ 63) ≤ k ∧ k < 2 ^ 63) ∧ xs.length * k.toNat ≤ sizeLine ∧ mkL c (List.replicate k.toNat xs).flatten μ Q
  | _ => False
@[simp ↓] theorem opRep_p {c : Bool} {x : D} {k : Int} {μ : Mu} {Q : QD} : opRep c x (.int k) μ Q = (lS (vw μ x) fun xs => (-(2 ^ 63) ≤ k ∧ k < 2 ^ 63) ∧ xs.length * k.toNat ≤ sizeLine ∧ mkL c (List.replicate k.toNat xs).flatten μ Q) := id rfl
theorem Reps.rep {K : PySem.W.Frag} {G : Gh} {vs : List V} {xs : List D} (r : Reps K G vs xs) : ∀ n : Nat, Reps K G (List.replicate n vs).flatten (List.replicate n xs).flatten
  | 0 => Reps.nil
  | n + 1 => by rw [List.replicate_succ, List.replicate_succ, List.flatten_cons, List.flatten_cons]; exact r.append (Reps.rep r n)
theorem do_rep (c : Bool) : OpR X (binaryOp .Mult) rRep ∧ Ref2 X.K B (opRep c) rRep := by
  refine ⟨op_rep, ?_⟩
  intro ρ μ σ H G x y dx dy Q Qn S r1 r2 h hd
  cases dy with
  | int k =>
    cases r2
    rw [opRep_p, lS_eq] at h
    obtain ⟨xs, e, ⟨b1, b2⟩, l, q⟩ := h
    obtain ⟨a, vs, rfl, h1, rr⟩ := S.hold.lst r1 e
    exact ⟨a, k, vs, rfl, rfl, h1, b1, b2, by rw [rr.1]; exact l, fun p n => mkL_go q S (rr.rep _) hd n⟩
  | _ => exact False.elim h
end
end DL

/-! DLF: data seen through the store to a depth. -/
namespace DL
open PySem PySem.Spec PyProof.Rows L2
def dvs (f : D → Option D) : List D → Option (List D)
  | [] => some []
  | x :: r => match f x, dvs f r with
    | some a, some b => some (a :: b)
    | _, _ => none
theorem dvs_cons {f : D → Option D} {x a : D} {r b : List D} (h : f x = some a) (h2 : dvs f r = some b) : dvs f (x :: r) = some (a :: b) := by simp [dvs, h, h2]
theorem dvs_len {f : D → Option D} : ∀ {xs ys : List D}, dvs f xs = some ys → xs.length = ys.length
  | [], ys, h => by cases h; rfl
  | x :: r, ys, h => by
    simp only [dvs] at h
    split at h
    · next a b e1 e2 => cases h; simp [dvs_len e2]
    · cases h
theorem dvs_get {f : D → Option D} : ∀ {xs ys : List D}, dvs f xs = some ys → ∀ (i : Nat) x, xs[i]? = some x → ∃ y, f x = some y ∧ ys[i]? = some y
  | [], ys, h, i, x, e => by simp at e
  | x :: r, ys, h, i, z, e => by
    simp only [dvs] at h
    split at h
    · next a b e1 e2 =>
      cases h
      cases i with
      | zero => simp at e; subst e; exact ⟨a, e1, rfl⟩
      | succ i => exact dvs_get e2 i z (by simpa using e)
    · cases h
theorem dvs_of {f : D → Option D} : ∀ {xs ys : List D}, xs.length = ys.length → (∀ (i : Nat) x y, xs[i]? = some x → ys[i]? = some y → f x = some y) → dvs f xs = some ys
  | [], [], _, _ => rfl
  | x :: r, y :: s, l, h => dvs_cons (h 0 x y rfl rfl) (dvs_of (by simpa using l) fun i a b e1 e2 => h (i + 1) a b (by simpa using e1) (by simpa using e2))
theorem dvs_app {f : D → Option D} : ∀ {xs ys us vs : List D}, dvs f xs = some us → dvs f ys = some vs → dvs f (xs ++ ys) = some (us ++ vs)
  | [], ys, us, vs, h, h2 => by cases h; exact h2
  | x :: r, ys, us, vs, h, h2 => by
    simp only [dvs] at h
    split at h
    · next a b e1 e2 => cases h; exact dvs_cons e1 (dvs_app e2 h2)
    · cases h
theorem dvs_id {f : D → Option D} {xs : List D} (h : ∀ x ∈ xs, f x = some x) : dvs f xs = some xs := by
  induction xs with
  | nil => rfl
  | cons x r ih => exact dvs_cons (h x List.mem_cons_self) (ih fun y hy => h y (List.mem_cons_of_mem _ hy))
theorem dvs_mono {f g : D → Option D} : ∀ {xs ys : List D}, dvs f xs = some ys → (∀ x ∈ xs, ∀ y, f x = some y → g x = some y) → dvs g xs = some ys
  | [], ys, h, _ => by cases h; rfl
  | x :: r, ys, h, k => by
    simp only [dvs] at h
    split at h
    · next a b e1 e2 => cases h; exact dvs_cons (k x List.mem_cons_self a e1) (dvs_mono e2 fun z hz => k z (List.mem_cons_of_mem _ hz))
    · cases h
def atomO : D → Option D
  | .non => some .non | .bl b => some (.bl b) | .int i => some (.int i) | .str s => some (.str s) | _ => none
def dview (μ : Mu) : Nat → D → Option D
  | 0, d => atomO d
  | n + 1, d => match vw μ d with
    | .lst xs => if xs.length ≤ 16000000 then (dvs (dview μ n) xs).map .lst else none
    | .tup xs => if xs.length ≤ 16000000 then (dvs (dview μ n) xs).map .tup else none
    | v => atomO v
theorem atomO_vw {μ : Mu} {d t : D} (h : atomO d = some t) : vw μ d = d := by cases d <;> first | rfl | cases h
theorem dview_cases {μ : Mu} {n : Nat} {x t : D} (h : dview μ n x = some t) : (t = .non ∧ vw μ x = .non) ∨ (∃ b, t = .bl b ∧ vw μ x = .bl b) ∨ (∃ b, t = .int b ∧ vw μ x = .int b) ∨ (∃ b, t = .str b ∧ vw μ x = .str b) ∨
    (∃ m xs ys, n = m + 1 ∧ t = .lst ys ∧ vw μ x = .lst xs ∧ xs.length ≤ 16000000 ∧ dvs (dview μ m) xs = some ys) ∨ (∃ m xs ys, n = m + 1 ∧ t = .tup ys ∧ vw μ x = .tup xs ∧ xs.length ≤ 16000000 ∧ dvs (dview μ m) xs = some ys) := by
  have atom : ∀ {v : D}, atomO v = some t → (t = .non ∧ v = .non) ∨ (∃ b, t = .bl b ∧ v = .bl b) ∨ (∃ b, t = .int b ∧ v = .int b) ∨ (∃ b, t = .str b ∧ v = .str b) := by
    intro v hv
    cases v <;> simp [atomO] at hv <;> subst hv <;> simp
  cases n with
  | zero =>
    have h' : atomO x = some t := h
    have e := atomO_vw (μ := μ) h'
    rw [e]
    rcases atom h' with h | h | h | h
    · exact .inl h
    · exact .inr (.inl h)
    · exact .inr (.inr (.inl h))
    · exact .inr (.inr (.inr (.inl h)))
  | succ m =>
    unfold dview at h
    split at h
    · next xs e =>
      split at h
      · next l =>
        rw [Option.map_eq_some_iff] at h
        obtain ⟨ys, h, rfl⟩ := h
        exact .inr (.inr (.inr (.inr (.inl ⟨m, xs, ys, rfl, rfl, e, l, h⟩))))
      · cases h
    · next xs e =>
      split at h
      · next l =>
        rw [Option.map_eq_some_iff] at h
        obtain ⟨ys, h, rfl⟩ := h
        exact .inr (.inr (.inr (.inr (.inr ⟨m, xs, ys, rfl, rfl, e, l, h⟩))))
      · cases h
    · rcases atom h with h | h | h | h
      · exact .inl h
      · exact .inr (.inl h)
      · exact .inr (.inr (.inl h))
      · exact .inr (.inr (.inr (.inl h)))
theorem dview_lst {μ : Mu} {n : Nat} {d : D} {xs ys : List D} (e : vw μ d = .lst xs) (l : xs.length ≤ 16000000) (h : dvs (dview μ n) xs = some ys) : dview μ (n + 1) d = some (.lst ys) := by
  unfold dview; rw [e]; simp [l, h]
theorem dview_tup {μ : Mu} {n : Nat} {d : D} {xs ys : List D} (e : vw μ d = .tup xs) (l : xs.length ≤ 16000000) (h : dvs (dview μ n) xs = some ys) : dview μ (n + 1) d = some (.tup ys) := by
  unfold dview; rw [e]; simp [l, h]
theorem dview_atom {μ : Mu} {n : Nat} {d : D} (h : atomD d) : dview μ n d = some d := by
  cases n <;> cases d <;> first | rfl | exact h.elim
@[simp] theorem dview_non {μ : Mu} {n : Nat} : dview μ n .non = some .non := dview_atom trivial
@[simp] theorem dview_bl {μ : Mu} {n : Nat} {b : Bool} : dview μ n (.bl b) = some (.bl b) := dview_atom trivial
@[simp] theorem dview_int {μ : Mu} {n : Nat} {b : Int} : dview μ n (.int b) = some (.int b) := dview_atom trivial
@[simp] theorem dview_str {μ : Mu} {n : Nat} {b : Str} : dview μ n (.str b) = some (.str b) := dview_atom trivial
theorem dview_pure {μ : Mu} {n : Nat} {d : D} (h : Pd n d) : dview μ n d = some d := by
  induction n generalizing d with
  | zero => exact dview_atom h
  | succ n ih =>
    rcases h with h | ⟨xs, rfl | rfl, l, h⟩
    · exact dview_atom h
    · exact dview_lst rfl l (dvs_id fun x hx => ih (h x hx))
    · exact dview_tup rfl l (dvs_id fun x hx => ih (h x hx))
theorem dview_up {μ : Mu} {n : Nat} {d t : D} (h : dview μ n d = some t) : dview μ (n + 1) d = some t := by
  induction n generalizing d t with
  | zero =>
    have h' : atomO d = some t := h
    cases d <;> first | exact h' | cases h'
  | succ n ih =>
    rcases dview_cases h with ⟨rfl, e⟩ | ⟨b, rfl, e⟩ | ⟨b, rfl, e⟩ | ⟨b, rfl, e⟩ | ⟨m, xs, ys, e0, rfl, e, l, k⟩ | ⟨m, xs, ys, e0, rfl, e, l, k⟩
    · unfold dview; rw [e]; rfl
    · unfold dview; rw [e]; rfl
    · unfold dview; rw [e]; rfl
    · unfold dview; rw [e]; rfl
    · cases e0; exact dview_lst e l (dvs_mono k fun x _ y hy => ih hy)
    · cases e0; exact dview_tup e l (dvs_mono k fun x _ y hy => ih hy)
theorem dview_le {μ : Mu} {n m : Nat} {d t : D} (h : dview μ n d = some t) (l : n ≤ m) : dview μ m d = some t := by
  induction m with
  | zero => cases Nat.le_zero.mp l; exact h
  | succ m ih =>
    by_cases e : n = m + 1
    · subst e; exact h
    · exact dview_up (ih (by omega))
theorem Pd.le {n m : Nat} {d : D} (h : Pd n d) (l : n ≤ m) : Pd m d := by
  induction m with
  | zero => cases Nat.le_zero.mp l; exact h
  | succ m ih =>
    by_cases e : n = m + 1
    · subst e; exact h
    · exact (ih (by omega)).up
/-- what is seen is plain -/
theorem dview_Pd {μ : Mu} {n : Nat} {d t : D} (h : dview μ n d = some t) : Pd n t := by
  induction n generalizing d t with
  | zero =>
    have h' : atomO d = some t := h
    cases d <;> simp [atomO] at h' <;> subst h' <;> exact trivial
  | succ n ih =>
    rcases dview_cases h with ⟨rfl, e⟩ | ⟨b, rfl, e⟩ | ⟨b, rfl, e⟩ | ⟨b, rfl, e⟩ | ⟨m, xs, ys, e0, rfl, e, l, k⟩ | ⟨m, xs, ys, e0, rfl, e, l, k⟩
    · exact .inl trivial
    · exact .inl trivial
    · exact .inl trivial
    · exact .inl trivial
    · cases e0
      refine .inr ⟨ys, .inl rfl, by rw [← dvs_len k]; exact l, fun y hy => ?_⟩
      obtain ⟨i, hi, rfl⟩ := List.getElem_of_mem hy
      have hx : i < xs.length := by rw [dvs_len k]; exact hi
      obtain ⟨y, f1, f2⟩ := dvs_get k i xs[i] (List.getElem?_eq_getElem hx)
      rw [List.getElem?_eq_getElem hi] at f2; cases f2
      exact ih f1
    · cases e0
      refine .inr ⟨ys, .inr rfl, by rw [← dvs_len k]; exact l, fun y hy => ?_⟩
      obtain ⟨i, hi, rfl⟩ := List.getElem_of_mem hy
      have hx : i < xs.length := by rw [dvs_len k]; exact hi
      obtain ⟨y, f1, f2⟩ := dvs_get k i xs[i] (List.getElem?_eq_getElem hx)
      rw [List.getElem?_eq_getElem hi] at f2; cases f2
      exact ih f1
/-- lists of plain data that are seen as such -/
theorem Pd_lst {n : Nat} {xs : List D} (l : xs.length ≤ 16000000) (h : ∀ x ∈ xs, Pd n x) : Pd (n + 1) (.lst xs) := .inr ⟨xs, .inl rfl, l, h⟩
theorem Pd_tup {n : Nat} {xs : List D} (l : xs.length ≤ 16000000) (h : ∀ x ∈ xs, Pd n x) : Pd (n + 1) (.tup xs) := .inr ⟨xs, .inr rfl, l, h⟩
@[simp] theorem Pd_str' {n : Nat} {s : Str} : Pd n (.str s) := by cases n <;> simp [Pd, atomD]
@[simp] theorem Pd_int' {n : Nat} {s : Int} : Pd n (.int s) := by cases n <;> simp [Pd, atomD]
@[simp] theorem Pd_bl' {n : Nat} {s : Bool} : Pd n (.bl s) := by cases n <;> simp [Pd, atomD]
@[simp] theorem Pd_non' {n : Nat} : Pd n .non := by cases n <;> simp [Pd, atomD]
/-- the law's own comparison of data -/
def sp_same (n : Nat) : DSp := fun ds μ Q _ => ∃ x y a b, ds = [x, y] ∧ dview μ n x = some a ∧ dview μ n y = some b ∧ Q (.bl (eqD a b)) μ
def sp_row (n : Nat) : DSp := fun ds μ Q _ => ∃ x y xs ys as bs, ds = [x, y] ∧ ((vw μ x = .lst xs ∧ vw μ y = .lst ys) ∨ (vw μ x = .tup xs ∧ vw μ y = .tup ys)) ∧ xs.length ≤ 16000000 ∧ ys.length ≤ 16000000 ∧ dvs (dview μ n) xs = some as ∧ dvs (dview μ n) ys = some bs ∧ Q (.bl (eqD (.lst as) (.lst bs))) μ
def sp_rowN : Nat → DSp
  | 0 => fun _ _ _ _ => False
  | n + 1 => sp_row n
theorem len_row (n : Nat) : ∀ ds μ Q E, sp_row n ds μ Q E → ds.length = 2 := by
  rintro ds μ Q E ⟨x, y, xs, ys, as, bs, rfl, _⟩; rfl
theorem len_same (n : Nat) : ∀ ds μ Q E, sp_same n ds μ Q E → ds.length = 2 := by
  rintro ds μ Q E ⟨x, y, a, b, rfl, _⟩; rfl
@[simp ↓] theorem e_same {n : Nat} {x y : D} {μ : Mu} {Q : QD} {E : XDt} : sp_same n [x, y] μ Q E = (oS (dview μ n x) fun a => oS (dview μ n y) fun b => Q (.bl (eqD a b)) μ) := by
  simp only [sp_same, List.cons.injEq, and_true, and_assoc, exists_and_left, exists_eq_left', oS_eq]
@[simp ↓] theorem e_draw {sz : Int} {μ : Mu} {Q : QD} {E : XDt} : sp_draw [.src, .int sz] μ Q E = (0 < sz ∧ sz < 1073741824 ∧ ∀ n, 0 ≤ n → n < sz → Q (.int n) μ) := by
  simp only [sp_draw, List.cons.injEq, D.int.injEq, true_and, and_true, exists_eq_left']
end DL

/-! DLG: counters in a one-item list (rooms), walks over a cell that stays. -/
namespace DL
open PySem PySem.Spec PyProof.Rows L2
section
variable {K : PySem.W.Frag} {G : Gh} {μ : Mu} {H : Hp} {ρ : DR} {σ : St} {a p : Addr}
theorem Hold.roomSet (h : Hold K G μ H) (m : a ∈ G.rooms) (n : Int) : Hold K G μ (upd H a (.lst [.int n])) := by
  obtain ⟨f1, f2, f3, _⟩ := h.rooms a m
  refine ⟨h.fr.mut f1, fun b c q => ?_, fun b q => ?_, fun b q => ?_⟩
  · obtain ⟨x, o, y, z⟩ := h.cell b c q
    have ne : b ≠ a := fun e => by rw [e, f2] at q; cases q
    exact ⟨x, o, (upd_ne ne).trans y, z⟩
  · obtain ⟨x, y, z⟩ := h.src b q
    have ne : b ≠ a := fun e => f3 (e ▸ q)
    exact ⟨x, y, z.mono (Ext.refl _) fun o q => (upd_ne ne).trans q⟩
  · obtain ⟨x, y, z, k, w⟩ := h.rooms b q
    by_cases e : b = a
    · subst e; exact ⟨x, y, z, n, upd_same⟩
    · exact ⟨x, y, z, k, (upd_ne e).trans w⟩
theorem Sat.roomNew (S : Sat K B G ρ μ σ H) (n : H p = none) (k : Int) : ∃ G', Gle G G' ∧ Sat K B G' ρ μ σ (upd H p (.lst [.int k])) ∧ p ∈ G'.rooms := by
  obtain ⟨f1, f2, f3, f4⟩ := S.hold.free n
  have g : Gle G { G with rooms := p :: G.rooms } := ⟨Ext.refl _, fun _ h => h, fun _ h => List.mem_cons_of_mem _ h⟩
  refine ⟨_, g, ⟨?_, S.env.mono g⟩, List.mem_cons_self⟩
  refine ⟨S.hold.fr.trans (Ext.new n), fun b c q => ?_, fun b q => ?_, fun b q => ?_⟩
  · obtain ⟨x, o, y, z⟩ := S.hold.cell b c q
    have ne : b ≠ p := fun e => by rw [e, f2] at q; cases q
    exact ⟨x, o, (upd_ne ne).trans y, z.mono g⟩
  · obtain ⟨x, y, z⟩ := S.hold.src b q
    have ne : b ≠ p := fun e => f3 (e ▸ q)
    exact ⟨x, y, z.mono (Ext.refl _) fun o q => (upd_ne ne).trans q⟩
  · by_cases e : b = p
    · subst e; exact ⟨f1, f2, f3, k, upd_same⟩
    · obtain ⟨x, y, z, j, w⟩ := S.hold.rooms b ((List.mem_cons.mp q).resolve_left e)
      exact ⟨x, y, z, j, (upd_ne e).trans w⟩
end
section
variable {X : Cx} {pos : Pos} {a b : Expr} {ta tb : TE} {Ta Tb : TDE}
/-- room[0] -/
def opIxR : R2D := fun x y μ Q => match x, y with
  | .room, .int 0 => ∀ n : Int, Q (.int n) μ
  | _, _ => False
@[simp ↓] theorem opIxR_p {μ : Mu} {Q : QD} : opIxR .room (.int 0) μ Q = (∀ n : Int, Q (.int n) μ) := id rfl
theorem ref_ixR : Ref2 X.K B opIxR (rIx X.K) := by
  intro ρ μ σ H G x y dx dy Q Qn S r1 r2 h hd
  unfold opIxR at h
  split at h
  · cases r2
    cases r1 with
    | room m =>
      obtain ⟨_, _, _, n, w⟩ := S.hold.rooms _ m
      exact .inl ⟨_, _, 0, _, rfl, rfl, SqL.of w, rfl, hd.now S (.int n) (h n)⟩
  · exact h.elim
theorem de_ixR (ha : DE X B a ta Ta) (hb : DE X B b tb Tb) (hs : PlainIx b := by exact fun _ _ => rfl) : DE X B (.Subscript a b pos) (tOp (rIx X.K) ta tb) (dOp opIxR Ta Tb) := ⟨pe_ix ix_seq ha.pe hb.pe hs, ref_op ref_ixR ha.ref hb.ref⟩
/-- room[0] = an int -/
def dgSubR (To Ti : TDE) : TDG := fun d ρ μ Q => To ρ μ fun o μ1 => Ti ρ μ1 fun i μ2 => match o, i, d with | .room, .int 0, .int _ => Q ρ μ2 | _, _, _ => False
@[simp ↓] theorem dgSubR_p {To Ti : TDE} {d : D} {ρ} {μ} {Q} : dgSubR To Ti d ρ μ Q = (To ρ μ fun o μ1 => Ti ρ μ1 fun i μ2 => match o, i, d with | .room, .int 0, .int _ => Q ρ μ2 | _, _, _ => False) := id rfl
theorem dg_subR {o i : Expr} {to ti : TE} {To Ti : TDE} (ho : DE X B o to To) (hi : DE X B i ti Ti) (ha : ∀ v, assign (.Subscript o i pos) X.env v = (do
      let ov ← holding [v] (eval o X.env)
      let iv ← holding [v, ov] (eval i X.env)
      standAt pos
      holding [v, ov, iv] (setItem ov iv v)
      release [v, ov, iv] []) := by intro _; rfl) : DG X B (.Subscript o i pos) (gSub to ti rSetL) (dgSubR To Ti) :=
  ⟨pg_sub ho.pe hi.pe set_list ha, fun d v ρ μ σ H G Q Qn S r h hd => ho.ref ρ μ σ H G _ _ S h fun o' μ1 ov H1 G1 g1 S1 r1 q1 => hi.ref ρ μ1 σ H1 G1 _ _ S1 q1 fun i' μ2 iv H2 G2 g2 S2 r2 q2 => by
    split at q2
    · cases r2
      cases r1 with
      | room m =>
        obtain ⟨_, _, _, n, w⟩ := S2.hold.rooms _ (g2.rooms _ m)
        have ev := r.ofInt
        subst ev
        exact ⟨_, _, 0, 0, rfl, rfl, w, rfl, hd ρ _ _ _ G2 (g1.trans g2) ⟨S2.hold.roomSet (g2.rooms _ m) _, S2.env⟩ q2⟩
    · exact q2.elim⟩
/-- [e] handed over as a room -/
def dRoom (T : TDA) : TDE := fun ρ μ Q => T ρ μ fun ds μ1 => match ds with | [.int _] => Q .room μ1 | _ => False
@[simp ↓] theorem dRoom_p {T : TDA} {ρ} {μ} {Q} : dRoom T ρ μ Q = (T ρ μ fun ds μ1 => match ds with | [.int _] => Q .room μ1 | _ => False) := id rfl
theorem de_room {es : List Expr} {t : TA} {T : TDA} (h : DA X B es t T) : DE X B (.List es pos) (tLst t) (dRoom T) :=
  ⟨pe_lst h.pa, fun ρ μ σ H G Q Qn S q hd => h.ref ρ μ σ H G _ _ S q fun ds μ1 vs H1 G1 g1 S1 r1 q1 => by
    split at q1
    · next n =>
      obtain ⟨v, rfl, rv⟩ := reps1 r1
      cases rv
      refine ⟨by show 1 ≤ sizeLine; decide, fun p np => ?_⟩
      obtain ⟨G2, g2, S2, m⟩ := S1.roomNew np n
      exact hd .room μ1 _ _ G2 (g1.trans g2) S2 (.room m) q1
    · exact q1.elim⟩
/-- the items of a cell that stays as it is -/
def iCell (T : TDE) : TDIK := fun ρ μ Q => T ρ μ fun d μ1 => pS d fun a => cS (μ1 a) fun xs => Q xs (fun μ' => μ' a = some (.lst xs)) μ1
@[simp ↓] theorem iCell_p {T : TDE} {ρ} {μ} {Q} : iCell T ρ μ Q = (T ρ μ fun d μ1 => pS d fun a => cS (μ1 a) fun xs => Q xs (fun μ' => μ' a = some (.lst xs)) μ1) := id rfl
theorem di_cell {tg e : Expr} {te : TE} {T : TDE} (h : DE X B e te T) : DIK X B tg e (iList X.K te) (iCell T) := ⟨pi_list h.pe, fun ρ μ σ H G Q R S q hd => h.ref ρ μ σ H G _ _ S q fun d μ1 v H1 G1 g1 S1 r1 q1 => by
  cases d with
  | ptr a =>
    cases r1
    have q2 : cS (μ1 a) fun xs => Q xs (fun μ' => μ' a = some (.lst xs)) μ1 := q1
    rw [cS_eq] at q2
    obtain ⟨xs, e1, q3⟩ := q2
    obtain ⟨vs0, h0, rr0⟩ := S1.hold.lstAt e1
    refine ⟨a, rfl, ⟨vs0, SqL.of h0⟩, hd xs _ μ1 _ H1 G1 g1 S1 q3 (fun n H' G' μ' g h' kp => ⟨fun hn => ?_, fun hn => ?_⟩) fun n x w H' H2 G' μ' g h' kp ex y => ?_⟩
    · obtain ⟨vs, h1, rr⟩ := h'.lstAt kp
      exact ⟨vs, vs[n]'(by rw [rr.1]; exact hn), SqL.of h1, List.getElem?_eq_getElem _⟩
    · obtain ⟨vs, h1, rr⟩ := h'.lstAt kp
      exact ⟨vs, SqL.of h1, by rw [rr.1]; exact hn⟩
    · obtain ⟨rfl, y⟩ := y
      obtain ⟨vs, h1, rr⟩ := h'.lstAt kp
      have e2 := y vs (SqL.of h1)
      exact ⟨G', Gle.refl _, h', rr.2 n w x e2 ex⟩
  | _ => exact False.elim q1⟩
/-- the items of a list, frozen or a cell that stays as it is -/
def Stays (d : D) (xs : List D) (μ : Mu) : Prop := match d with | .ptr a => μ a = some (.lst xs) | _ => True
def iAny (T : TDE) : TDIK := fun ρ μ Q => T ρ μ fun d μ1 => lS (vw μ1 d) fun xs => Q xs (Stays d xs) μ1
@[simp ↓] theorem iAny_p {T : TDE} {ρ} {μ} {Q} : iAny T ρ μ Q = (T ρ μ fun d μ1 => lS (vw μ1 d) fun xs => Q xs (Stays d xs) μ1) := id rfl
@[simp] theorem Stays_lst {xs ys : List D} {μ : Mu} : Stays (.lst xs) ys μ = True := rfl
@[simp] theorem Stays_ptr {a : Addr} {ys : List D} {μ : Mu} : Stays (.ptr a) ys μ = (μ a = some (.lst ys)) := rfl
theorem di_any {tg e : Expr} {te : TE} {T : TDE} (h : DE X B e te T) : DIK X B tg e (iList X.K te) (iAny T) := ⟨pi_list h.pe, fun ρ μ σ H G Q R S q hd => h.ref ρ μ σ H G _ _ S q fun d μ1 v H1 G1 g1 S1 r1 q1 => by
  rw [lS_eq] at q1
  obtain ⟨xs, e1, q3⟩ := q1
  obtain ⟨a, vs0, rfl, h0, rr0⟩ := S1.hold.lst r1 e1
  have key : ∀ {H' : Hp} {G' : Gh} {μ' : Mu}, Gle G1 G' → Hold X.K G' μ' H' → Stays d xs μ' → ∃ vs, H' a = some (.lst vs) ∧ Reps X.K G' vs xs := by
    intro H' G' μ' g h' kp
    cases d with
    | lst ys =>
      cases e1
      cases r1 with
      | lst hh l r => exact ⟨_, h'.fr _ _ (g.fr _ _ hh), l, fun i v d a b => (r i v d a b).mono g⟩
    | ptr b => cases r1; exact h'.lstAt kp
    | _ => cases e1
  refine ⟨a, rfl, ⟨vs0, SqL.of h0⟩, hd xs _ μ1 _ H1 G1 g1 S1 q3 (fun n H' G' μ' g h' kp => ⟨fun hn => ?_, fun hn => ?_⟩) fun n x w H' H2 G' μ' g h' kp ex y => ?_⟩
  · obtain ⟨vs, h1, rr⟩ := key g h' kp
    exact ⟨vs, vs[n]'(by rw [rr.1]; exact hn), SqL.of h1, List.getElem?_eq_getElem _⟩
  · obtain ⟨vs, h1, rr⟩ := key g h' kp
    exact ⟨vs, SqL.of h1, by rw [rr.1]; exact hn⟩
  · obtain ⟨rfl, y⟩ := y
    obtain ⟨vs, h1, rr⟩ := key g h' kp
    have e2 := y vs (SqL.of h1)
    exact ⟨G', Gle.refl _, h', rr.2 n w x e2 ex⟩⟩
end
theorem loopK_it {g : TDG} {T : TDS} {E : DEnds} {Kp : Mu → Prop} (I : List D → DR → Mu → Prop) {xs : List D} {ρ : DR} {μ : Mu} (h : I xs ρ μ) (hk : ∀ r ρ μ, I r ρ μ → Kp μ) (hn : ∀ ρ μ, I [] ρ μ → E.nx ρ μ)
    (hc : ∀ x r ρ μ (N : DR → Mu → Prop), I (x :: r) ρ μ → (∀ ρ' μ', I r ρ' μ' → N ρ' μ') → g x ρ μ fun ρ2 μ2 => T (lpE E N) ρ2 μ2) : loopK g T E Kp xs ρ μ := loopK_ind I h hk hn hc
/-- the loop is a letter while its items are found -/
theorem forK_hide {I : TDIK} {g : TDG} {T : TDS} {E : DEnds} {ρ : DR} {μ : Mu} (h : ∀ L : List D → (Mu → Prop) → DR → Mu → Prop, (∀ xs Kp ρ μ, L xs Kp ρ μ = loopK g T E Kp xs ρ μ) → I ρ μ fun xs Kp μ1 => L xs Kp ρ μ1) : dForK I g T E ρ μ := h (fun xs Kp ρ μ => loopK g T E Kp xs ρ μ) (fun _ _ _ _ => rfl)
/-- a statement that leaves all as it is, or goes out -/
theorem seq_same {T U : TDS} {E : DEnds} {ρ : DR} {μ : Mu} (h1 : ∀ N : DR → Mu → Prop, N ρ μ → T (sqE E N) ρ μ) (h2 : U E ρ μ) : dSeq T U E ρ μ := h1 _ h2
theorem frzS_mup {i : Nat} {T : TDS} {E : DEnds} {ρ : DR} {μ : Mu} {a : Addr} {xs : List D} (e : ρ[i]? = some (some (.ptr a))) (n : μ a = none) (h : T E (ρ.set i (some (.lst xs))) μ) : dFrzS i T E ρ (mup μ a (.lst xs)) := by
  unfold dFrzS
  rw [e]
  simp only [mup_same]
  rw [mdel_mup n]
  exact h
theorem frzS_at {i : Nat} {T : TDS} {E : DEnds} {ρ : DR} {μ : Mu} {a : Addr} {xs : List D} (e : ρ[i]? = some (some (.ptr a))) (n : μ a = some (.lst xs)) (h : T E (ρ.set i (some (.lst xs))) (mdel μ a)) : dFrzS i T E ρ μ := by
  unfold dFrzS
  rw [e]
  simp only [n]
  exact h
/-- a def that is never called -/
theorem dead_fn {P : Program} {w : World} {K : PySem.W.Frag} {mg : Str → Option Value} {base : Heap} {CX : CXT} {k : Nat} {f : Addr} {fd : FuncData} {ps : List Str} : FnOk P w K mg base CX k f fd ps (toSp K fun _ _ _ _ => False) := by
  refine ⟨?_, ?_⟩
  · rintro vs H Q E ⟨_, _, _, _, _, _, _, h, _⟩; exact h.elim
  · rintro _ _ _ _ _ _ vs Q E _ _ _ _ ⟨_, _, _, _, _, _, _, h, _⟩; exact h.elim
end DL

/-! DLH: own errors: an __init__ that says super().__init__('m') first. -/
namespace DL
open PySem PySem.Spec PyProof.Rows L2 NdefX

section
variable {M : Model} {prog : Program} {w : World} {A : Around} {E : Value → Shared → Prop} {h : Heap} {g : Array GenState} {d : Drawn} {t : Nat} {os : OsState}
theorem bound_init {nm q : Str} {C N : Addr} {bs bm : List Value} {hdct : Bool} {sn : List Str} {sub : List Value} {ab : Bool} {col : Option Bool} {dd : Option Addr} {k0 k1 k2 k3 k5 : Option Value} {u e t0 : Addr} {rest : List Value} {Q : Value → Shared → Prop}
    (hC : h.get? C = some (excClassObj nm q C N bs bm hdct sn sub ab col dd k0 k1 k2 k3 k5 "ValueError.__new__")) (hu : h.get? u = some (PySem.W.kxs_mw "ValueError.__init__" e)) (he : h.get? e = some (PySem.HandSPX.excO C t0)) (hrest : rest.length ≤ sizeLine)
    (hq : ∀ h' t1, (∀ b o, b ≠ e → h.get? b = some o → h'.get? b = some o) → h'.get? e = some (PySem.HandSPX.excO C t1) → Q .none ⟨h', g, d, t, os⟩) :
    wpAny (model prog w) A (call (.ref u) rest) Q E ⟨h, g, d, t, os⟩ := by
  refine wpAny_call (codeAny_of_tree ?_)
  show wpAny _ A.in1 (callAny (.ref u) ⟨rest, []⟩) _ _ _
  simp only [callAny]
  refine wpAny_bind (wpAny_load hu ?_)
  simp only [PySem.W.kxs_mw, show (Value.type "method-wrapper" == Value.type "method" || Value.type "method-wrapper" == Value.type "builtin_function_or_method" || Value.type "method-wrapper" == Value.type "method-wrapper") = true by decide, if_true]
  refine PySem.W.KFB.if_so (by decide) ?_
  refine wpAny_bind (PySem.W.check_bound_init PySem.F.excBase_ValueError.toExcCallFacts hC he rfl ?_)
  refine wpAny_bind (wpAny_pure (wpAny_pure ?_))
  refine ⟨plainId_quiet PySem.F.excBase_ValueError.init.plain _, codeAny_builtin PySem.F.excBase_ValueError.initEntry ?_⟩
  exact PySem.W.exc_init_tree (cls := .ref C) (t0 := t0) (dv := none) (c2 := .none) (c3 := .none) (b4 := .bool false) he hrest fun h' k e1 e2 => hq h' _ k e1
end

/-- what the written part says of such an __init__, at f -/
structure SupFn (P : Program) (K : PySem.W.Frag) (mg : Str → Option Value) (D : Addr) (st : Stmt) (f : Addr) (fd : FuncData) (F : NF) : Prop where
  ex : ∃ (oc : Value) (od : Option Addr) (kV doc pm ct : Value) (an : Option Addr) (osl : Array (Option Value)), fd = PySem.W.fnX F.name F.qual (defArgs st) (defBody st) (defScope st) F.cl .none kV doc pm an (.ref F.c) ct ∧ K.lookup f = some ⟨oc, od, .func fd, osl⟩
  sc : F.scope = defScope st
  cd : PySem.W.codeIn K (.ref F.c) F.qual = true
  file : ∃ (vs : Array Value) (file : Str) (tf : Tok) (ccl : Value) (cdd : Option Addr) (ccs : Array (Option Value)), K.lookup F.c = some ⟨ccl, cdd, .fields vs, ccs⟩ ∧ vs[2]? = some (.str file tf) ∧ ((P.main.file : Str) == file) = true
  cell : ∃ (cc : Addr) (cl : Value) (cld : Option Addr) (csl : Array (Option Value)), F.cl = [(("__class__" : Str), cc)] ∧ K.lookup cc = some ⟨cl, cld, .cell (some (.ref D)), csl⟩
  top : (P.main.scope.names.lookup ("super" : Str)).isSome = false
  sup : mg "super" = none
  opq : PySem.W.nsIn K cStatics "thirdparty.any" = some none
  cls : OexC K D
  ini : PySem.W.ks_superIn K D D "__init__" = some (some (.builtin "ValueError.__init__"))
  ve : PySem.W.subIn K (.ref D) (.type "ValueError") = some true

variable {P : Program} {w : World} {K : PySem.W.Frag} {mg : Str → Option Value} {base : Heap}
theorem sup_ok {CX : CXT} {D f : Addr} {st : Stmt} {fd : FuncData} {F : NF} {N ps : List Str} {k : Nat} {sp : Sp} {p0 p1 p2 p3 p4 p5 : Pos} {m : Str} {j : Nat} {rest : List Stmt} {ar : Arg} (U : SupFn P K mg D st f fd F) (S : NScope N ps ["__class__"] F.scope)
    (hbd : defBody st = .Expr (.Call (.Attribute (.Call (.Name "super" p0) [] [] p1) "__init__" p2) [.Constant (.str m) j p3] [] p4) p5 :: rest)
    (hp : ((defArgs st).posonlyargs ++ (defArgs st).args).head? = some ar) (har : ps[0]? = some ar.arg) (hks : F.scope.names.lookup ("super" : Str) = some .globalImplicit) (len : ∀ vs H Q E, sp vs H Q E → vs.length = ps.length)
    (he : ∀ L : Addr, ∃ pl : Sem Bool, eval (.Call (.Attribute (.Call (.Name "super" p0) [] [] p1) "__init__" p2) [.Constant (.str m) j p3] [] p4) (envF F f L) = (do
      let ov ← attributeBase (.Call (.Name "super" p0) [] [] p1) "__init__" (envF F f L) (eval (.Call (.Name "super" p0) [] [] p1) (envF F f L))
      standAt p2.atName
      let (f1, first) ← holding [ov] (getMethod ov "__init__" pl)
      callWith p4 f1 first (backTo p4 (starEach [.Constant (.str m) j p3] (envF F f L))) []))
    (hin : ∀ L : Addr, interactive (envF F f L) = false) (hsw : ∀ L : Addr, swapsWith (.Call (.Attribute (.Call (.Name "super" p0) [] [] p1) "__init__" p2) [.Constant (.str m) j p3] [] p4) none p5.line (envF F f L) = pure false)
    (hb : ∀ (A : Around) (outer : List Env) (s : Shared) (H : Hp) (vs : List V) (Q : VK) (E : XK), Room k (A.deeper (envF F f s.heap.objs.size)) → sp vs H Q E → ∃ (a : Addr) (ws : List V), vs = .ref a :: ws ∧ H a = some (exo a D none) ∧
      ∃ t, PSs (ncx CX P w K mg base N F f A outer s H E) rest t ∧ t { nx := fun _ H' => Q .non H', rt := Q } (startF N vs [none]) H) : FnOk P w K mg base CX (k + 1) f fd ps sp := by
  refine ⟨len, fun A outer s H args us vs Q E hr e0 hbi r hsp => ?_⟩
  have hl := len _ _ _ _ hsp
  have KX : K.In s.heap := e0.mod.kin.keeps fun b o e => (e0.bs b o e).1
  have lim : s.heap.NoLimit := e0.mod.nolimit.keeps fun b o e => (e0.bs b o e).1
  obtain ⟨oc, od, kV, doc, pm, ct, an, osl, rfl, lk⟩ := U.ex
  obtain ⟨cc, ccl, ccd, ccs, hcl, hcell⟩ := U.cell
  obtain ⟨fvs, file, tf, c1, c2, c3, lkc, hv2, hfile⟩ := U.file
  have T := U.cls
  obtain ⟨nm, q, Nn, bs, bm, sn, sub, ab, col, dd, k0, k1, k2, k3, k5, hC, hbm⟩ := T.cls
  obtain ⟨mb, hmb1, hmb2⟩ := e0.mod.blt
  have hsc := U.sc
  refine PySem.ks_codeAny_call_defAt (body := defBody st) (binds := ps.zip us) hr.depth (KX _ _ lk) rfl lim (PySem.W.codeRec_of KX U.cd) rfl hbi (by rw [← hsc]; exact S.nocell) (fun ⟨n, _⟩ hy => by rw [← hsc]; exact S.par n (List.of_mem_zip hy).1) (fun h₁ hns kp => ?_) (by rw [← hsc]; exact S.co) (by rw [← hsc]; exact S.gen) (by rw [← hsc]; exact S.kind)
  obtain ⟨a, ws, ev, ea, t, ht, hq⟩ := hb A outer s H vs Q E (hr.deeper _) hsp
  have C : CellsAt F.cl ["__class__"] [none] s.heap H := by
    rw [hcl]
    have hcb := e0.bs cc _ (e0.mod.kin _ _ hcell)
    refine ⟨rfl, fun y c e => ?_, fun x y c e1 e2 => ?_, fun i y e => ?_⟩
    · simp only [List.lookup] at e
      split at e <;> cases e
      exact ⟨hcb.2, _, _, hcb.1, rfl⟩
    · simp only [List.lookup] at e1 e2
      split at e1 <;> cases e1
      split at e2 <;> cases e2
      rename_i g1 _ g2
      rw [beq_iff_eq.mp g1, beq_iff_eq.mp g2]
    · cases i with
      | zero =>
        simp at e
        subst e
        exact ⟨cc, by simp [List.lookup], fun v z => by simp at z⟩
      | succ i => simp at e
  have I : Inv (ncx CX P w K mg base N F f A outer s H E) [] (startF N vs [none]) H { s with heap := h₁, toks := s.toks + (ps.zip us).length } := inv_startN S hr.hd e0 hl r C hns kp
  obtain ⟨hp0, g, d, tk, os⟩ := s
  obtain ⟨pl, hev⟩ := he hp0.objs.size
  show PySem.wpAt _ _ (.func (defBody st) (PySem.W.envX F.qual (defScope st) hp0.objs.size f (.ref F.c) F.cl)) (execs (defBody st) (PySem.W.envX F.qual (defScope st) hp0.objs.size f (.ref F.c) F.cl)) _ _ _
  rw [← hsc]
  show PySem.wpAt _ _ _ (execs (defBody st) (envF F f hp0.objs.size)) _ _ _
  rw [hbd]
  refine PySem.ks_wpAt_execs_cons (PySem.ks_wpAt_Expr_any (PySem.ks_wpAt_MethodCall (pl := pl) ?_ hev) (hin _) (hsw _))
  have hcb := e0.mod.kin _ _ hcell
  obtain ⟨m1, hns1, hlook⟩ := I.loc
  refine PySem.ks_wpAt_super_base (env := envF F f hp0.objs.size) hks (S.frk _ (List.mem_singleton.mpr rfl)) rfl rfl (I.kIn _ _ lk) rfl hp rfl (I.kIn _ _ lkc) rfl hv2 hfile U.top ?_
  refine PySem.W.ks_loadName_global S.kind hks (Calls.loadGlobal_builtin (I.mod.glob.keeps I.bk) U.sup (hmb1.keeps I.bk) ((hmb2 "super" (by decide)).trans (by first | exact PyProof.Rows.Boot.«super» | rfl | kernel_rfl)) ⟨rfl, ?_⟩)
  refine wpAny_loadName_free S.kind (S.frk _ (List.mem_singleton.mpr rfl)) (c := cc) (by show F.cl.lookup _ = _; rw [hcl]; rfl) ⟨_, I.kIn _ _ hcell, rfl⟩ ?_
  have hl1 : vs[0]? = some (.ref a) := by rw [ev]; rfl
  obtain ⟨u0, hu0, ru0⟩ := r.get hl1
  cases ru0
  have hself : (ps.zip us).reverse.lookup ar.arg = some (.ref a) := zip_look (by
    have q := S.nd.sublist (List.take_sublist (ps.length + 1) N)
    have q2 := S.pre
    simp only [List.length_cons, List.length_nil] at q2
    rw [q2] at q
    exact (List.nodup_append.mp q).1) har hu0
  refine wpAny_loadName_local S.kind (S.par _ (List.mem_of_getElem? har)) hns hself ?_
  obtain ⟨t1, ho⟩ := exo_at I.hok ea
  have hD1 := I.kIn _ _ hC
  refine PySem.ks_wpAny_isType_cls hD1 rfl ⟨rfl, ?_⟩
  have hsub : PySem.W.mroIn K D (.ref D) = some true := by
    unfold PySem.W.mroIn PySem.W.clsIn
    rw [hC]
    simp
  refine PySem.ks_wpAny_call_super hD1 rfl ho rfl (fun c e => by cases e) (PySem.W.looks_mroIn I.kIn hsub) (fun h' e kp2 => ?_)
  have I2 : Inv (ncx CX P w K mg base N F f A outer ⟨hp0, g, d, tk, os⟩ H E) [] (startF N vs [none]) H ⟨h', g, d, tk + (ps.zip us).length, os⟩ := I.kept (t' := tk + (ps.zip us).length) kp2
  have ho2 := kp2 _ _ ho
  have KX2 : K.In h' := I2.kIn
  have LT : PySem.W.Looks (model P w) h' (typeOf (.ref a)) (.ref D) := fun A Q E s k q => wpAny_typeOf_ref (k _ _ ho2) q
  have hI : PySem.W.Looks (model P w) h' (isInstance (.ref a) (.type "ValueError")) true := LT.andThen (PySem.W.looks_subIn I2.kIn U.ve)
  have haD : a ≠ D := fun z => by
    rw [z] at ho2
    have y := I2.kIn _ _ hC
    rw [ho2] at y
    cases y
  have hini := U.ini
  unfold PySem.W.ks_superIn PySem.W.clsIn at hini
  rw [hC] at hini
  have hci : PySem.W.clsIn K D = some { name := nm, bases := bs, mro := .ref D :: bm, ns := Nn, qualname := q, hasDict := true, slotNames := sn, subclasses := sub, abstract := ab, collection := col, hasDel := false } := by unfold PySem.W.clsIn; rw [hC] <;> rfl
  have hlk : PySem.W.Looks (model P w) h' (mroOf (.ref D)) (.ref D :: bm) := fun A Q E s k q => wpAny_bind ((PySem.W.looks_clsIn KX2 hci) A _ E s k (wpAny_pure q))
  refine PySem.W.kxs_getMethod PySem.W.kxs_ValueError e (PySem.W.looks_opaque KX2 U.opq) hlk rfl KX2 hini hI haD rfl ?_
  have hmw : (h'.push (PySem.W.kxs_mw "ValueError.__init__" a)).get? h'.objs.size = some (PySem.W.kxs_mw "ValueError.__init__" a) := Heap.get?_push_at rfl rfl
  have kp3 : ∀ b o, h'.get? b = some o → (h'.push (PySem.W.kxs_mw "ValueError.__init__" a)).get? b = some o := fun b o z => Heap.get?_push_of_some _ z
  refine PySem.W.kxs_callWith (i := "ValueError.__init__") (x := a) rfl (Calls.evalArgs_plain (spliced_more (wpAny_Constant_str (spliced_none ⟨hmw, ?_⟩))))
  refine bound_init (C := D) (t0 := t1) (kp3 _ _ (KX2 _ _ hC)) hmw (kp3 _ _ ho2) (by show 1 ≤ sizeLine; rw [sizeLine_eq]; omega) (fun h4 t2 kp4 hx => ?_)
  have I3 : Inv (ncx CX P w K mg base N F f A outer ⟨hp0, g, d, tk, os⟩ H E) [] (startF N vs [none]) H ⟨h'.push (PySem.W.kxs_mw "ValueError.__init__" a), g, d, tk + (ps.zip us).length, os⟩ := I2.kept (t' := tk + (ps.zip us).length) kp3
  have J := I3.write (t' := tk + (ps.zip us).length + 1 + 1) (x := a) (e := a) (o := exo a D none) (by rw [ea]; exact True.intro) (.inl rfl) kp4 ⟨_, hx⟩ (exo_ok hx)
  have eu : upd H a (exo a D none) = H := by
    funext b
    by_cases hb : b = a
    · rw [hb, upd_same, ea]
    · rw [upd_ne hb]
  rw [eu] at J
  refine wpAt_of_wpAny (wpAny_mono (ht.run [] _ (startF N vs [none]) H _ J hq) (fun fl s' hs => ?_) fun e s' hs => hs)
  have fin : ∀ {σ' : L2.St} {H' : Hp} {v : V} {u : Value}, Inv (ncx CX P w K mg base N F f A outer ⟨hp0, g, d, tk, os⟩ H E) [] σ' H' s' → L2.RelV v u → Q v H' → CE outer P w H ⟨hp0, g, d, tk, os⟩ Q u s' :=
    fun {σ' H' v u} J rv q => ⟨v, H', J.os, J.bare, J.base, J.hok, rv, q⟩
  cases fl with
  | ret u =>
    obtain ⟨v, σ', H', J, rv, q⟩ := hs
    exact fin J rv q
  | next =>
    obtain ⟨σ', H', J, q⟩ := hs
    exact fin (v := V.non) (u := Value.none) J rfl q
  | brk =>
    obtain ⟨_, _, _, q⟩ := hs
    exact False.elim q
  | cont =>
    obtain ⟨_, _, _, q⟩ := hs
    exact False.elim q
end DL

/-! DLI: exceptions over data. -/
namespace DL
open PySem PySem.Spec PyProof.Rows L2 NdefX

/-! ### C(e, ..): an error made -/
section
variable {X : Cx} {e : Expr} {es : List Expr} {ta : TA} {p pos : Pos}
theorem pmk_oexN {CX : CXT} {x : Str} {C fI : Addr} {k : Nat} {fd : FuncData} {ps : List Str} {sp : Sp} (T : OexC X.K C) (iC : PySem.W.findIn X.K (.ref C) "__init__" = some (some (.ref fI))) (tI : PySem.W.typeIn X.K (.ref fI) = some (.type "function"))
    (F1 : FnOk X.prog X.w X.K X.mg X.base CX k fI fd ps sp) (hr : Room (k + 1) X.A) (hb : Binds X.K fd ps []) (hx : Passes CX X (fun _ _ _ => False)) (hg : Gl X x) (hm : X.mg x = some (.ref C)) (ha : PA X (e :: es) ta)
    (hdb : (x == ("__debug__" : Str)) = false := by decide) (he : starEach (e :: es) X.env = (false, eval e X.env) :: starEach es X.env := by rfl) (hpl : (backTo pos (starEach es X.env)).any (·.1) = false := by rfl) :
    L2N.PMk X (.Call (.Name x p) (e :: es) [] pos) (tMkO C sp [] ta) := by
  intro pins s σ H Q I h
  obtain ⟨nm, q, N, bs, bm, sn, sub, ab, col, dd, k0, k1, k2, k3, k5, hC, hbm⟩ := T.cls
  refine wpAny_Call_Name_kw (ld_glob I hg hm ?_ hdb)
  refine PySem.W.callWith_K (h₀ := X.base) I.ok.mod.kin T.kC (thn (ha.run pos pins s σ H _ I h) fun us s1 ⟨vs, H1, I1, r1, hz, q1⟩ => ⟨I1.kIn, ?_⟩) he hpl
  show wpAny _ _ (call (.ref C) us) _ _ _
  obtain ⟨hp, g, dr, tk, os⟩ := s1
  have hsz : hp.objs.size ≤ hp.objs.size + 1 := Nat.le_succ _
  have hn : H1 (hp.objs.size + 1) = none := I1.hok.fresh hsz
  have hq := q1 (hp.objs.size + 1) hn
  rw [List.append_nil] at hq
  have kk : ∀ b o, hp.get? b = some o → ((hp.push (PySem.W.kdv_tup us)).push (PySem.HandSPX.excO C hp.objs.size)).get? b = some o := fun b o e => Heap.get?_push_of_some _ (Heap.get?_push_of_some _ e)
  have hget : ((hp.push (PySem.W.kdv_tup us)).push (PySem.HandSPX.excO C hp.objs.size)).get? (hp.objs.size + 1) = some (PySem.HandSPX.excO C hp.objs.size) := by heap_get
  have I2 : Inv X pins σ (upd H1 (hp.objs.size + 1) (exo (hp.objs.size + 1) C none)) ⟨(hp.push (PySem.W.kdv_tup us)).push (PySem.HandSPX.excO C hp.objs.size), g, dr, tk, os⟩ :=
    I1.laid (t' := tk) (a := hp.objs.size + 1) (o := exo (hp.objs.size + 1) C none) (h' := (hp.push (PySem.W.kdv_tup us)).push (PySem.HandSPX.excO C hp.objs.size)) kk hsz (exo_ok hget)
  have r2 : Vals (V.ref (hp.objs.size + 1) :: vs) (Value.ref (hp.objs.size + 1) :: us) := .cons rfl r1
  have hl : (Value.ref (hp.objs.size + 1) :: us ++ []).length = ps.length := by
    have e := r2.length
    rw [F1.len _ _ _ _ hq] at e
    rw [List.append_nil]
    exact e.symm
  have hus : us.length ≤ sizeLine := by
    rw [← Paired.length r1, sizeLine_eq]
    omega
  have b2 := hb _ (Value.ref (hp.objs.size + 1) :: us) I2.kIn hl
  rw [List.append_nil] at b2
  refine wpAny_call (PySem.HandSPX.call_own PySem.F.excBase_ValueError (fun Y => PySem.HandSPX.refsVE_contains Y bm hbm) (I1.kIn _ _ hC) (PySem.W.looks_findIn I1.kIn iC) (fun self => PySem.W.bind_fn I1.kIn self tI) hus
    (codeAny_mono (F1.run _ X.stack _ _ ⟨Value.ref (hp.objs.size + 1) :: us, []⟩ (Value.ref (hp.objs.size + 1) :: us) _ _ (fun _ _ _ => False) (hr.make C us []) (I2.env0.make C us []) b2 r2 hq) fun r s' hq' => ?_))
  cases r with
  | error er => exact hx pins σ _ _ er s' I2 hq'
  | ok fl =>
    cases fl with
    | ret u =>
      obtain ⟨v, H2, os2, bare2, un2, hok2, rv, ev, d, fs, ea, ed, hd1, q2⟩ := hq'
      subst ev
      obtain ⟨h2, g2, d2, t2, os'⟩ := s'
      obtain ⟨t0, G, J, kG, ge, hoe, na⟩ := mk_end0 (d2 := d2) (t2 := t2) I1 hsz kk un2 hok2 os2 bare2 ea ed hd1
      refine ⟨rv, hp.objs.size + 1, _, _, ⟨G, g2, d2, t2, os'⟩, _, .ref C, some d, rfl, J, kG, ge, hoe, ⟨rfl, rfl, fun vs hv => ?_⟩, rfl, rfl, na, rfl, bare2, raises_own T.exC T.tyC, q2⟩
      cases hv
      rfl
    | next => exact False.elim hq'
    | brk => exact False.elim hq'
    | cont => exact False.elim hq'
end

/-! ### wishes over data -/
abbrev XD := Value → List (Str × D) → DR → Mu → Prop
def XRel (K : PySem.W.Frag) (B : Gh) (W : WX) (V : XD) : Prop := ∀ cls fs od ρ μ σ H G, Sat K B G ρ μ σ H → XRep K G fs od → V cls fs ρ μ → W cls od σ H
def noV : XD := fun _ _ _ _ => False
theorem XRel.no {K : PySem.W.Frag} {B : Gh} {W : WX} : XRel K B W noV := fun _ _ _ _ _ _ _ _ _ _ h => h.elim
theorem Sat.base {K : PySem.W.Frag} {B G : Gh} {ρ : DR} {μ : Mu} {σ : St} {H : Hp} (S : Sat K B G ρ μ σ H) : Sat K G G ρ μ σ H := ⟨S.hold, ⟨⟨S.env.1.1, Gle.refl G⟩, S.env.2⟩⟩
theorem Sat.under {K : PySem.W.Frag} {B B' G : Gh} {ρ : DR} {μ : Mu} {σ : St} {H : Hp} (S : Sat K B' G ρ μ σ H) (g : Gle B B') : Sat K B G ρ μ σ H := ⟨S.hold, ⟨⟨S.env.1.1, g.trans S.env.1.2⟩, S.env.2⟩⟩
theorem XRel.under {K : PySem.W.Frag} {B B' : Gh} {W : WX} {V : XD} (h : XRel K B W V) (g : Gle B B') : XRel K B' W V := fun cls fs od ρ μ σ H G S x v => h cls fs od ρ μ σ H G (S.under g) x v
theorem EndsR.under {K : PySem.W.Frag} {B B' G : Gh} {E : DEnds} {Dn : Ends} (h : EndsR K B G E Dn) (g : Gle B B') : EndsR K B' G E Dn :=
  ⟨fun ρ' μ' σ' H' G' g' S => h.nx ρ' μ' σ' H' G' g' (S.under g), h.rt, fun ρ' μ' σ' H' G' g' S => h.bk ρ' μ' σ' H' G' g' (S.under g), fun ρ' μ' σ' H' G' g' S => h.ct ρ' μ' σ' H' G' g' (S.under g)⟩
theorem xrep_some {K : PySem.W.Frag} (d : Option Addr) : ∃ G fs, XRep K G fs d := by
  cases d with
  | none => exact ⟨⟨fun _ => none, [], []⟩, [], rfl⟩
  | some a => exact ⟨⟨fun b => if b = a then some (.xd []) else none, [], []⟩, [], [], if_pos rfl, rfl, Reps.nil⟩

/-! ### a call of a def that may raise -/
section
variable {X : Cx} {B : Gh} {W : WX} {V : XD} {pos : Pos} {k : Nat} {f : Addr} {fd : FuncData} {ps : List Str} {S : DSp} {x : Str} {p : Pos} {e : Expr} {es : List Expr} {t : TA} {T : TDA}
def dCallX (V : XD) (S : DSp) (T : TDA) : TDE := fun ρ μ Q => T ρ μ fun ds μ1 => S ds μ1 Q (fun cls fs μ2 => V cls fs ρ μ2)
@[simp ↓] theorem dCallX_p {ρ} {μ} {Q} : dCallX V S T ρ μ Q = (T ρ μ fun ds μ1 => S ds μ1 Q (fun cls fs μ2 => V cls fs ρ μ2)) := id rfl
theorem ref_callX {K : PySem.W.Frag} (xr : XRel K B W V) (h : RefA K B T t) : RefE K B (dCallX V S T) (tCallS (toSp K S) (WE W) t) := fun ρ μ σ H G Q Qn St q hd => h ρ μ σ H G _ _ St q fun ds μ1 vs H1 G1 g1 S1 r1 q1 =>
  ⟨G1, ds, μ1, Q, _, S1.hold, r1, q1, fun d μ' v H' G' g' h' r' q' => hd d μ' v H' G' (g1.trans g') ⟨h', S1.env.mono g'⟩ r' q', fun cls fs μ' od H' G' g' h' x' z => xr cls fs od ρ μ' σ H' G' ⟨h', S1.env.mono g'⟩ x' z⟩
theorem de_callX (F : FnOk X.prog X.w X.K X.mg X.base (L2N.CX X.prog X.w) k f fd ps (toSp X.K S)) (tk : L2N.Takes X W) (xr : XRel X.K B W V) (hr : Room k X.A) (hm : X.mg x = some (.ref f)) (hk : PySem.W.keepIn X.K (.ref f) = true) (hb : Binds X.K fd ps []) (ha : DA X B (e :: es) t T) (hg : Gl X x := by rfl)
    (hdb : (x == ("__debug__" : Str)) = false := by decide) (he : starEach (e :: es) X.env = (false, eval e X.env) :: starEach es X.env := by rfl) (hpl : (backTo pos (starEach es X.env)).any (·.1) = false := by rfl) :
    DE X B (.Call (.Name x p) (e :: es) [] pos) (tCallS (toSp X.K S) (WE W) t) (dCallX V S T) := ⟨pe_callS F hr hg hm hk hb (fun σ => L2N.passAt tk σ) ha.pa hdb he hpl, ref_callX xr ha.ref⟩
end
/-! ### a def that may raise -/
section
variable {P : Program} {w : World} {K : PySem.W.Frag} {mg : Str → Option Value} {base : Heap}
theorem fn_okX {x qual : Str} {st : Stmt} {f : Addr} {fd : FuncData} {N ps : List Str} {k : Nat} {S : DSp} (F : Fun K x qual st f fd) (SC : FnScope N ps (defScope st)) (len : ∀ ds μ Q E, S ds μ Q E → ds.length = ps.length)
    (hb : ∀ (B : Gh) (EE : XDt) (cdv : Value) (A : Around) (outer : List Env) (s : Shared) (H : Hp) (E : XK), Room k (A.deeper (envOfC qual (defScope st) s.heap.objs.size f cdv)) → XRel K B (fun cls d _ H => E cls d H) (fun cls fs _ μ => EE cls fs μ) →
      L2N.Takes (cxOf (L2N.CX P w) P w K mg base N qual (defScope st) f cdv A outer s H E) (fun cls d _ H => E cls d H) → PassesOwn (model P w) (A.deeper (envOfC qual (defScope st) s.heap.objs.size f cdv)) (envOfC qual (defScope st) s.heap.objs.size f cdv) (cxOf (L2N.CX P w) P w K mg base N qual (defScope st) f cdv A outer s H E).xe →
      ∃ t T, DSs (cxOf (L2N.CX P w) P w K mg base N qual (defScope st) f cdv A outer s H E) B (defBody st) t T ∧ ∀ ds μ Q, S ds μ Q EE → T { nx := fun _ μ' => Q .non μ', rt := Q } (startD N ds) μ) :
    FnOk P w K mg base (L2N.CX P w) (k + 1) f fd ps (toSp K S) := by
  obtain ⟨oc, od, kV, doc, pm, an, cdv, ct, osl, rfl, lk, hcd⟩ := F.ex
  refine fn_of lk hcd SC (fun vs H Q E ⟨G, ds, μ, QQ, EE, _, r, s, _⟩ => r.1.trans (len ds μ QQ EE s)) fun A outer s H vs Q E hr ⟨G, ds, μ, QQ, EE, hh, r, sp, q, qe⟩ => ?_
  obtain ⟨t, T, h, b⟩ := hb G EE cdv A outer s H E hr (fun cls fs od ρ μ' σ H' G' S' x v => qe cls fs μ' od H' G' S'.env.1.2 S'.hold x v) (L2N.takes_of rfl rfl rfl rfl) PassesOwn.leaving
  refine ⟨t, h.pss, h.ref (startD N ds) μ (start N vs) H G _ _ ⟨hh, envr_start N r (Gle.refl G)⟩ (b ds μ QQ sp) ⟨?_, ?_, ?_, ?_⟩⟩
  · exact fun ρ' μ' σ' H' G' g S' z => q .non μ' .non H' G' g S'.hold .non z
  · exact fun d μ' v H' G' g S' rv z => q d μ' v H' G' g S' rv z
  · exact fun _ _ _ _ _ _ _ z => z.elim
  · exact fun _ _ _ _ _ _ _ z => z.elim
end

/-! ### raise -/
abbrev QX := Value → List (Str × D) → Mu → Prop
abbrev TDMk := DR → Mu → QX → Prop
def RefMk (K : PySem.W.Frag) (B : Gh) (T : TDMk) (t : St → Hp → XK → Prop) : Prop := ∀ ρ μ σ H G (Q : QX) (Qn : XK), Sat K B G ρ μ σ H → T ρ μ Q → (∀ cls fs od μ' H' G', Gle G G' → Sat K B G' ρ μ' σ H' → XRep K G' fs od → Q cls fs μ' → Qn cls od H') → t σ H Qn
structure DMk (X : Cx) (B : Gh) (e : Expr) (t : St → Hp → XK → Prop) (T : TDMk) : Prop where
  pm : L2N.PMk X e t
  ref : RefMk X.K B T t
section
variable {X : Cx} {B : Gh} {W : WX} {V : XD} {pos : Pos} {e : Expr} {t : St → Hp → XK → Prop} {T : TDMk}
def dRaise (V : XD) (T : TDMk) : TDS := fun _ ρ μ => T ρ μ fun cls fs μ' => V cls fs ρ μ'
@[simp ↓] theorem dRaise_p {E} {ρ} {μ} : dRaise V T E ρ μ = (T ρ μ fun cls fs μ' => V cls fs ρ μ') := id rfl
theorem ds_raise (hc : X.calm = true) (tk : L2N.Takes X W) (xr : XRel X.K B W V) (h : DMk X B e t T) : DS X B (.Raise (some e) none pos) (fun _ σ H => t σ H fun cls d H' => W cls d σ H') (dRaise V T) :=
  ⟨L2N.ps_raise hc tk h.pm, fun ρ μ σ H G E Dn S q hd => h.ref ρ μ σ H G _ _ S q fun cls fs od μ' H' G' g' S' x z => xr cls fs od ρ μ' σ H' G' S' x z⟩
end
/-- what such an __init__ of one field does -/
def initSp (C : Addr) (fl : Str) : Sp := fun vs H Q _ => ∃ a v, vs = [.ref a, v] ∧ H a = some (exo a C none) ∧ ∀ dx, H dx = none → dx ≠ a → Q .non (upd (upd H dx (exd dx [(fl, v)])) a (exo a C (some dx)))
section
variable {X : Cx} {B : Gh} {pos p : Pos} {C fI : Addr} {k : Nat} {fd : FuncData} {x fl : Str} {e : Expr} {t : TA} {T : TDA}
def dErr (C : Addr) (fl : Str) (T : TDA) : TDMk := fun ρ μ Q => T ρ μ fun ds μ1 => match ds with | [d] => Q (.ref C) [(fl, d)] μ1 | _ => False
@[simp ↓] theorem dErr_p {ρ} {μ} {Q : QX} : dErr C fl T ρ μ Q = (T ρ μ fun ds μ1 => match ds with | [d] => Q (.ref C) [(fl, d)] μ1 | _ => False) := id rfl
theorem ref_err {K : PySem.W.Frag} (h : RefA K B T t) : RefMk K B (dErr C fl T) (tMkO C (initSp C fl) [] t) := fun ρ μ σ H G Q Qn S q hd => h ρ μ σ H G _ _ S q fun ds μ1 vs H1 G1 g1 S1 r1 q1 => by
  match ds, q1 with
  | [d], q1 =>
    obtain ⟨v, r, rfl, rv, rr⟩ := r1.cons_inv
    obtain rfl := rr.nil_inv
    refine ⟨by simp, fun a na => ⟨a, v, rfl, upd_same, fun dx n1 ne => ⟨rfl, dx, [(fl, v)], upd_same, by rw [upd_ne ne]; exact upd_same, by rwa [upd_ne ne] at n1, ?_⟩⟩⟩
    rw [upd_ne ne] at n1
    have eH : upd (del (upd (upd (upd H1 a (exo a C none)) dx (exd dx [(fl, v)])) a (exo a C (some dx))) a) dx (.xd [(fl, v)]) = upd H1 dx (.xd [(fl, v)]) := by
      funext b
      by_cases h1 : b = dx
      · subst h1; rw [upd_same, upd_same]
      · rw [upd_ne h1, upd_ne h1]
        by_cases h2 : b = a
        · subst h2; rw [del_same, na]
        · rw [del_ne h2, upd_ne h2, upd_ne h1, upd_ne h2]
    rw [eH]
    have g2 := Gle.frz (o := .xd [(fl, v)]) (S1.hold.free n1).1
    have S2 : Sat K B (G1.frz dx (.xd [(fl, v)])) ρ μ1 σ (upd H1 dx (.xd [(fl, v)])) := ⟨S1.hold.new n1, S1.env.mono g2⟩
    exact hd (.ref C) [(fl, d)] (some dx) μ1 _ _ (g1.trans g2) S2 ⟨[(fl, v)], upd_same, rfl, Reps.one (rv.mono g2)⟩ q1
theorem dm_err (T0 : OexC X.K C) (iC : PySem.W.findIn X.K (.ref C) "__init__" = some (some (.ref fI))) (tI : PySem.W.typeIn X.K (.ref fI) = some (.type "function"))
    (F1 : FnOk X.prog X.w X.K X.mg X.base CX0 k fI fd ["self", fl] (initSp C fl)) (hr : Room (k + 1) X.A) (hb : Binds X.K fd ["self", fl] []) (hm : X.mg x = some (.ref C)) (ha : DA X B [e] t T) (hg : Gl X x := by rfl)
    (hdb : (x == ("__debug__" : Str)) = false := by decide) (he : starEach [e] X.env = (false, eval e X.env) :: starEach [] X.env := by rfl) (hpl : (backTo pos (starEach [] X.env)).any (·.1) = false := by rfl) :
    DMk X B (.Call (.Name x p) [e] [] pos) (tMkO C (initSp C fl) [] t) (dErr C fl T) := ⟨pmk_oexN T0 iC tI F1 hr hb pass0 hg hm ha.pa hdb he hpl, ref_err ha.ref⟩
end

section
variable {P : Program} {w : World} {K : PySem.W.Frag} {mg : Str → Option Value} {base : Heap}
theorem err1_ok {D f : Addr} {st : Stmt} {fd : FuncData} {F : NF} {fl : Str} {k : Nat} {p0 p1 p2 p3 p4 p5 q0 q1 q2 q3 : Pos} {m : Str} {j : Nat} {ar : Arg} (U : SupFn P K mg D st f fd F) (S : NScope ["self", fl, "__class__"] ["self", fl] ["__class__"] F.scope)
    (hbd : defBody st = [.Expr (.Call (.Attribute (.Call (.Name "super" p0) [] [] p1) "__init__" p2) [.Constant (.str m) j p3] [] p4) p5, .Assign [.Attribute (.Name "self" q0) fl q1] (.Name fl q2) q3])
    (hp : ((defArgs st).posonlyargs ++ (defArgs st).args).head? = some ar) (har : ar.arg = "self") (hks : F.scope.names.lookup ("super" : Str) = some .globalImplicit)
    (he : ∀ L : Addr, ∃ pl : Sem Bool, eval (.Call (.Attribute (.Call (.Name "super" p0) [] [] p1) "__init__" p2) [.Constant (.str m) j p3] [] p4) (envF F f L) = (do
      let ov ← attributeBase (.Call (.Name "super" p0) [] [] p1) "__init__" (envF F f L) (eval (.Call (.Name "super" p0) [] [] p1) (envF F f L))
      standAt p2.atName
      let (f1, first) ← holding [ov] (getMethod ov "__init__" pl)
      callWith p4 f1 first (backTo p4 (starEach [.Constant (.str m) j p3] (envF F f L))) []))
    (hin : ∀ L : Addr, interactive (envF F f L) = false) (hsw : ∀ L : Addr, swapsWith (.Call (.Attribute (.Call (.Name "super" p0) [] [] p1) "__init__" p2) [.Constant (.str m) j p3] [] p4) none p5.line (envF F f L) = pure false)
    (hsw2 : ∀ L : Addr, swapsWith (.Name fl q2) (some (.Attribute (.Name "self" q0) fl q1)) q3.line (envF F f L) = pure false) (hno : PySem.W.findIn K (.ref D) fl = some none) (hd1 : (fl == ("__debug__" : Str)) = false) (hd2 : (fl == ("__classdict__" : Str)) = false) :
    FnOk P w K mg base CX0 (k + 1) f fd ["self", fl] (initSp D fl) :=
  sup_ok U S hbd hp (by rw [har]; rfl) hks (fun vs H Q E ⟨a, v, e, _⟩ => by rw [e]; rfl) he hin hsw fun A outer s H vs Q E hr ⟨a, v, ev, ea, q⟩ => by
    subst ev
    refine ⟨a, [v], rfl, ea, _, pss_one (ps_ost (pe_var (i := 0) rfl (.inl (S.par _ (by simp)))) (pe_var (i := 1) rfl (.inl (S.par _ (by simp))) hd1 hd2) (hsw2 _)), ?_⟩
    exact ⟨v, rfl, .ref a, rfl, a, D, rfl, U.cls, hno, .inl ⟨ea, fun dx n1 n2 => q dx n1 n2⟩⟩
end

/-! ### try: .. except X as n: .. -/
theorem EndsR.asS {K : PySem.W.Frag} {B G : Gh} {E : DEnds} {Dn : Ends} (h : EndsR K B G E Dn) (i : Nat) : EndsR K B G { nx := fun ρ μ => E.nx (ρ.set i none) μ, rt := E.rt, bk := fun ρ μ => E.bk (ρ.set i none) μ, ct := fun ρ μ => E.ct (ρ.set i none) μ }
    { nx := fun σ' H' => Dn.nx (σ'.set i none) H', rt := Dn.rt, bk := fun σ' H' => Dn.bk (σ'.set i none) H', ct := fun σ' H' => Dn.ct (σ'.set i none) H' } :=
  ⟨fun ρ' μ' σ' H' G' g S q => h.nx _ μ' _ H' G' g ⟨S.hold, S.env.unset i⟩ q, h.rt, fun ρ' μ' σ' H' G' g S q => h.bk _ μ' _ H' G' g ⟨S.hold, S.env.unset i⟩ q, fun ρ' μ' σ' H' G' g S q => h.ct _ μ' _ H' G' g ⟨S.hold, S.env.unset i⟩ q⟩
/-- an except suite: of the caught error at a, its class, its fields -/
abbrev TDU := Addr → Value → List (Str × D) → TDS
/-- what the clause makes of an error -/
def asV (K : PySem.W.Frag) (c : Value) (i : Nat) (TU : TDU) (V : XD) (E : DEnds) : XD := fun cls fs ρ μ => match PySem.W.exmOne K cls c with
  | some true => ∀ a, μ a = none → TU a cls fs { nx := fun ρ μ => E.nx (ρ.set i none) μ, rt := E.rt, bk := fun ρ μ => E.bk (ρ.set i none) μ, ct := fun ρ μ => E.ct (ρ.set i none) μ } (ρ.set i (some (.ptr a))) μ
  | some false => V cls fs ρ μ
  | none => False
def dTryAs (K : PySem.W.Frag) (c : Value) (i : Nat) (TB : XD → TDS) (TU : TDU) (V : XD) : TDS := fun E ρ μ => TB (asV K c i TU V E) E ρ μ
@[simp ↓] theorem dTryAs_p {K : PySem.W.Frag} {c : Value} {i : Nat} {TB : XD → TDS} {TU : TDU} {V : XD} {E} {ρ} {μ} : dTryAs K c i TB TU V E ρ μ = TB (asV K c i TU V E) E ρ μ := id rfl
theorem asV_yes {K : PySem.W.Frag} {c : Value} {i : Nat} {TU : TDU} {V : XD} {E : DEnds} {cls : Value} {fs : List (Str × D)} {ρ : DR} {μ : Mu} (h : PySem.W.exmOne K cls c = some true) : asV K c i TU V E cls fs ρ μ = ∀ a, μ a = none → TU a cls fs { nx := fun ρ μ => E.nx (ρ.set i none) μ, rt := E.rt, bk := fun ρ μ => E.bk (ρ.set i none) μ, ct := fun ρ μ => E.ct (ρ.set i none) μ } (ρ.set i (some (.ptr a))) μ := by
  unfold asV; rw [h]
theorem asV_no {K : PySem.W.Frag} {c : Value} {i : Nat} {TU : TDU} {V : XD} {E : DEnds} {cls : Value} {fs : List (Str × D)} {ρ : DR} {μ : Mu} (h : PySem.W.exmOne K cls c = some false) : asV K c i TU V E cls fs ρ μ = V cls fs ρ μ := by
  unfold asV; rw [h]
section
variable {X : Cx} {B : Gh} {x n : Str} {c : Value} {i : Nat} {body suite : List Stmt} {b₀ : Stmt} {np pos pos' : Pos} {tb : WX → TS} {ts : Addr → Value → Option Addr → TS} {Wout : WX} {TB : XD → TDS} {TU : TDU} {V : XD}
theorem ds_try_as (hs : X.stack = X.env :: X.outer) (hf : X.env.frame = some X.env.locals) (hN : X.N.Nodup) (hi : X.N[i]? = some n) (hln : X.env.kindOf n = some .local) (hc : Names X x c) (tk : L2N.Takes X Wout) (xr : XRel X.K B Wout V)
    (hb : ∀ (W : WX) (V' : XD) (B' : Gh) (pn : List (Addr × Obj)) (xe : Value → Shared → Prop), Gle B B' → XRel X.K B' W V' → L2N.Takes (X.tr pn xe) W → PassesOwn (model X.prog X.w) X.A X.env xe → DSs (X.tr pn xe) B' body (tb W) (TB V'))
    (hsu : ∀ (a : Addr) (oe : Obj) (cls : Value) (d : Option Addr) (pn : List (Addr × Obj)) (B' : Gh) (fs : List (Str × D)), XRep X.K B' fs d → L2N.Zn cls d oe → (∃ vs, oe.data = .fields vs) → DSs (X.suite a ((a, oe) :: pn)) B' (b₀ :: suite) (ts a cls d) (TU a cls fs)) :
    DS X B (.Try body [.ExceptHandler (some (.Name x np)) (some n) (b₀ :: suite) pos'] [] [] pos) (fun D σ H => tb (wAs X.K c i ts Wout D) D σ H) (dTryAs X.K c i TB TU V) :=
  ⟨L2N.ps_try_as hs hf hN hi hln hc tk (fun W pn xe tk' po => (hb W noV B pn xe (Gle.refl B) XRel.no tk' po).pss) (fun a oe cls d pn hz hd => by
      obtain ⟨B', fs, xrep⟩ := xrep_some (K := X.K) d
      exact (hsu a oe cls d pn B' fs xrep hz hd).pss),
    fun ρ μ σ H G E Dn S q hd => by
      have hgb : Gle B G := S.env.1.2
      have xr2 : XRel X.K G (wAs X.K c i ts Wout Dn) (asV X.K c i TU V E) := fun cls fs od ρ2 μ2 σ2 H2 G2 S2 x2 v2 => by
        unfold asV at v2
        have gg : Gle G G2 := S2.env.1.2
        split at v2
        · next h =>
          refine ⟨true, h, fun _ a na => ?_, fun z => by cases z⟩
          have q2 := v2 a (S2.hold.free na).2.1
          -- an object of this class, as the suite's rule asks for one
          have hz : L2N.Zn cls od ⟨cls, od, .fields #[.none, .none, .none], #[]⟩ := ⟨rfl, rfl, fun vs e => by cases e; rfl⟩
          have D2 := hsu a ⟨cls, od, .fields #[.none, .none, .none], #[]⟩ cls od [] G2 fs x2 hz ⟨_, rfl⟩
          exact D2.ref _ μ2 _ H2 G2 _ _ ⟨S2.hold, (S2.base).env.set (.ptr a) i⟩ q2 (((hd.mono gg).under (hgb.trans gg)).asS i)
        · next h => exact ⟨false, h, fun z => (by cases z), fun _ => xr cls fs od ρ2 μ2 σ2 H2 G2 (S2.under hgb) x2 v2⟩
        · exact v2.elim
      have tk2 : L2N.Takes (X.tr [] (fun e s₁ => wpAny (model X.prog X.w) X.A (noteFrame e X.env) (fun _ s₂ => wpAny (model X.prog X.w) X.A (setFlight e none) (fun _ s₃ => wpAny (model X.prog X.w) X.A (pure ()) (fun _ _ => True) (fun _ _ => True) s₃) (fun _ _ => True) s₂) (fun _ _ => True) s₁)) (wAs X.K c i ts Wout Dn) := fun u s' xx => by
        obtain ⟨a, B1, sI, pins, σ1, H1, cls, d, rfl, I, nb, up, sky, na, os, ag, w1⟩ := xx
        have ok := I.ok.ofTry
        have hfr : X.A.frames = some (X.env :: X.outer) := by rw [ok.frames, hs]
        have sky' : Sky B1 (X.env :: X.outer) a (L2N.Zn cls d) X.env.locals s'.heap := by rw [← hs]; exact sky
        exact L2N.Sky.land L2N.Zn.steady hfr hf sky' fun _ _ _ => wpAny_pure True.intro
      exact (hb _ _ G [] _ hgb xr2 tk2 PassesOwn.looking).ref ρ μ σ H G E Dn S.base q (hd.under hgb)⟩
end

/-! ### within an except suite: why.f, isinstance(why, C) -/
section
variable {X : Cx} {B : Gh} {a C C2 : Addr} {oe : Obj} {cls : Value} {d : Option Addr} {fs : List (Str × D)} {pn : List (Addr × Obj)} {e : Expr} {te : TE} {T : TDE} {pos p p2 : Pos} {n x : Str}
def dXf (a : Addr) (cls : Value) (fs : List (Str × D)) (C : Addr) (n : Str) (T : TDE) : TDE := fun ρ μ Q => T ρ μ fun x μ1 => pS x fun b => b = a ∧ cls = .ref C ∧ oS (fget fs n) fun v => Q v μ1
@[simp ↓] theorem dXf_p {ρ} {μ} {Q} : dXf a cls fs C n T ρ μ Q = (T ρ μ fun x μ1 => pS x fun b => b = a ∧ cls = .ref C ∧ oS (fget fs n) fun v => Q v μ1) := id rfl
theorem de_xf (xr : XRep X.K B fs d) (TC : XfC X.K C) (hno : PySem.W.findIn X.K (.ref C) n = some none) (hz : L2N.Zn cls d oe) (hf : ∃ vs, oe.data = .fields vs) (he : DE (X.suite a ((a, oe) :: pn)) B e te T) (hb : attributeBase e n X.env (eval e X.env) = eval e X.env := by rfl) :
    DE (X.suite a ((a, oe) :: pn)) B (.Attribute e n pos) (tXf a cls d C n te) (dXf a cls fs C n T) :=
  ⟨pe_xf TC hno hz.zc hf he.pe hb, fun ρ μ σ H G Q Qn S q hd => he.ref ρ μ σ H G _ _ S q fun x μ1 v H1 G1 g1 S1 r1 q1 => by
    cases x with
    | ptr b =>
      cases r1
      obtain ⟨rfl, hc, q2⟩ := q1
      rw [oS_eq] at q2
      obtain ⟨dv, e1, q3⟩ := q2
      have x1 := xr.mono S1.env.1.2
      cases d with
      | none => rw [show fs = [] from x1] at e1; cases e1
      | some dd =>
        obtain ⟨fvs, e2, rr⟩ := x1
        obtain ⟨v, l, rv⟩ := (rr.fget n).1 dv e1
        exact ⟨rfl, hc, dd, fvs, v, rfl, S1.hold.fr _ _ e2, l, (hd.mono g1).now S1 rv q3⟩
    | _ => exact False.elim q1⟩
/-- isinstance(why, C2) -/
def rIsEd (K : PySem.W.Frag) (cls : Value) (C a C2 : Addr) (d : Option Addr) : List V → Hp → VK → Prop := fun xs H Q => cls = .ref C ∧ xs = [.ref a, .ref C2] ∧ (∀ dd, d = some dd → ∃ fs, H dd = some (.xd fs)) ∧ ∃ b, PySem.W.kitOne K (.ref C) (.ref C2) = some b ∧ Q (.bl b) H
theorem call_isEd (TC : ExcC X.K C) (hz : Zc cls d oe) (hf : ∃ vs, oe.data = .fields vs) : CallR (X.suite a ((a, oe) :: pn)) (.builtin "isinstance") (rIsEd X.K cls C a C2 d) := by
  intro pins s σ H xs us Q I r h
  obtain ⟨rfl, rfl, hdd, b, e, q⟩ := h
  cases r with
  | cons rx rr =>
    cases rr with
    | cons rt rr =>
      cases rr
      cases rx
      cases rt
      obtain ⟨hget, _⟩ := I.pin (a, oe) (List.mem_append.mpr (.inl List.mem_cons_self))
      obtain ⟨vs, hv⟩ := hf
      have J : ∃ od, PySem.W.InstAt s.heap a oe C od := by
        obtain ⟨oc, odx, oda, osl⟩ := oe
        obtain ⟨h1, h2⟩ := hz
        dsimp only at h1 h2 hv
        subst h1 h2 hv
        cases odx with
        | none => exact ⟨none, hget, rfl, rfl, trivial⟩
        | some dd =>
          obtain ⟨fs, hf⟩ := hdd dd rfl
          obtain ⟨mA, ⟨o, es, ep, ho, _⟩, _⟩ := (show ObjOk X.prog X.w H s.heap dd (.xd fs) from I.hok dd _ hf)
          exact ⟨some o, hget, rfl, rfl, ho⟩
      obtain ⟨od, J⟩ := J
      have hcl : (PySem.W.clsIn X.K C).isSome = true := by
        obtain ⟨cd, hc, _⟩ := PySem.W.any_some TC.hd
        rw [hc]; rfl
      exact PySem.W.kia_one (PySem.W.kitx_exc hcl TC.hg TC.hk TC.hs TC.ha TC.hn TC.ht TC.hm) I.kIn J e (fun z => nomatch z) fun tk => ⟨.bl b, H, I.kept (t' := tk) fun _ _ z => z, rfl, q⟩
def dIsE (K : PySem.W.Frag) (a : Addr) (cls : Value) (C C2 : Addr) (T : TDE) : TDE := fun ρ μ Q => T ρ μ fun x μ1 => pS x fun b => b = a ∧ cls = .ref C ∧ oS (PySem.W.kitOne K (.ref C) (.ref C2)) fun r => Q (.bl r) μ1
@[simp ↓] theorem dIsE_p {K : PySem.W.Frag} {ρ} {μ} {Q} : dIsE K a cls C C2 T ρ μ Q = (T ρ μ fun x μ1 => pS x fun b => b = a ∧ cls = .ref C ∧ oS (PySem.W.kitOne K (.ref C) (.ref C2)) fun r => Q (.bl r) μ1) := id rfl
theorem de_isE (xr : XRep X.K B fs d) (TC : ExcC X.K C) (hz : L2N.Zn cls d oe) (hf : ∃ vs, oe.data = .fields vs) (he : DE (X.suite a ((a, oe) :: pn)) B e te T) (hm : X.mg "isinstance" = none) (hm2 : X.mg x = some (.ref C2)) (hg : Gl X "isinstance" := by rfl) (hg2 : Gl X x := by rfl) (hdb : (x == ("__debug__" : Str)) = false := by decide)
    (h1 : starEach [e, .Name x p2] X.env = (false, eval e X.env) :: starEach [.Name x p2] X.env := by rfl) (h1' : starEach [.Name x p2] X.env = (false, eval (.Name x p2) X.env) :: starEach [] X.env := by rfl) (h2 : (backTo pos (starEach [.Name x p2] X.env)).any (·.1) = false := by rfl) :
    DE (X.suite a ((a, oe) :: pn)) B (.Call (.Name "isinstance" p) [e, .Name x p2] [] pos) (tCB (rIsEd X.K cls C a C2 d) (tCons te (tCons (tC (.ref C2)) tNil))) (dIsE X.K a cls C C2 T) :=
  ⟨pe_callB (X := X.suite a ((a, oe) :: pn)) (call_isEd TC hz.zc hf) hg hm (by decide +kernel) (pa_cons he.pe (pa_cons (pe_glob (X := X.suite a ((a, oe) :: pn)) hg2 hm2 rfl hdb) pa_nil h1') h1) (by decide) (by decide) h1 h2, fun ρ μ σ H G Q Qn S h hd => he.ref ρ μ σ H G _ _ S h fun y μ1 v H1 G1 g1 S1 r1 q1 => by
    cases y with
    | ptr b =>
      cases r1
      obtain ⟨rfl, hc, q2⟩ := q1
      rw [oS_eq] at q2
      obtain ⟨r, e1, q3⟩ := q2
      have x1 := xr.mono S1.env.1.2
      refine ⟨hc, rfl, fun dd hd => ?_, r, e1, (hd.mono g1).now S1 (.bl r) q3⟩
      subst hd
      obtain ⟨fvs, e2, rr⟩ := x1
      exact ⟨fvs, S1.hold.fr _ _ e2⟩
    | _ => exact False.elim q1⟩
end
end DL

/-! DLJ: defs called within an except suite. -/
namespace DL
open PySem PySem.Spec PyProof.Rows L2 NdefX L2H

theorem takes0N {X : Cx} : L2N.Takes X (fun _ _ _ _ => False) := fun _ _ x => by
  obtain ⟨_, _, _, _, _, _, _, _, _, _, _, _, _, _, _, _, z⟩ := x
  exact z.elim
section
variable {P : Program} {w : World} {K : PySem.W.Frag} {mg : Str → Option Value} {base : Heap}
theorem fn_okH {x qual : Str} {st : Stmt} {f : Addr} {fd : FuncData} {N ps : List Str} {k : Nat} {S : DSp} (F : Fun K x qual st f fd) (SC : FnScope N ps (defScope st)) (len : ∀ ds μ Q E, S ds μ Q E → ds.length = ps.length)
    (hb : ∀ (B : Gh) (cdv : Value) (A : Around) (outer : List Env) (s : Shared) (H : Hp) (E : XK) (p : Addr × Obj), RoomH k (A.deeper (envOfC qual (defScope st) s.heap.objs.size f cdv)) → HotC (cxH CX0 P w K mg base N qual (defScope st) f cdv A outer s H E p) →
      ∃ t T, DSs (cxH CX0 P w K mg base N qual (defScope st) f cdv A outer s H E p) B (defBody st) t T ∧ ∀ ds μ Q EE, S ds μ Q EE → T { nx := fun _ μ' => Q .non μ', rt := Q } (startD N ds) μ) : FnH P w K mg base CX0 (k + 1) f fd ps (toSp K S) := by
  obtain ⟨oc, od, kV, doc, pm, an, cdv, ct, osl, rfl, lk, hcd⟩ := F.ex
  refine fn_ofH lk hcd SC (fun vs H Q E ⟨G, ds, μ, QQ, EE, _, r, s, _⟩ => r.1.trans (len ds μ QQ EE s)) fun A outer s H vs Q E p hot hr ⟨G, ds, μ, QQ, EE, hh, r, sp, q, _⟩ => ?_
  obtain ⟨t, T, h, b⟩ := hb G cdv A outer s H E p hr ⟨p, hot, List.mem_singleton.mpr rfl⟩
  refine ⟨t, h.pss, h.ref (startD N ds) μ (start N vs) H G _ _ ⟨hh, envr_start N r (Gle.refl G)⟩ (b ds μ QQ EE sp) ⟨?_, ?_, ?_, ?_⟩⟩
  · exact fun ρ' μ' σ' H' G' g S' z => q .non μ' .non H' G' g S'.hold .non z
  · exact fun d μ' v H' G' g S' rv z => q d μ' v H' G' g S' rv z
  · exact fun _ _ _ _ _ _ _ z => z.elim
  · exact fun _ _ _ _ _ _ _ z => z.elim
def CalledH (P : Program) (w : World) (K : PySem.W.Frag) (mg : Str → Option Value) (base : Heap) (k : Nat) (x : Str) (ps : List Str) (S : DSp) : Prop :=
  ∃ f fd, mg x = some (.ref f) ∧ PySem.W.keepIn K (.ref f) = true ∧ Binds K fd ps [] ∧ FnH P w K mg base CX0 k f fd ps (toSp K S)
theorem DefAt.calledH {k : Nat} {x : Str} {st : Stmt} {ps : List Str} {f : Addr} {fd : FuncData} {S : DSp} (D : DefAt K mg x st ps f fd) (F : FnH P w K mg base CX0 k f fd ps (toSp K S)) : CalledH P w K mg base k x ps S := ⟨f, fd, D.m, D.F.kp, D.b, F⟩
theorem FnH.mono {CX : CXT} {j k : Nat} {f : Addr} {fd : FuncData} {ps : List Str} {sp : Sp} (F : FnH P w K mg base CX j f fd ps sp) (h : j ≤ k) : FnH P w K mg base CX k f fd ps sp := ⟨F.len, fun A outer s H args us vs Q E p hr => F.run A outer s H args us vs Q E p (hr.mono h)⟩
end
section
variable {X : Cx} {B : Gh} {pos : Pos} {k : Nat} {f : Addr} {fd : FuncData} {ps : List Str} {S : DSp} {x : Str} {p : Pos} {e : Expr} {es : List Expr} {t : TA} {T : TDA}
theorem ref_callH {K : PySem.W.Frag} (h : RefA K B T t) : RefE K B (dCall S T) (tCallS (toSp K S) (fun _ => E0) t) := fun ρ μ σ H G Q Qn St q hd => h ρ μ σ H G _ _ St q fun ds μ1 vs H1 G1 g1 S1 r1 q1 =>
  ⟨G1, ds, μ1, Q, noX, S1.hold, r1, q1, fun d μ' v H' G' g' h' r' q' => hd d μ' v H' G' (g1.trans g') ⟨h', S1.env.mono g'⟩ r' q', fun _ _ _ _ _ _ _ _ _ z => z.elim⟩
theorem de_callH (F : FnH X.prog X.w X.K X.mg X.base CX0 k f fd ps (toSp X.K S)) (hr : RoomH k X.A) (hc : HotC X) (hm : X.mg x = some (.ref f)) (hk : PySem.W.keepIn X.K (.ref f) = true) (hb : Binds X.K fd ps []) (ha : DA X B (e :: es) t T) (hg : Gl X x := by rfl)
    (hdb : (x == ("__debug__" : Str)) = false := by decide) (he : starEach (e :: es) X.env = (false, eval e X.env) :: starEach es X.env := by rfl) (hpl : (backTo pos (starEach es X.env)).any (·.1) = false := by rfl) :
    DE X B (.Call (.Name x p) (e :: es) [] pos) (tCallS (toSp X.K S) (fun _ => E0) t) (dCall S T) := ⟨pe_callH F hr hc hg hm hk hb (fun σ _ _ _ _ _ _ h => h.elim) ha.pa hdb he hpl, ref_callH ha.ref⟩
theorem do_eqH (hr : RoomH k X.A) : OpR X (compareOp .Eq) (rEqA X.K) ∧ Ref2 X.K B opEq (rEqA X.K) := ⟨op_eq.or (op_eqD (by have := hr.un; omega)), ref_eq⟩
theorem do_neH (hr : RoomH k X.A) : OpR X (compareOp .NotEq) (rNeA X.K) ∧ Ref2 X.K B opNe (rNeA X.K) := ⟨op_ne.or (op_neD (by have := hr.un; omega)), ref_ne⟩
structure DIH (X : Cx) (B : Gh) (tg e : Expr) (i : TI) (I : TDI) : Prop where
  pi : PIH X tg e i
  ref : RefI X.K B I i
theorem ds_forH {tg iter : Expr} {body : List Stmt} {i : TI} {I : TDI} {g : TG} {U : TDG} {t : TS} {T : TDS} (hp : PassesOwn (model X.prog X.w) X.A X.env X.xe) (hc : HotC X) (hi : DIH X B tg iter i I) (hg : DG X B tg g U) (hb : DSs X B body t T)
    (hs : ∀ x, foldedSetIterable iter X.env x = pure x := by intro _; rfl) : DS X B (.For tg iter body [] pos) (tFor i g t) (dFor I U T) := ⟨ps_forH hp hc hi.pi hg.pg hb.pss hs, ref_for hi.ref hg.ref hb.ref⟩
theorem di_range1H {a : Expr} {ta : TA} {T : TDA} {tg : Expr} {p : Pos} (hg : Gl X "range") (hm : X.mg "range" = none) (ha : DA X B [a] ta T) (hs : starEach [a] X.env = [(false, eval a X.env)] := by rfl) : DIH X B tg (.Call (.Name "range" p) [a] [] pos) (iRng1 ta) (iRg1 T) :=
  ⟨pi_range1H hg hm ha.pa hs, (di_range1 (X := X) (tg := tg) (pos := pos) (p := p) hg hm ha hs).ref⟩
/-- an except suite is hot -/
theorem hot_suite {a : Addr} {oe : Obj} {cls : Value} {d : Option Addr} {pn : List (Addr × Obj)} (hz : L2N.Zn cls d oe) (hf : ∃ vs, oe.data = .fields vs) : HotC (X.suite a ((a, oe) :: pn)) := by
  obtain ⟨vs, h⟩ := hf
  exact ⟨(a, oe), ⟨rfl, vs, h, hz.2.2 vs h⟩, List.mem_cons_self⟩
theorem roomH_suite {a : Addr} {pn : List (Addr × Obj)} (hr : Room k X.A) : RoomH k (X.suite a pn).A := roomH_mark hr _
end
end DL

/-! DLK: comprehensions of two fors. -/
namespace DL
open PySem PySem.Spec PyProof.Rows L2
theorem ref_in {K : PySem.W.Frag} {I1 : TDI} {i1 : TI} {g1 : TDG} {gn1 : TG} {tt1 : TDT} {ttn1 : TT} {te : TDE} {ten : TE} {vs1 : List Nat} {p : Addr} (hi : RefI K B I1 i1) (hg : RefG K B g1 gn1) (hk : KeepG gn1 vs1) (ht : RefT K B tt1 ttn1) (he : RefE K B te ten)
    {ρ : DR} {μ : Mu} {σ : St} {H : Hp} {G : Gh} {Q : Mu → Prop} {Nx : Hp → Prop} (S : Sat K B G ρ μ σ H) (h : I1 ρ μ fun ys μ1 => compL g1 tt1 te p (wipeD ρ vs1) Q ys μ1) (hd : ∀ μ' H' G', Gle G G' → Hold K G' μ' H' → Q μ' → Nx H') :
    i1 σ H fun J1 H4 => ∃ W1 : Nat → Nat → Hp → Prop, (∃ m, W1 0 m H4) ∧ ∀ j k H, W1 j k H →
      (J1.stop j H ∧ Nx H) ∨ (J1.go j H ∧ ∃ Nx1 : Hp → Prop, (∀ H', Nx1 H' → ∃ k', k' < k ∧ W1 (j + 1) k' H') ∧ ∀ x H', J1.yld j H x H' → gn1 x (L2.wipe σ vs1) H' fun σ3 H5 => L2.wipe σ3 vs1 = L2.wipe σ vs1 ∧ ttn1 σ3 H5 fun b H6 =>
        if b = true then ten σ3 H6 fun y H7 => ∃ acc, H7 p = some (.lst acc) ∧ acc.length < sizeLine ∧ Nx1 (upd H7 p (.lst (acc ++ [y]))) else Nx1 H6) := by
  refine hi ρ μ σ H G _ _ S h fun xs μ1 J H1 G1 g1' S1 q1 hgo hy => ?_
  refine ⟨fun n m H' => m = xs.length - n ∧ n ≤ xs.length ∧ ∃ G' μ', Gle G1 G' ∧ Hold K G' μ' H' ∧ compL g1 tt1 te p (wipeD ρ vs1) Q (xs.drop n) μ', ⟨xs.length, by simp, Nat.zero_le _, G1, _, Gle.refl _, S1.hold, by simpa using q1⟩, ?_⟩
  rintro n m H' ⟨rfl, hn, G', μ', g2, S2, q3⟩
  by_cases hlt : n < xs.length
  · refine .inr ⟨(hgo n H' G' μ' g2 S2).1 hlt, fun H3 => ∃ G3 μ3, Gle G1 G3 ∧ Hold K G3 μ3 H3 ∧ compL g1 tt1 te p (wipeD ρ vs1) Q (xs.drop (n + 1)) μ3, ?_, ?_⟩
    · rintro H3 ⟨G3, μ3, g3, S3, q4⟩
      exact ⟨xs.length - (n + 1), by omega, rfl, hlt, G3, μ3, g3, S3, q4⟩
    · intro v H2 yv
      obtain ⟨G2, g3, h2, rv⟩ := hy n xs[n] v H' H2 G' μ' g2 S2 (List.getElem?_eq_getElem hlt) yv
      rw [List.drop_eq_getElem_cons hlt] at q3
      have S3 : Sat K B G2 (wipeD ρ vs1) μ' (L2.wipe σ vs1) H2 := ⟨h2, (((S1.env.mono g2).mono g3).wipe vs1)⟩
      have q4 := hg xs[n] v (wipeD ρ vs1) μ' (L2.wipe σ vs1) H2 G2 _ (fun σ2 H3 => ttn1 σ2 H3 fun b H3 => if b = true then ten σ2 H3 fun y H4 => ∃ acc, H4 p = some (.lst acc) ∧ acc.length < sizeLine ∧ (∃ G3 μ3, Gle G1 G3 ∧ Hold K G3 μ3 (upd H4 p (.lst (acc ++ [y]))) ∧ compL g1 tt1 te p (wipeD ρ vs1) Q (xs.drop (n + 1)) μ3) else ∃ G3 μ3, Gle G1 G3 ∧ Hold K G3 μ3 H3 ∧ compL g1 tt1 te p (wipeD ρ vs1) Q (xs.drop (n + 1)) μ3) S3 rv q3 fun ρ4 μ4 σ4 H4 G4 g4 S4 q4 => by
        refine ht ρ4 μ4 σ4 H4 G4 _ _ S4 q4 fun b μ5 H5 G5 g5 S5 q5 => ?_
        cases b with
        | true =>
          refine he ρ4 μ5 σ4 H5 G5 _ _ S5 q5 fun d μ6 v6 H6 G6 g6 S6 r6 q6 => ?_
          obtain ⟨acc, e, l, q6⟩ := q6
          obtain ⟨ws, h1, rr⟩ := S6.hold.lstAt e
          exact ⟨ws, h1, by rw [rr.1]; exact l, G6, _, (((g2.trans g3).trans g4).trans g5).trans g6, S6.hold.cellSet e (show CellR K G6 (.lst (ws ++ [v6])) (.lst (acc ++ [d])) from rr.append (Reps.one r6)), q6⟩
        | false => exact ⟨G5, μ5, ((g2.trans g3).trans g4).trans g5, S5.hold, q5⟩
      have q5 := hk v (L2.wipe σ vs1) H2 _ q4
      rw [wipe_wipe] at q5
      exact q5
  · have e : n = xs.length := by omega
    subst e
    rw [List.drop_length] at q3
    exact .inl ⟨(hgo _ H' G' μ' g2 S2).2 (Nat.le_refl _), hd μ' H' G' (g1'.trans g2) S2 q3⟩
def comp2L (g : TDG) (tt : TDT) (I1 : TDI) (g1 : TDG) (tt1 : TDT) (te : TDE) (vs1 : List Nat) (p : Addr) (ρ0 : DR) (Q : Mu → Prop) : List D → Mu → Prop
  | [], μ => Q μ
  | x :: r, μ => g x ρ0 μ fun ρ2 μ2 => tt ρ2 μ2 fun b μ3 => if b = true then I1 ρ2 μ3 fun ys μ4 => compL g1 tt1 te p (wipeD ρ2 vs1) (comp2L g tt I1 g1 tt1 te vs1 p ρ0 Q r) ys μ4 else comp2L g tt I1 g1 tt1 te vs1 p ρ0 Q r μ3
def dLc2 (c : Bool) (I : TDI) (g : TDG) (tt : TDT) (I1 : TDI) (g1 : TDG) (tt1 : TDT) (te : TDE) (vs vs1 : List Nat) : TDE := fun ρ μ Q => I ρ μ fun xs μ1 => ∀ p, μ1 p = none → comp2L g tt I1 g1 tt1 te vs1 p (wipeD ρ vs) (fun μ2 => endL c p μ2 Q) xs (mup μ1 p (.lst []))
@[simp ↓] theorem dLc2_p {c : Bool} {I : TDI} {g : TDG} {tt : TDT} {I1 : TDI} {g1 : TDG} {tt1 : TDT} {te : TDE} {vs vs1 : List Nat} {ρ} {μ} {Q} : dLc2 c I g tt I1 g1 tt1 te vs vs1 ρ μ Q = (I ρ μ fun xs μ1 => ∀ p, μ1 p = none → comp2L g tt I1 g1 tt1 te vs1 p (wipeD ρ vs) (fun μ2 => endL c p μ2 Q) xs (mup μ1 p (.lst []))) := id rfl
theorem ref_lc2 {K : PySem.W.Frag} {c : Bool} {I I1 : TDI} {i i1 : TI} {g g1 : TDG} {gn gn1 : TG} {tt tt1 : TDT} {ttn ttn1 : TT} {te : TDE} {ten : TE} {vs vs1 : List Nat} (hi : RefI K B I i) (hg : RefG K B g gn) (hk : KeepG gn vs) (ht : RefT K B tt ttn)
    (hi1 : RefI K B I1 i1) (hg1 : RefG K B g1 gn1) (hk1 : KeepG gn1 vs1) (ht1 : RefT K B tt1 ttn1) (he : RefE K B te ten) : RefE K B (dLc2 c I g tt I1 g1 tt1 te vs vs1) (tLc2 i gn ttn i1 gn1 ttn1 ten vs vs1) := fun ρ μ σ H G Q Qn S h hd => by
  refine hi ρ μ σ H G _ _ S h fun xs μ1 J H1 G1 g1' S1 q1 hgo hy => ?_
  intro p np
  have hc1 : Hold K G1 (mup μ1 p (.lst [])) (upd H1 p (.lst [])) := S1.hold.cellNew np (show CellR K G1 (.lst []) (.lst []) from Reps.nil)
  have q2 := q1 p (S1.hold.free np).2.1
  refine ⟨fun n m H' => m = xs.length - n ∧ n ≤ xs.length ∧ ∃ G' μ', Gle G1 G' ∧ Hold K G' μ' H' ∧ comp2L g tt I1 g1 tt1 te vs1 p (wipeD ρ vs) (fun μ2 => endL c p μ2 Q) (xs.drop n) μ', ⟨xs.length, by simp, Nat.zero_le _, G1, _, Gle.refl _, hc1, by simpa using q2⟩, ?_⟩
  rintro n m H' ⟨rfl, hn, G', μ', g2, S2, q3⟩
  by_cases hlt : n < xs.length
  · refine .inr ⟨(hgo n H' G' μ' g2 S2).1 hlt, fun H3 => ∃ G3 μ3, Gle G1 G3 ∧ Hold K G3 μ3 H3 ∧ comp2L g tt I1 g1 tt1 te vs1 p (wipeD ρ vs) (fun μ2 => endL c p μ2 Q) (xs.drop (n + 1)) μ3, ?_, ?_⟩
    · rintro H3 ⟨G3, μ3, g3, S3, q4⟩
      exact ⟨xs.length - (n + 1), by omega, rfl, hlt, G3, μ3, g3, S3, q4⟩
    · intro v H2 yv
      obtain ⟨G2, g3, h2, rv⟩ := hy n xs[n] v H' H2 G' μ' g2 S2 (List.getElem?_eq_getElem hlt) yv
      rw [List.drop_eq_getElem_cons hlt] at q3
      have S3 : Sat K B G2 (wipeD ρ vs) μ' (L2.wipe σ vs) H2 := ⟨h2, (((S1.env.mono g2).mono g3).wipe vs)⟩
      have q4 := hg xs[n] v (wipeD ρ vs) μ' (L2.wipe σ vs) H2 G2 _ (fun σ2 H3 => ttn σ2 H3 fun b H3 => if b = true then i1 σ2 H3 fun J1 H4 => ∃ W1 : Nat → Nat → Hp → Prop, (∃ m, W1 0 m H4) ∧ ∀ j k H, W1 j k H →
      (J1.stop j H ∧ (∃ G3 μ3, Gle G1 G3 ∧ Hold K G3 μ3 H ∧ comp2L g tt I1 g1 tt1 te vs1 p (wipeD ρ vs) (fun μ2 => endL c p μ2 Q) (xs.drop (n + 1)) μ3)) ∨ (J1.go j H ∧ ∃ Nx1 : Hp → Prop, (∀ H', Nx1 H' → ∃ k', k' < k ∧ W1 (j + 1) k' H') ∧ ∀ x H', J1.yld j H x H' → gn1 x (L2.wipe σ2 vs1) H' fun σ3 H5 => L2.wipe σ3 vs1 = L2.wipe σ2 vs1 ∧ ttn1 σ3 H5 fun b H6 =>
        if b = true then ten σ3 H6 fun y H7 => ∃ acc, H7 p = some (.lst acc) ∧ acc.length < sizeLine ∧ Nx1 (upd H7 p (.lst (acc ++ [y]))) else Nx1 H6) else ∃ G3 μ3, Gle G1 G3 ∧ Hold K G3 μ3 H3 ∧ comp2L g tt I1 g1 tt1 te vs1 p (wipeD ρ vs) (fun μ2 => endL c p μ2 Q) (xs.drop (n + 1)) μ3) S3 rv q3 fun ρ4 μ4 σ4 H4 G4 g4 S4 q4 => by
        refine ht ρ4 μ4 σ4 H4 G4 _ _ S4 q4 fun b μ5 H5 G5 g5 S5 q5 => ?_
        cases b with
        | true => exact ref_in hi1 hg1 hk1 ht1 he S5 q5 fun μ6 H6 G6 g6 S6 q6 => ⟨G6, μ6, (((g2.trans g3).trans g4).trans g5).trans g6, S6, q6⟩
        | false => exact ⟨G5, μ5, ((g2.trans g3).trans g4).trans g5, S5.hold, q5⟩
      have q5 := hk v (L2.wipe σ vs) H2 _ q4
      rw [wipe_wipe] at q5
      exact q5
  · have e : n = xs.length := by omega
    subst e
    rw [List.drop_length] at q3
    exact .inl ⟨(hgo _ H' G' μ' g2 S2).2 (Nat.le_refl _), endL_go q3 ⟨S2, S1.env.mono g2⟩ (hd.mono (g1'.trans g2))⟩
section
variable {X : Cx} {pos : Pos}
theorem ds_setLc2 (c : Bool) (i : Nat) {y : Str} {py : Pos} {elt tg iter tg1 iter1 : Expr} {ifs ifs1 : List Expr} {scope : Scope} {own : List (Str × Nat)} {vs1 : List Nat} {spos : Pos} {wi wi1 : TI} {I I1 : TDI} {g g1 : TG} {U U1 : TDG} {tt tt1 : TT} {Tt Tt1 : TDT} {te : TE} {Te : TDE} (hc : X.calm = true) (hN : X.N.Nodup) (hy : X.N[i]? = some y) (hyl : X.env.scope.names.lookup y = some .local)
    (hsw : swapsWith (.ListComp elt [⟨tg, iter, ifs, 0⟩, ⟨tg1, iter1, ifs1, 0⟩] scope pos) (some (.Name y py)) spos.line X.env = pure true) (hi : DI X B tg iter wi I) (ok : BlkOk X.N X.env.scope scope own) (hv : ∀ i ∈ vs1, i ∈ own.map (·.2))
    (hg : ∀ (s : Shared) (H : Hp) (C : Addr) (cl : List (Str × Addr)) (fp : List Addr), DG (X.blk s H scope (compEnvC scope cl C X.env) fp) B tg g U) (hk : KeepG g (own.map (·.2))) (ht : ∀ (s : Shared) (H : Hp) (C : Addr) (cl : List (Str × Addr)) (fp : List Addr), DTs (X.blk s H scope (compEnvC scope cl C X.env) fp) B ifs tt Tt)
    (hi1 : ∀ (s : Shared) (H : Hp) (C : Addr) (cl : List (Str × Addr)) (fp : List Addr), DI (X.blk s H scope (compEnvC scope cl C X.env) fp) B tg1 iter1 wi1 I1)
    (hg1 : ∀ (s : Shared) (H : Hp) (C : Addr) (cl : List (Str × Addr)) (fp : List Addr), DG (X.blk s H scope (compEnvC scope cl C X.env) fp) B tg1 g1 U1) (hk1 : KeepG g1 vs1) (ht1 : ∀ (s : Shared) (H : Hp) (C : Addr) (cl : List (Str × Addr)) (fp : List Addr), DTs (X.blk s H scope (compEnvC scope cl C X.env) fp) B ifs1 tt1 Tt1)
    (he : ∀ (s : Shared) (H : Hp) (C : Addr) (cl : List (Str × Addr)) (fp : List Addr), DE (X.blk s H scope (compEnvC scope cl C X.env) fp) B elt te Te) (hs : ∀ x, foldedSetIterable iter X.env x = pure x := by intro _; rfl) (hs1 : ∀ env x, foldedSetIterable iter1 env x = pure x := by intro _ _; rfl) :
    DS X B (.Assign [.Name y py] (.ListComp elt [⟨tg, iter, ifs, 0⟩, ⟨tg1, iter1, ifs1, 0⟩] scope pos) spos) (tAsg (tLc2 wi g tt wi1 g1 tt1 te (own.map (·.2)) vs1) (gName i)) (dAsg (dLc2 c I U Tt I1 U1 Tt1 Te (own.map (·.2)) vs1) (dgName i)) :=
  ⟨ps_setLc2 hc hN hy hyl hsw hi.pi ok hv (fun s H C cl fp => (hg s H C cl fp).pg) (fun s H C cl fp => (ht s H C cl fp).pts) (fun s H C cl fp => (hi1 s H C cl fp).pi) (fun s H C cl fp => (hg1 s H C cl fp).pg) (fun s H C cl fp => (ht1 s H C cl fp).pts) (fun s H C cl fp => (he s H C cl fp).pe) hs hs1,
    ref_asg (ref_lc2 hi.ref (hg X.s_0 X.H_0 0 [] []).ref hk (ht X.s_0 X.H_0 0 [] []).ref (hi1 X.s_0 X.H_0 0 [] []).ref (hg1 X.s_0 X.H_0 0 [] []).ref hk1 (ht1 X.s_0 X.H_0 0 [] []).ref (he X.s_0 X.H_0 0 [] []).ref) (fun d v ρ μ σ H G Q Qn S r h hd => hd _ μ _ H G (Gle.refl G) ⟨S.hold, S.env.set r i⟩ h)⟩
theorem de_lc2 (c : Bool) {elt tg iter tg1 iter1 : Expr} {ifs ifs1 : List Expr} {scope : Scope} {own : List (Str × Nat)} {vs1 : List Nat} {wi wi1 : TI} {I I1 : TDI} {g g1 : TG} {U U1 : TDG} {tt tt1 : TT} {Tt Tt1 : TDT} {te : TE} {Te : TDE} (hc : X.calm = true) (hN : X.N.Nodup) (hi : DI X B tg iter wi I) (ok : BlkOk X.N X.env.scope scope own) (hv : ∀ i ∈ vs1, i ∈ own.map (·.2))
    (hg : ∀ (s : Shared) (H : Hp) (C : Addr) (cl : List (Str × Addr)) (fp : List Addr), DG (X.blk s H scope (compEnvC scope cl C X.env) fp) B tg g U) (hk : KeepG g (own.map (·.2))) (ht : ∀ (s : Shared) (H : Hp) (C : Addr) (cl : List (Str × Addr)) (fp : List Addr), DTs (X.blk s H scope (compEnvC scope cl C X.env) fp) B ifs tt Tt)
    (hi1 : ∀ (s : Shared) (H : Hp) (C : Addr) (cl : List (Str × Addr)) (fp : List Addr), DI (X.blk s H scope (compEnvC scope cl C X.env) fp) B tg1 iter1 wi1 I1)
    (hg1 : ∀ (s : Shared) (H : Hp) (C : Addr) (cl : List (Str × Addr)) (fp : List Addr), DG (X.blk s H scope (compEnvC scope cl C X.env) fp) B tg1 g1 U1) (hk1 : KeepG g1 vs1) (ht1 : ∀ (s : Shared) (H : Hp) (C : Addr) (cl : List (Str × Addr)) (fp : List Addr), DTs (X.blk s H scope (compEnvC scope cl C X.env) fp) B ifs1 tt1 Tt1)
    (he : ∀ (s : Shared) (H : Hp) (C : Addr) (cl : List (Str × Addr)) (fp : List Addr), DE (X.blk s H scope (compEnvC scope cl C X.env) fp) B elt te Te) (hs : ∀ x, foldedSetIterable iter X.env x = pure x := by intro _; rfl) (hs1 : ∀ env x, foldedSetIterable iter1 env x = pure x := by intro _ _; rfl) :
    DE X B (.ListComp elt [⟨tg, iter, ifs, 0⟩, ⟨tg1, iter1, ifs1, 0⟩] scope pos) (tLc2 wi g tt wi1 g1 tt1 te (own.map (·.2)) vs1) (dLc2 c I U Tt I1 U1 Tt1 Te (own.map (·.2)) vs1) :=
  ⟨pe_lc2 hc hN hi.pi ok hv (fun s H C cl fp => (hg s H C cl fp).pg) (fun s H C cl fp => (ht s H C cl fp).pts) (fun s H C cl fp => (hi1 s H C cl fp).pi) (fun s H C cl fp => (hg1 s H C cl fp).pg) (fun s H C cl fp => (ht1 s H C cl fp).pts) (fun s H C cl fp => (he s H C cl fp).pe) hs hs1,
    ref_lc2 hi.ref (hg X.s_0 X.H_0 0 [] []).ref hk (ht X.s_0 X.H_0 0 [] []).ref (hi1 X.s_0 X.H_0 0 [] []).ref (hg1 X.s_0 X.H_0 0 [] []).ref hk1 (ht1 X.s_0 X.H_0 0 [] []).ref (he X.s_0 X.H_0 0 [] []).ref⟩
theorem ds_setLc2A (c : Bool) (i : Nat) {y : Str} {py : Pos} {elt tg iter tg1 iter1 : Expr} {ifs ifs1 : List Expr} {scope : Scope} {own : List (Str × Nat)} {vs1 : List Nat} {spos : Pos} {wi wi1 : TI} {wi1' : Fam TI} {I I1 : TDI} {g g1 : TG} {U U1 : TDG} {tt tt1 : TT} {tt' tt1' : Fam TT} {Tt Tt1 : TDT} {te : TE} {te' : Fam TE} {Te : TDE} (hc : X.calm = true) (hN : X.N.Nodup) (hy : X.N[i]? = some y) (hyl : X.env.scope.names.lookup y = some .local)
    (hsw : swapsWith (.ListComp elt [⟨tg, iter, ifs, 0⟩, ⟨tg1, iter1, ifs1, 0⟩] scope pos) (some (.Name y py)) spos.line X.env = pure true) (hi : DI X B tg iter wi I) (ok : BlkOk X.N X.env.scope scope own) (hv : ∀ i ∈ vs1, i ∈ own.map (·.2))
    (hg : ∀ (s : Shared) (H : Hp) (C : Addr) (cl : List (Str × Addr)) (fp : List Addr), DG (X.blk s H scope (compEnvC scope cl C X.env) fp) B tg g U) (hk : KeepG g (own.map (·.2))) (ht : ∀ (s : Shared) (H : Hp) (C : Addr) (cl : List (Str × Addr)) (fp : List Addr), DTs (X.blk s H scope (compEnvC scope cl C X.env) fp) B ifs (tt' s H C cl fp) Tt)
    (hi1 : ∀ (s : Shared) (H : Hp) (C : Addr) (cl : List (Str × Addr)) (fp : List Addr), DI (X.blk s H scope (compEnvC scope cl C X.env) fp) B tg1 iter1 (wi1' s H C cl fp) I1)
    (hg1 : ∀ (s : Shared) (H : Hp) (C : Addr) (cl : List (Str × Addr)) (fp : List Addr), DG (X.blk s H scope (compEnvC scope cl C X.env) fp) B tg1 g1 U1) (hk1 : KeepG g1 vs1) (ht1 : ∀ (s : Shared) (H : Hp) (C : Addr) (cl : List (Str × Addr)) (fp : List Addr), DTs (X.blk s H scope (compEnvC scope cl C X.env) fp) B ifs1 (tt1' s H C cl fp) Tt1)
    (he : ∀ (s : Shared) (H : Hp) (C : Addr) (cl : List (Str × Addr)) (fp : List Addr), DE (X.blk s H scope (compEnvC scope cl C X.env) fp) B elt (te' s H C cl fp) Te) (e0 : tt' = fun _ _ _ _ _ => tt := by (first | rfl | (simp only [Cx.blk]; rfl))) (e1 : wi1' = fun _ _ _ _ _ => wi1 := by (first | rfl | (simp only [Cx.blk]; rfl))) (e2 : tt1' = fun _ _ _ _ _ => tt1 := by (first | rfl | (simp only [Cx.blk]; rfl))) (e3 : te' = fun _ _ _ _ _ => te := by (first | rfl | (simp only [Cx.blk]; rfl))) (hs : ∀ x, foldedSetIterable iter X.env x = pure x := by intro _; rfl) (hs1 : ∀ env x, foldedSetIterable iter1 env x = pure x := by intro _ _; rfl) :
    DS X B (.Assign [.Name y py] (.ListComp elt [⟨tg, iter, ifs, 0⟩, ⟨tg1, iter1, ifs1, 0⟩] scope pos) spos) (tAsg (tLc2 wi g tt wi1 g1 tt1 te (own.map (·.2)) vs1) (gName i)) (dAsg (dLc2 c I U Tt I1 U1 Tt1 Te (own.map (·.2)) vs1) (dgName i)) := by
  subst e0; subst e1; subst e2; subst e3
  exact ds_setLc2 c i hc hN hy hyl hsw hi ok hv hg hk ht hi1 hg1 hk1 ht1 he hs hs1
theorem de_lc2A (c : Bool) {elt tg iter tg1 iter1 : Expr} {ifs ifs1 : List Expr} {scope : Scope} {own : List (Str × Nat)} {vs1 : List Nat} {wi wi1 : TI} {wi1' : Fam TI} {I I1 : TDI} {g g1 : TG} {U U1 : TDG} {tt tt1 : TT} {tt' tt1' : Fam TT} {Tt Tt1 : TDT} {te : TE} {te' : Fam TE} {Te : TDE} (hc : X.calm = true) (hN : X.N.Nodup) (hi : DI X B tg iter wi I) (ok : BlkOk X.N X.env.scope scope own) (hv : ∀ i ∈ vs1, i ∈ own.map (·.2))
    (hg : ∀ (s : Shared) (H : Hp) (C : Addr) (cl : List (Str × Addr)) (fp : List Addr), DG (X.blk s H scope (compEnvC scope cl C X.env) fp) B tg g U) (hk : KeepG g (own.map (·.2))) (ht : ∀ (s : Shared) (H : Hp) (C : Addr) (cl : List (Str × Addr)) (fp : List Addr), DTs (X.blk s H scope (compEnvC scope cl C X.env) fp) B ifs (tt' s H C cl fp) Tt)
    (hi1 : ∀ (s : Shared) (H : Hp) (C : Addr) (cl : List (Str × Addr)) (fp : List Addr), DI (X.blk s H scope (compEnvC scope cl C X.env) fp) B tg1 iter1 (wi1' s H C cl fp) I1)
    (hg1 : ∀ (s : Shared) (H : Hp) (C : Addr) (cl : List (Str × Addr)) (fp : List Addr), DG (X.blk s H scope (compEnvC scope cl C X.env) fp) B tg1 g1 U1) (hk1 : KeepG g1 vs1) (ht1 : ∀ (s : Shared) (H : Hp) (C : Addr) (cl : List (Str × Addr)) (fp : List Addr), DTs (X.blk s H scope (compEnvC scope cl C X.env) fp) B ifs1 (tt1' s H C cl fp) Tt1)
    (he : ∀ (s : Shared) (H : Hp) (C : Addr) (cl : List (Str × Addr)) (fp : List Addr), DE (X.blk s H scope (compEnvC scope cl C X.env) fp) B elt (te' s H C cl fp) Te) (e0 : tt' = fun _ _ _ _ _ => tt := by (first | rfl | (simp only [Cx.blk]; rfl))) (e1 : wi1' = fun _ _ _ _ _ => wi1 := by (first | rfl | (simp only [Cx.blk]; rfl))) (e2 : tt1' = fun _ _ _ _ _ => tt1 := by (first | rfl | (simp only [Cx.blk]; rfl))) (e3 : te' = fun _ _ _ _ _ => te := by (first | rfl | (simp only [Cx.blk]; rfl))) (hs : ∀ x, foldedSetIterable iter X.env x = pure x := by intro _; rfl) (hs1 : ∀ env x, foldedSetIterable iter1 env x = pure x := by intro _ _; rfl) :
    DE X B (.ListComp elt [⟨tg, iter, ifs, 0⟩, ⟨tg1, iter1, ifs1, 0⟩] scope pos) (tLc2 wi g tt wi1 g1 tt1 te (own.map (·.2)) vs1) (dLc2 c I U Tt I1 U1 Tt1 Te (own.map (·.2)) vs1) := by
  subst e0; subst e1; subst e2; subst e3
  exact de_lc2 c hc hN hi ok hv hg hk ht hi1 hg1 hk1 ht1 he hs hs1
end
end DL

/-! DLL: an own error class of one field, all that is known of it. -/
namespace DL
open PySem PySem.Spec PyProof.Rows L2 NdefX
structure ErrC (P : Program) (w : World) (K : PySem.W.Frag) (mg : Str → Option Value) (base : Heap) (C : Addr) (x fl : Str) : Prop where
  m : mg x = some (.ref C)
  ox : OexC K C
  made : ∃ fI fd, PySem.W.findIn K (.ref C) "__init__" = some (some (.ref fI)) ∧ PySem.W.typeIn K (.ref fI) = some (.type "function") ∧ Binds K fd ["self", fl] [] ∧ FnOk P w K mg base CX0 1 fI fd ["self", fl] (initSp C fl)
  xf : XfC K C
  no : PySem.W.findIn K (.ref C) fl = some none
  ec : ExcC K C
section
variable {X : Cx} {B : Gh} {pos p : Pos} {C : Addr} {x fl : Str} {e : Expr} {t : TA} {T : TDA}
theorem dm_errC (E : ErrC X.prog X.w X.K X.mg X.base C x fl) (hr : Room 2 X.A) (ha : DA X B [e] t T) (hg : Gl X x := by rfl)
    (hdb : (x == ("__debug__" : Str)) = false := by decide) (he : starEach [e] X.env = (false, eval e X.env) :: starEach [] X.env := by rfl) (hpl : (backTo pos (starEach [] X.env)).any (·.1) = false := by rfl) :
    DMk X B (.Call (.Name x p) [e] [] pos) (tMkO C (initSp C fl) [] t) (dErr C fl T) := by
  obtain ⟨fI, fd, iC, tI, b, F⟩ := E.made
  exact dm_err E.ox iC tI F hr b E.m ha hg hdb he hpl
end
section
variable {P : Program} {w : World} {K : PySem.W.Frag} {mg : Str → Option Value} {base h : Heap}
theorem exc_of {C : Addr} (hg : PySem.W.findIn K (.ref C) "__getattribute__" = some (some (.builtin "BaseException.__getattribute__"))) (hk : PySem.W.findIn K (.ref C) "__getattr__" = some none) (hs : PySem.W.subIn K (.ref C) (.type "BaseException") = some true) (hd : PySem.W.hasDictIn K C = true)
    (ha : PySem.W.findIn K (.ref C) "__class__" = some (some (.builtin "object.__class__"))) (hn : PySem.W.specialIn K (.builtin "object.__class__") "__get__" = some (some (.builtin "getset_descriptor.__get__"))) (ht : PySem.W.takesIn K (.builtin "object.__class__") = some true) (hm : PySem.W.mroIn K C (.type "object") = some true) : XfC K C ∧ ExcC K C :=
  ⟨⟨hg, hk, hs, hd⟩, ⟨hg, hk, hs, hd, ha, hn, ht, hm⟩⟩
theorem supfn_mk {C f cc cda : Addr} {st : Stmt} {qual : Str} {nm q : Str} {N : Addr} {bs bm : List Value} {sn : List Str} {sub : List Value} {ab : Bool} {col : Option Bool} {dd od : Option Addr} {k0 k1 k2 k3 k5 : Option Value} {oc kV doc pm ct c1 cl : Value} {an c2 cld : Option Addr} {osl c3 csl : Array (Option Value)} {vs : Array Value} {file : Str} {tf : Tok}
    (lc : K.lookup C = some (excClassObj nm q C N bs bm true sn sub ab col dd k0 k1 k2 k3 k5 "ValueError.__new__")) (rv : PySem.HandSPX.refsVE bm = true) (sa : PySem.W.findIn K (.ref C) "__setattr__" = some (some (.builtin "object.__setattr__"))) (eb : PySem.W.subIn K (.ref C) (.type "BaseException") = some true)
    (tc : PySem.W.typeIn K (.ref C) = some (.type "type")) (kc : PySem.W.keepIn K (.ref C) = true)
    (lf : K.lookup f = some ⟨oc, od, .func (PySem.W.fnX "__init__" qual (defArgs st) (defBody st) (defScope st) [("__class__", cc)] .none kV doc pm an (.ref cda) ct), osl⟩) (ci : PySem.W.codeIn K (.ref cda) qual = true)
    (lk : K.lookup cda = some ⟨c1, c2, .fields vs, c3⟩) (v2 : vs[2]? = some (.str file tf)) (fi : ((P.main.file : Str) == file) = true) (lcc : K.lookup cc = some ⟨cl, cld, .cell (some (.ref C)), csl⟩) (tp : (P.main.scope.names.lookup ("super" : Str)).isSome = false) (zs : mg "super" = none)
    (oq : PySem.W.nsIn K cStatics "thirdparty.any" = some none) (si : PySem.W.ks_superIn K C C "__init__" = some (some (.builtin "ValueError.__init__"))) (ve : PySem.W.subIn K (.ref C) (.type "ValueError") = some true) :
    SupFn P K mg C st f (PySem.W.fnX "__init__" qual (defArgs st) (defBody st) (defScope st) [("__class__", cc)] .none kV doc pm an (.ref cda) ct) ⟨"__init__", qual, defArgs st, defBody st, defScope st, [("__class__", cc)], cda⟩ :=
  ⟨⟨oc, od, kV, doc, pm, ct, an, osl, rfl, lf⟩, rfl, ci, ⟨vs, file, tf, c1, c2, c3, lk, v2, fi⟩, ⟨cc, cl, cld, csl, rfl, lcc⟩, tp, zs, oq, ⟨⟨_, _, _, _, _, _, _, _, _, _, _, _, _, _, _, lc, rv⟩, sa, eb, tc, kc⟩, si, ve⟩
theorem binds_of {f : Addr} {fd : FuncData} {ps : List Str} (hb : ∀ us : List Value, us.length = ps.length → bindArgs fd ⟨us, []⟩ = pure (ps.zip us)) : Binds K fd ps [] := fun s us kin hl => by
  rw [List.append_nil] at hl ⊢
  exact .of_eq (hb us hl)
end
def CalledX (P : Program) (w : World) (K : PySem.W.Frag) (mg : Str → Option Value) (base : Heap) (k : Nat) (x : Str) (ps : List Str) (S : DSp) : Prop :=
  ∃ f fd, mg x = some (.ref f) ∧ PySem.W.keepIn K (.ref f) = true ∧ Binds K fd ps [] ∧ FnOk P w K mg base (L2N.CX P w) k f fd ps (toSp K S)
theorem DefAt.calledX {P : Program} {w : World} {K : PySem.W.Frag} {mg : Str → Option Value} {base : Heap} {k : Nat} {x : Str} {st : Stmt} {ps : List Str} {f : Addr} {fd : FuncData} {S : DSp} (D : DefAt K mg x st ps f fd) (F : FnOk P w K mg base (L2N.CX P w) k f fd ps (toSp K S)) : CalledX P w K mg base k x ps S := ⟨f, fd, D.m, D.F.kp, D.b, F⟩
/-- an int constant of the module -/
def GlobI (i : Int) (x : Str) (mg : Str → Option Value) : Prop := ∃ t, mg x = some (.int i t)
section
variable {X : Cx} {B : Gh} {x n : Str} {c : Value} {i : Nat} {body suite : List Stmt} {b₀ : Stmt} {np pos pos' : Pos} {tb : WX → TS} {tb' : List (Addr × Obj) → (Value → Shared → Prop) → WX → TS} {ts : Addr → Value → Option Addr → TS} {ts' : Addr → Obj → Value → Option Addr → List (Addr × Obj) → TS} {Wout : WX} {TB : XD → TDS} {TU : TDU} {V : XD}
theorem ds_try_asA (hs : X.stack = X.env :: X.outer) (hf : X.env.frame = some X.env.locals) (hN : X.N.Nodup) (hi : X.N[i]? = some n) (hln : X.env.kindOf n = some .local) (hc : Names X x c) (tk : L2N.Takes X Wout) (xr : XRel X.K B Wout V)
    (hb : ∀ (W : WX) (V' : XD) (B' : Gh) (pn : List (Addr × Obj)) (xe : Value → Shared → Prop), Gle B B' → XRel X.K B' W V' → L2N.Takes (X.tr pn xe) W → PassesOwn (model X.prog X.w) X.A X.env xe → DSs (X.tr pn xe) B' body (tb' pn xe W) (TB V'))
    (hsu : ∀ (a : Addr) (oe : Obj) (cls : Value) (d : Option Addr) (pn : List (Addr × Obj)) (B' : Gh) (fs : List (Str × D)), XRep X.K B' fs d → L2N.Zn cls d oe → (∃ vs, oe.data = .fields vs) → DSs (X.suite a ((a, oe) :: pn)) B' (b₀ :: suite) (ts' a oe cls d pn) (TU a cls fs))
    (e1 : tb' = fun _ _ => tb := by (first | rfl | (simp only [Cx.tr]; rfl))) (e2 : ts' = fun a _ cls d _ => ts a cls d := by (first | rfl | (simp only [Cx.suite]; rfl))) :
    DS X B (.Try body [.ExceptHandler (some (.Name x np)) (some n) (b₀ :: suite) pos'] [] [] pos) (fun D σ H => tb (wAs X.K c i ts Wout D) D σ H) (dTryAs X.K c i TB TU V) := by
  subst e1; subst e2
  exact ds_try_as hs hf hN hi hln hc tk xr hb hsu
end
end DL

/-! DLM: dict comprehensions. -/
namespace DL
open PySem PySem.Spec PyProof.Rows L2
def dcL (g : TDG) (tt : TDT) (tk tv : TDE) (p : Addr) (ρ0 : DR) (Q : Mu → Prop) : List D → Mu → Prop
  | [], μ => Q μ
  | x :: r, μ => g x ρ0 μ fun ρ2 μ2 => tt ρ2 μ2 fun b μ3 => if b = true then tk ρ2 μ3 fun y μ4 => tv ρ2 μ4 fun z μ5 => ∃ kvs k, keyD y = some k ∧ μ5 p = some (.dic kvs) ∧ kvs.length < sizeLine ∧ dcL g tt tk tv p ρ0 Q r (mup μ5 p (.dic (putD kvs k z))) else dcL g tt tk tv p ρ0 Q r μ3
def endDc (c : Bool) (p : Addr) (μ : Mu) (Q : QD) : Prop := match c with
  | true => Q (.ptr p) μ
  | false => ∃ kvs, μ p = some (.dic kvs) ∧ Q (.dic kvs) (mdel μ p)
@[simp] theorem endDc_t {p : Addr} {μ : Mu} {Q : QD} : endDc true p μ Q = Q (.ptr p) μ := rfl
@[simp] theorem endDc_f {p : Addr} {μ : Mu} {Q : QD} : endDc false p μ Q = ∃ kvs, μ p = some (.dic kvs) ∧ Q (.dic kvs) (mdel μ p) := rfl
theorem endDc_go {K : PySem.W.Frag} {c : Bool} {p : Addr} {μ : Mu} {Q : QD} {ρ : DR} {σ : St} {H : Hp} {G : Gh} {Qn : VK} (h : endDc c p μ Q) (S : Sat K B G ρ μ σ H) (hd : Hand K B G ρ σ Q Qn) : Qn (.ref p) H := by
  cases c with
  | true => exact hd.now S (.ptr p) h
  | false =>
    obtain ⟨kvs, e, q⟩ := h
    obtain ⟨_, o, y, z⟩ := S.hold.cell p _ e
    obtain ⟨ws, rfl, rr⟩ := cellR_dic z
    have g : Gle G (G.frz p (.dK ws)) := Gle.frz (S.hold.cell p _ e).1
    exact hd _ _ _ _ _ g ⟨S.hold.freeze e y, S.env.mono g⟩ (.dic (show upd G.fr p (.dK ws) p = some (.dK ws) from upd_same) rr.1 fun j v d x y => (rr.2.2 j v d x y).mono g) q
def dDc (c : Bool) (I : TDI) (g : TDG) (tt : TDT) (tk tv : TDE) (vs : List Nat) : TDE := fun ρ μ Q => I ρ μ fun xs μ1 => ∀ p, μ1 p = none → dcL g tt tk tv p (wipeD ρ vs) (fun μ2 => endDc c p μ2 Q) xs (mup μ1 p (.dic []))
@[simp ↓] theorem dDc_p {c : Bool} {I : TDI} {g : TDG} {tt : TDT} {tk tv : TDE} {vs : List Nat} {ρ} {μ} {Q} : dDc c I g tt tk tv vs ρ μ Q = (I ρ μ fun xs μ1 => ∀ p, μ1 p = none → dcL g tt tk tv p (wipeD ρ vs) (fun μ2 => endDc c p μ2 Q) xs (mup μ1 p (.dic []))) := id rfl
theorem ref_dc {K : PySem.W.Frag} {c : Bool} {I : TDI} {i : TI} {g : TDG} {gn : TG} {tt : TDT} {ttn : TT} {tk tv : TDE} {tkn tvn : TE} {vs : List Nat} (hi : RefI K B I i) (hg : RefG K B g gn) (hk : KeepG gn vs) (ht : RefT K B tt ttn) (hy : RefE K B tk tkn) (hv : RefE K B tv tvn) : RefE K B (dDc c I g tt tk tv vs) (tDc i gn ttn tkn tvn vs) := fun ρ μ σ H G Q Qn S h hd => by
  refine hi ρ μ σ H G _ _ S h fun xs μ1 J H1 G1 g1 S1 q1 hgo hyy => ?_
  intro p np
  have hc1 : Hold K G1 (mup μ1 p (.dic [])) (upd H1 p (.dK [])) := S1.hold.cellNew np (show CellR K G1 (.dK []) (.dic []) from FReps.nil)
  have q2 := q1 p (S1.hold.free np).2.1
  refine ⟨fun n m H' => m = xs.length - n ∧ n ≤ xs.length ∧ ∃ G' μ', Gle G1 G' ∧ Hold K G' μ' H' ∧ dcL g tt tk tv p (wipeD ρ vs) (fun μ2 => endDc c p μ2 Q) (xs.drop n) μ', ⟨xs.length, by simp, Nat.zero_le _, G1, _, Gle.refl _, hc1, by simpa using q2⟩, ?_⟩
  rintro n m H' ⟨rfl, hn, G', μ', g2, S2, q3⟩
  by_cases hlt : n < xs.length
  · refine .inr ⟨(hgo n H' G' μ' g2 S2).1 hlt, fun H3 => ∃ G3 μ3, Gle G1 G3 ∧ Hold K G3 μ3 H3 ∧ dcL g tt tk tv p (wipeD ρ vs) (fun μ2 => endDc c p μ2 Q) (xs.drop (n + 1)) μ3, ?_, ?_⟩
    · rintro H3 ⟨G3, μ3, g3, S3, q4⟩
      exact ⟨xs.length - (n + 1), by omega, rfl, hlt, G3, μ3, g3, S3, q4⟩
    · intro v H2 yv
      obtain ⟨G2, g3, h2, rv⟩ := hyy n xs[n] v H' H2 G' μ' g2 S2 (List.getElem?_eq_getElem hlt) yv
      rw [List.drop_eq_getElem_cons hlt] at q3
      have S3 : Sat K B G2 (wipeD ρ vs) μ' (L2.wipe σ vs) H2 := ⟨h2, (((S1.env.mono g2).mono g3).wipe vs)⟩
      have q4 := hg xs[n] v (wipeD ρ vs) μ' (L2.wipe σ vs) H2 G2 _ (fun σ2 H3 => ttn σ2 H3 fun b H3 => if b = true then tkn σ2 H3 fun y H4 => tvn σ2 H4 fun z H5 => ∃ kvs k, y = kV k ∧ H5 p = some (.dK kvs) ∧ kvs.length < sizeLine ∧ (∃ G3 μ3, Gle G1 G3 ∧ Hold K G3 μ3 (upd H5 p (.dK (putK kvs k z))) ∧ dcL g tt tk tv p (wipeD ρ vs) (fun μ2 => endDc c p μ2 Q) (xs.drop (n + 1)) μ3) else ∃ G3 μ3, Gle G1 G3 ∧ Hold K G3 μ3 H3 ∧ dcL g tt tk tv p (wipeD ρ vs) (fun μ2 => endDc c p μ2 Q) (xs.drop (n + 1)) μ3) S3 rv q3 fun ρ4 μ4 σ4 H4 G4 g4 S4 q4 => by
        refine ht ρ4 μ4 σ4 H4 G4 _ _ S4 q4 fun b μ5 H5 G5 g5 S5 q5 => ?_
        cases b with
        | true =>
          refine hy ρ4 μ5 σ4 H5 G5 _ _ S5 q5 fun dy μ6 v6 H6 G6 g6 S6 r6 q6 => hv ρ4 μ6 σ4 H6 G6 _ _ S6 q6 fun dz μ7 v7 H7 G7 g7 S7 r7 ⟨kvs, k, ek, e, l, q7⟩ => ?_
          obtain ⟨_, o, y, z⟩ := S7.hold.cell p _ e
          obtain ⟨ws, rfl, rr⟩ := cellR_dic z
          exact ⟨ws, k, rep_key (r6.mono g7) ek, y, by rw [rr.len]; exact l, G7, _, ((((g2.trans g3).trans g4).trans g5).trans g6).trans g7, S7.hold.cellSet e (show CellR K G7 (.dK (putK ws k v7)) (.dic (putD kvs k dz)) from rr.put k r7), q7⟩
        | false => exact ⟨G5, μ5, ((g2.trans g3).trans g4).trans g5, S5.hold, q5⟩
      have q5 := hk v (L2.wipe σ vs) H2 _ q4
      rw [wipe_wipe] at q5
      exact q5
  · have e : n = xs.length := by omega
    subst e
    rw [List.drop_length] at q3
    exact .inl ⟨(hgo _ H' G' μ' g2 S2).2 (Nat.le_refl _), endDc_go q3 ⟨S2, S1.env.mono g2⟩ (hd.mono (g1.trans g2))⟩
section
variable {X : Cx} {pos : Pos}
theorem de_dcA (c : Bool) {kx vx tg iter : Expr} {ifs : List Expr} {scope : Scope} {own : List (Str × Nat)} {wi : TI} {I : TDI} {g : TG} {U : TDG} {tt : TT} {tt' : Fam TT} {Tt : TDT} {tk tv : TE} {tk' tv' : Fam TE} {Tk Tv : TDE} (hc : X.calm = true) (hN : X.N.Nodup) (hi : DI X B tg iter wi I) (ok : BlkOk X.N X.env.scope scope own)
    (hg : ∀ (s : Shared) (H : Hp) (C : Addr) (cl : List (Str × Addr)) (fp : List Addr), DG (X.blk s H scope (compEnvC scope cl C X.env) fp) B tg g U) (hk : KeepG g (own.map (·.2))) (ht : ∀ (s : Shared) (H : Hp) (C : Addr) (cl : List (Str × Addr)) (fp : List Addr), DTs (X.blk s H scope (compEnvC scope cl C X.env) fp) B ifs (tt' s H C cl fp) Tt)
    (hy : ∀ (s : Shared) (H : Hp) (C : Addr) (cl : List (Str × Addr)) (fp : List Addr), DE (X.blk s H scope (compEnvC scope cl C X.env) fp) B kx (tk' s H C cl fp) Tk)
    (hv : ∀ (s : Shared) (H : Hp) (C : Addr) (cl : List (Str × Addr)) (fp : List Addr), DE (X.blk s H scope (compEnvC scope cl C X.env) fp) B vx (tv' s H C cl fp) Tv)
    (e0 : tt' = fun _ _ _ _ _ => tt := by (first | rfl | (simp only [Cx.blk]; rfl))) (e1 : tk' = fun _ _ _ _ _ => tk := by (first | rfl | (simp only [Cx.blk]; rfl))) (e2 : tv' = fun _ _ _ _ _ => tv := by (first | rfl | (simp only [Cx.blk]; rfl))) (hs : ∀ x, foldedSetIterable iter X.env x = pure x := by intro _; rfl) :
    DE X B (.DictComp kx vx [⟨tg, iter, ifs, 0⟩] scope pos) (tDc wi g tt tk tv (own.map (·.2))) (dDc c I U Tt Tk Tv (own.map (·.2))) := by
  subst e0; subst e1; subst e2
  exact ⟨pe_dc hc hN hi.pi ok (fun s H C cl fp => (hg s H C cl fp).pg) (fun s H C cl fp => (ht s H C cl fp).pts) (fun s H C cl fp => (hy s H C cl fp).pe) (fun s H C cl fp => (hv s H C cl fp).pe) hs,
    ref_dc hi.ref (hg X.s_0 X.H_0 0 [] []).ref hk (ht X.s_0 X.H_0 0 [] []).ref (hy X.s_0 X.H_0 0 [] []).ref (hv X.s_0 X.H_0 0 [] []).ref⟩
end
theorem dc_ind {g : TDG} {tt : TDT} {tk tv : TDE} {p : Addr} {ρ0 : DR} {Q : Mu → Prop} (I : List D → List (Key × D) → Mu → Prop) {xs : List D} {acc : List (Key × D)} {μ : Mu} (hp : μ p = none) (h : I xs acc μ)
    (hn : ∀ acc μ, μ p = none → I [] acc μ → Q (mup μ p (.dic acc)))
    (hc : ∀ x r acc μ (N : Mu → Prop), μ p = none → I (x :: r) acc μ → (∀ acc' μ'', μ'' p = none → I r acc' μ'' → N (mup μ'' p (.dic acc'))) → g x ρ0 (mup μ p (.dic acc)) fun ρ2 μ2 => tt ρ2 μ2 fun b μ3 => if b = true then tk ρ2 μ3 fun y μ4 => tv ρ2 μ4 fun z μ5 => ∃ kvs k, keyD y = some k ∧ μ5 p = some (.dic kvs) ∧ kvs.length < sizeLine ∧ N (mup μ5 p (.dic (putD kvs k z))) else N μ3) : dcL g tt tk tv p ρ0 Q xs (mup μ p (.dic acc)) := by
  induction xs generalizing acc μ with
  | nil => exact hn acc μ hp h
  | cons x r ih => exact hc x r acc μ (dcL g tt tk tv p ρ0 Q r) hp h fun acc' μ'' h1 h2 => ih h1 h2
end DL

/-! DLN: list(o), o of an own class whose __iter__ hands back a list's iterator. -/
namespace DL
open PySem PySem.Spec PyProof.Rows L2
section
variable {prog : Program} {w : World} {A : Around} {E : Value → Shared → Prop} {s : Shared} {it l : Addr} {i : Nat} {items : Array Value}
theorem pn_item {x : Value} {Q : Option Value → Shared → Prop} (ho : s.heap.get? it = some (GNX.itObj l i)) (hl : s.heap.IsList l items) (hx : items[i]? = some x)
    (hQ : ∀ h', h'.get? it = some (GNX.itObj l (i + 1)) → Heap.SameBut it s.heap h' → Q (some x) { s with heap := h' }) : wpAny (model prog w) A (pyNext (.ref it)) Q E s := by
  have hT : s.TypeIs (.ref it) "list_iterator" := ⟨_, ho, rfl⟩
  unfold pyNext
  refine wpAny_bind (wpAny_attempt (wpAny_callSpecial?_slot (name := Str.ofString "__next__") hT slot_listiter_next (wpAny_call_entry slot_listiter_next hT entry_listiter_next ?_ (args_listiter_next _))))
  refine wpAny_mono (GNX.next_item (Q := fun v s' => v = x ∧ Q (some x) s') ho hl hx fun h' e sb => ⟨rfl, hQ h' e sb⟩) (fun fin s' hq => ?_) fun _ _ z => z
  obtain ⟨v, e, rfl, q⟩ := hq
  exact ⟨v, e, wpAny_pure q⟩
theorem pn_end {Q : Option Value → Shared → Prop} (hh : A.handled = none) (ho : s.heap.get? it = some (GNX.itObj l i)) (hl : s.heap.IsList l items) (hx : items[i]? = none)
    (hQ : ∀ h1 h', h1.get? it = some (GNX.itEnd i) → Heap.SameBut it s.heap h1 → (∀ b o, h1.get? b = some o → h'.get? b = some o) → Q none { s with heap := h' }) : wpAny (model prog w) A (pyNext (.ref it)) Q E s := by
  have hT : s.TypeIs (.ref it) "list_iterator" := ⟨_, ho, rfl⟩
  unfold pyNext
  refine wpAny_bind (wpAny_attempt (wpAny_callSpecial?_slot (name := Str.ofString "__next__") hT slot_listiter_next (wpAny_call_entry slot_listiter_next hT entry_listiter_next ?_ (args_listiter_next _))))
  refine wpAny_mono (GNX.next_end (Q := fun _ _ => False) hh ho hl hx fun h1 h' e vs e1 sb k ne he' hv => ?_) (fun fin s' hq => ?_) fun _ _ z => z
  · have hTe : Shared.TypeIs { s with heap := h' } (.ref e) "StopIteration" := ⟨_, he', rfl⟩
    refine wpAny_bind (wpAny_isInstance hTe PySem.isSubtype_stop ?_)
    exact wpAny_pure (hQ h1 h' e1 sb k)
  · obtain ⟨v, e, z⟩ := hq
    exact z.elim
end
theorem upd_comm {H : Hp} {a b : Addr} {o u : HO} (h : a ≠ b) : upd (upd H a o) b u = upd (upd H b u) a o := by
  funext c
  unfold upd
  by_cases h1 : c = b
  · subst h1; rw [if_pos rfl, if_neg (Ne.symm h), if_pos rfl]
  · rw [if_neg h1]
    by_cases h2 : c = a
    · rw [if_pos h2, if_pos h2]
    · rw [if_neg h2, if_neg h2, if_neg h1]
section
variable {X : Cx} {pins : List (Addr × Obj)} {σ : L2.St} {it l q : Addr} {A1 : Around}
/-- the loop of list.extend over such an iterator -/
theorem it_loop {Rs : Result → Shared → Prop} {zs : List V} {H0 : Hp} (hz : zs.length < sizeLine) (hh : A1.in1.handled = none) (ne : q ≠ it)
    (hl : ∀ i, SqL X.K (upd (upd H0 it (ItO l it i)) q (.lst (zs.take i))) l zs)
    (hdone : ∀ s', Inv X pins σ (upd (upd H0 it (ItE it zs.length)) q (.lst zs)) s' → Rs (.ok (.ret .none)) s') :
    ∀ (m i : Nat) (s : Shared), i + m = zs.length → Inv X pins σ (upd (upd H0 it (ItO l it i)) q (.lst (zs.take i))) s → codeAny (model X.prog X.w) A1 (.builtin "list.extend.loop" ⟨[.ref q, .ref it, .none], []⟩) Rs s := by
  intro m
  induction m with
  | zero =>
    intro i s hi I
    refine codeAny_builtin PySem.F.entry_extend_loop ?_
    rw [Around.under_plainId PySem.F.plain_extend_loop _]
    show wpAny _ A1.in1 (pyNext (.ref it) >>= _) _ _ s
    obtain ⟨its, rv, pl, hz'⟩ := I.list (hl i)
    have hil : i = zs.length := by omega
    subst hil
    have eit : (upd (upd H0 it (ItO l it zs.length)) q (.lst (zs.take zs.length))) it = some (ItO l it zs.length) := by rw [upd_ne (Ne.symm ne), upd_same]
    refine wpAny_bind (pn_end hh (itO_get I eit) pl.isList (by rw [List.getElem?_toArray]; exact rv.none_of (by simp)) fun h1 h' e1 sb k => ?_)
    have I2 := I.write (h' := h1) (x := it) (e := it) (o := ItE it zs.length) (t' := s.toks) (by rw [eit]; exact True.intro) (.inl rfl) (fun b o nb z => (sb.2 b nb).trans z) ⟨_, e1⟩ (itE_ok e1)
    have I3 := I2.kept (t' := s.toks) (h' := h') k
    rw [← upd_comm (Ne.symm ne), upd_upd, List.take_length] at I3
    exact wpAny_pure (hdone _ I3)
  | succ m ih =>
    intro i s hi I
    refine codeAny_builtin PySem.F.entry_extend_loop ?_
    rw [Around.under_plainId PySem.F.plain_extend_loop _]
    show wpAny _ A1.in1 (pyNext (.ref it) >>= _) _ _ s
    obtain ⟨its, rv, pl, hz'⟩ := I.list (hl i)
    have hlt : i < zs.length := by omega
    have eit : (upd (upd H0 it (ItO l it i)) q (.lst (zs.take i))) it = some (ItO l it i) := by rw [upd_ne (Ne.symm ne), upd_same]
    obtain ⟨u, hu, ru⟩ := rv.get (List.getElem?_eq_getElem hlt)
    refine wpAny_bind (pn_item (itO_get I eit) pl.isList (by rw [List.getElem?_toArray]; exact hu) fun h1 e1 sb => ?_)
    have I2 := I.write (h' := h1) (x := it) (e := it) (o := ItO l it (i + 1)) (t' := s.toks) (by rw [eit]; exact True.intro) (.inl rfl) (fun b o nb z => (sb.2 b nb).trans z) ⟨_, e1⟩ (itO_ok e1)
    rw [← upd_comm (Ne.symm ne), upd_upd] at I2
    have hq' : (upd (upd H0 it (ItO l it (i + 1))) q (.lst (zs.take i))) q = some (.lst (zs.take i)) := upd_same
    show wpAny _ A1.in1 (updateSeq q (·.push u) >>= _) _ _ _
    obtain ⟨z, its2, k, r2, hl2, e⟩ := I2.lstM hq'
    have hsl : its2.length < sizeLine := by rw [← hl2, List.length_take]; omega
    refine wpAny_bind (wpAny_updateSeq e rfl (wpAny_pure ⟨plainId_quiet PySem.F.plain_extend_loop _, ?_⟩) (by rw [List.size_toArray]; omega) (by show (its2.toArray.push u).size ≤ sizeLine + 1; rw [Array.size_push, List.size_toArray]; omega))
    have I3 := I2.lset (f := (·.push u)) (its' := its2 ++ [u]) (ys := zs.take i ++ [zs[i]]) (t' := s.toks) hq' e (by simp) (r2.append (.cons ru .nil)) (by rw [List.length_append, List.length_singleton, List.length_take]; omega)
    rw [upd_upd, ← List.take_succ_eq_append_getElem hlt] at I3
    exact ih (i + 1) _ (by omega) I3
end
end DL

/-! DLO: list(o), len(o), str(o), comparisons, operators, o[k] = v of an own class: over the layer. -/
namespace DL
open PySem PySem.Spec PyProof.Rows L2
/-- the def at f of the class C under this name -/
structure OpAt (K : PySem.W.Frag) (C : Addr) (n : Str) (f : Addr) : Prop where
  at_ : PySem.W.findIn K (.ref C) n = some (some (.ref f))
  fn : PySem.W.isFn K (.ref f) = true
section
variable {X : Cx} {pins : List (Addr × Obj)} {σ : L2.St} {H : Hp} {s : Shared} {a C dx g q l it : Addr} {fs : List (Str × V)} {n k : Nat} {sp : Sp} {Ex : XK} {CX : CXT}
/-- an instance, as the library sees it -/
theorem ins_at (I : Inv X pins σ H s) (ha : H a = some (.ins C dx fs)) : ∃ ox od, PySem.W.InstAt s.heap a ox C od := by
  obtain ⟨mA, J, _⟩ := ins_get I.hok ha
  obtain ⟨od, J, _⟩ := J.look
  exact ⟨_, _, J⟩
/-- len(o) -/
def rLenO (C : Addr) (sp : Sp) (Ex : XK) : List V → Hp → VK → Prop := fun xs H Q => ∃ a dx fs, xs = [.ref a] ∧ H a = some (.ins C dx fs) ∧ sp [.ref a] H (fun z H' => ∃ i : Int, z = .int i ∧ (0 ≤ i ∧ i < 2 ^ 63) ∧ Q (.int i) H') Ex
theorem run_below {A : Around} {Q : VK} {us : List Value} {ws : List V} (F : FnR X.prog X.w X.K X.mg X.base CX k g sp) (hr : Room k A) (e0 : Env0 X.prog X.w X.K X.mg X.base A X.stack s H) (hx : Passes CX X Ex) (I : Inv X pins σ H s) (r : Vals ws us) (h : sp ws H Q Ex) :
    wpAny (model X.prog X.w) A (call (.ref g) us) (EP X pins σ Q) X.xe s := wpAny_call (SlX.run_at F hr e0 hx I r h)
theorem call_lenB {A : Around} (o : OpAt X.K C "__len__" g) (F : FnR X.prog X.w X.K X.mg X.base CX k g sp) (hr : Room k A.in1) (e0 : Env0 X.prog X.w X.K X.mg X.base A.in1 X.stack s H) (hx : Passes CX X Ex) {Q : VK} (I : Inv X pins σ H s) (ha : H a = some (.ins C dx fs)) (h : sp [.ref a] H (fun z H' => ∃ i : Int, z = .int i ∧ (0 ≤ i ∧ i < 2 ^ 63) ∧ Q (.int i) H') Ex) :
    wpAny (model X.prog X.w) A (call (.builtin "len") [.ref a]) (EP X pins σ Q) X.xe s := by
  obtain ⟨ox, od, J⟩ := ins_at I ha
  obtain ⟨m, hF⟩ := I.fr
  refine PySem.W.len_K hF I.ok.mod.kin J o.at_ o.fn (wpAny_mono (run_below (us := [.ref a]) (ws := [.ref a]) F hr e0 hx I (.cons rfl .nil) h) (fun w s' z => ?_) fun _ _ x => x)
  obtain ⟨z', H', I', rz, i, ei, hi, qz⟩ := z
  subst ei
  obtain ⟨t, e⟩ := (show ∃ t, w = Value.int i t from rz)
  cases e
  exact ⟨hi, .int i, H', I'.tok _, ⟨_, rfl⟩, qz⟩
theorem call_lenO (o : OpAt X.K C "__len__" g) (F : FnR X.prog X.w X.K X.mg X.base CX k g sp) (hr : Room (k + 1) X.A) (hx : Passes CX X Ex) : CallR X (.builtin "len") (rLenO C sp Ex) := by
  intro pins s σ H xs us Q I r h
  obtain ⟨a, dx, fs, rfl, ha, q⟩ := h
  obtain ⟨u, rfl, ru⟩ := r.one
  cases (show u = Value.ref a from ru)
  exact call_lenB o F hr.in1 I.env0.in1 hx I ha q
/-- str(o) -/
def rStrO (C : Addr) (sp : Sp) (Ex : XK) : List V → Hp → VK → Prop := fun xs H Q => ∃ a dx fs, xs = [.ref a] ∧ H a = some (.ins C dx fs) ∧ sp [.ref a] H (fun z H' => ∃ i : Str, z = .str i ∧ Q (.str i) H') Ex
theorem call_strO (o : OpAt X.K C "__str__" g) (F : FnR X.prog X.w X.K X.mg X.base CX k g sp) (hr : Room (k + 2) X.A) (hx : Passes CX X Ex) : CallR X (.type "str") (rStrO C sp Ex) := by
  intro pins s σ H xs us Q I r h
  obtain ⟨a, dx, fs, rfl, ha, q⟩ := h
  obtain ⟨u, rfl, ru⟩ := r.one
  cases (show u = Value.ref a from ru)
  obtain ⟨ox, od, J⟩ := ins_at I ha
  have hr2 : Room k X.A.in1.in1 := (show Room (k + 1) X.A.in1 from hr.in1).in1
  refine PySem.W.kso_call hr2.units0 I.kIn J o.at_ o.fn (wpAny_mono (run_below (us := [.ref a]) (ws := [.ref a]) F hr2 I.env0.in1.in1 hx I (.cons rfl .nil) q) (fun w s' z => ?_) fun _ _ x => x)
  obtain ⟨z', H', I', rz, i, ei, qz⟩ := z
  subst ei
  obtain ⟨t, e⟩ := (show ∃ t, w = Value.str i t from rz)
  cases e
  exact ⟨.str i, H', I', ⟨t, rfl⟩, qz⟩
/-- x op y by the class of x -/
def NF (K : PySem.W.Frag) (C : Addr) (y : V) (H : Hp) : Prop := ∃ t, TyX K H y t ∧ PySem.W.notFirst K C t = true
def rCmpO (K : PySem.W.Frag) (C : Addr) (sp : Sp) (Ex : XK) : R2 := fun x y H Q => ∃ a dx fs, x = .ref a ∧ H a = some (.ins C dx fs) ∧ NF K C y H ∧ sp [x, y] H Q Ex
theorem op_cmpO {op : CmpOp} (hop : ∀ a b, compareOp op a b = richCompare op a b) (o : OpAt X.K C (cmpInfo op).2.1 g) (F : FnR X.prog X.w X.K X.mg X.base CX k g sp) (hr : Room k X.A) (hx : Passes CX X Ex) : OpR X (compareOp op) (rCmpO X.K C sp Ex) := by
  intro pins s σ H x y v u Q I rx ry h
  obtain ⟨a, dx, fs, rfl, ha, ⟨t, ty, hn⟩, q⟩ := h
  cases (show v = Value.ref a from rx)
  obtain ⟨ox, od, J⟩ := ins_at I ha
  obtain ⟨P, Z, p, _⟩ := kit_of I ry ty
  obtain ⟨m, hF⟩ := I.fr
  rw [hop]
  refine PySem.W.cmp_K (op := op) (tb := t) hr.units0 hF I.ok.mod.kin J (Z.ty _ _ I.kIn p) hn o.at_ o.fn ?_
  refine wpAny_mono (run_below (us := [.ref a, u]) (ws := [.ref a, y]) F hr I.env0 hx I (.cons rfl (.cons ry .nil)) q) (fun w s' z => ?_) fun _ _ x => x
  obtain ⟨z', H', I', rz, qz⟩ := z
  exact SlX.cmpback rz ⟨z', H', I', rz, qz⟩
/-- x op y, both of the class -/
def rBinO (C : Addr) (sp : Sp) (Ex : XK) : R2 := fun x y H Q => ∃ a dx fs b dy gs, x = .ref a ∧ H a = some (.ins C dx fs) ∧ y = .ref b ∧ H b = some (.ins C dy gs) ∧ sp [x, y] H Q Ex
theorem op_binO {op : Operator} (hc : PySem.W.selfFirst X.K C = true) (o : OpAt X.K C (PySem.dunder op.info.2) g) (F : FnR X.prog X.w X.K X.mg X.base CX k g sp) (hr : Room k X.A) (hx : Passes CX X Ex) : OpR X (binaryOp op) (rBinO C sp Ex) := by
  intro pins s σ H x y v u Q I rx ry h
  obtain ⟨a, dx, fs, b, dy, gs, rfl, ha, rfl, hb, q⟩ := h
  cases (show v = Value.ref a from rx)
  cases (show u = Value.ref b from ry)
  obtain ⟨ox, od, J⟩ := ins_at I ha
  obtain ⟨oy, od', J'⟩ := ins_at I hb
  obtain ⟨m, hF⟩ := I.fr
  refine PySem.W.binop_K hF I.ok.mod.kin J J'.type hc o.at_ o.fn ?_
  refine wpAny_mono (run_below (us := [.ref a, .ref b]) (ws := [.ref a, .ref b]) F hr I.env0 hx I (.cons rfl (.cons rfl .nil)) q) (fun w s' z => ?_) fun _ _ x => x
  obtain ⟨z', H', I', rz, qz⟩ := z
  exact SlX.cmpback rz ⟨z', H', I', rz, qz⟩
/-- x op= y -/
def rInpO (C : Addr) (sp : Sp) (Ex : XK) : R2 := fun x y H Q => ∃ a dx fs, x = .ref a ∧ H a = some (.ins C dx fs) ∧ sp [x, y] H Q Ex
theorem op_inpO {op : Operator} (hc : PySem.W.selfFirst X.K C = true) (o : OpAt X.K C (PySem.dunderI op.info.2) g) (F : FnR X.prog X.w X.K X.mg X.base CX k g sp) (hr : Room k X.A) (hx : Passes CX X Ex) : OpR X (inplaceOp op) (rInpO C sp Ex) := by
  intro pins s σ H x y v u Q I rx ry h
  obtain ⟨a, dx, fs, rfl, ha, q⟩ := h
  cases (show v = Value.ref a from rx)
  obtain ⟨ox, od, J⟩ := ins_at I ha
  obtain ⟨m, hF⟩ := I.fr
  refine PySem.W.ksp_inplace hF I.ok.mod.kin J hc o.at_ o.fn ?_
  refine wpAny_mono (run_below (us := [.ref a, u]) (ws := [.ref a, y]) F hr I.env0 hx I (.cons rfl (.cons ry .nil)) q) (fun w s' z => ?_) fun _ _ x => x
  obtain ⟨z', H', I', rz, qz⟩ := z
  exact SlX.cmpback rz ⟨z', H', I', rz, qz⟩
/-- o[i] = v -/
def rSetO (C : Addr) (sp : Sp) (Ex : XK) : TSet := fun o i v H Q => ∃ a dx fs, o = .ref a ∧ H a = some (.ins C dx fs) ∧ sp [o, i, v] H (fun _ H' => Q H') Ex
theorem set_O (hq : PySem.W.noSeq X.K C = true) (o : OpAt X.K C "__setitem__" g) (F : FnR X.prog X.w X.K X.mg X.base CX k g sp) (hr : Room k X.A) (hx : Passes CX X Ex) : PSet X (rSetO C sp Ex) := by
  intro pins s σ H o' i v ou iu vu Q I ro ri rv h
  obtain ⟨a, dx, fs, rfl, ha, q⟩ := h
  cases (show ou = Value.ref a from ro)
  obtain ⟨ox, od, J⟩ := ins_at I ha
  obtain ⟨m, hF⟩ := I.fr
  refine PySem.W.ksp_setItem hF I.ok.mod.kin J hq o.at_ o.fn ?_
  refine wpAny_mono (run_below (us := [.ref a, iu, vu]) (ws := [.ref a, i, v]) F hr I.env0 hx I (.cons rfl (.cons ri (.cons rv .nil))) q) (fun w s' z => ?_) fun _ _ x => x
  obtain ⟨z', H', I', rz, qz⟩ := z
  exact ⟨H', I', qz⟩
end
end DL

/-! DLP: list(o) of an own class whose __iter__ is iter(self.f) and whose __len__ is len(self.f). -/
namespace DL
open PySem PySem.Spec PyProof.Rows L2
/-- what __len__ does: len(self.f) -/
def spLenF (K : PySem.W.Frag) (C : Addr) (f : Str) : Sp := fun vs H Q _ => ∃ a dx fs l xs, vs = [.ref a] ∧ H a = some (.ins C dx fs) ∧ fs.lookup f = some (.ref l) ∧ SqL K H l xs ∧ Q (.int xs.length) H
/-- what __iter__ does: iter(self.f) -/
def spIterF (K : PySem.W.Frag) (C : Addr) (f : Str) : Sp := fun vs H Q _ => ∃ a dx fs l xs, vs = [.ref a] ∧ H a = some (.ins C dx fs) ∧ fs.lookup f = some (.ref l) ∧ SqL K H l xs ∧ ∀ it, H it = none → Q (.ref it) (upd H it (ItO l it 0))
/-- H without what is behind n's iterator -/
theorem sqL_upd {K : PySem.W.Frag} {H : Hp} {a l : Addr} {o : HO} {xs : List V} (h : SqL K H l xs) (n : H a = none) : SqL K (upd H a o) l xs := Ext.seqL (Ext.new n) h
section
variable {X : Cx} {pins : List (Addr × Obj)} {σ : L2.St} {H : Hp} {s : Shared} {a C dx gl gi q l it : Addr} {fs : List (Str × V)} {n k : Nat} {f : Str}
theorem hint_O {A : Around} {xs : List V} (o : OpAt X.K C "__len__" gl) (F : FnR X.prog X.w X.K X.mg X.base CX0 k gl (spLenF X.K C f)) (hr : Room k A.in1) (e0 : Env0 X.prog X.w X.K X.mg X.base A.in1 X.stack s H) (I : Inv X pins σ H s) (ha : H a = some (.ins C dx fs)) (hf : fs.lookup f = some (.ref l)) (hl : SqL X.K H l xs) (hz : xs.length ≤ sizeLine)
    {Q : Bool → Shared → Prop} {E : Value → Shared → Prop} (h : ∀ b s', Inv X pins σ H s' → Q b s') : wpAny (model X.prog X.w) A (Builtin.List.listLengthHint (.ref a)) Q E s := by
  obtain ⟨ox, od, J⟩ := ins_at I ha
  have hz' := hz
  rw [sizeLine_eq] at hz'
  unfold Builtin.List.listLengthHint
  refine wpAny_bind (wpAny_bind (J.type.here ((PySem.W.looks_findIn I.kIn o.at_).here ?_)))
  dsimp only
  refine PySem.W.KFB.if_not rfl ?_
  refine wpAny_bind ?_
  refine wpAny_rule ?_
  refine wpAny_bind (wpAny_attempt ?_)
  refine wpAny_mono (call_lenB (X := X.nox) (Ex := E0) o F hr ⟨e0.frames, e0.mod, e0.bs, e0.bsz, e0.funs, e0.frf, e0.hok, e0.bare⟩ pass0 (Q := fun z H' => z = .int xs.length ∧ H' = H) (I.wish _) ha ⟨a, dx, fs, l, xs, rfl, ha, hf, hl, _, rfl, ⟨by omega, by omega⟩, rfl, rfl⟩) (fun u s' z => ?_) fun e s' z => z.elim
  obtain ⟨z', H', I', rz, ez, rfl⟩ := z
  subst ez
  obtain ⟨t, e⟩ := (show ∃ t, u = Value.int xs.length t from rz)
  cases e
  refine wpAny_bind (m := asInt? (.int xs.length t)) (wpAny_pure ?_)
  dsimp only
  have hn : Builtin.List.listTooLong (Int.toNat (xs.length : Int)) = false := by
    unfold Builtin.List.listTooLong
    simp only [Int.toNat_natCast, decide_eq_false_iff_not]
    omega
  rw [if_neg (by rw [hn]; exact Bool.false_ne_true)]
  exact wpAny_pure (h _ _ I'.unwish)
theorem extend_O {A1 : Around} {xs : List V} {Rs : Result → Shared → Prop} (ol : OpAt X.K C "__len__" gl) (oi : OpAt X.K C "__iter__" gi) (FL : FnR X.prog X.w X.K X.mg X.base CX0 k gl (spLenF X.K C f)) (FI : FnR X.prog X.w X.K X.mg X.base CX0 k gi (spIterF X.K C f))
    (hr : Room (k + 1) A1.in1) (hfr : A1.frames = X.A.frames) (I : Inv X pins σ H s) (ha : H a = some (.ins C dx fs)) (hf : fs.lookup f = some (.ref l)) (hl : SqL X.K H l xs) (hz : xs.length < sizeLine) (hq : H q = some (.lst [])) (hql : q ≠ l)
    (hdone : ∀ it s', H it = none → Inv X pins σ (upd (upd H it (ItE it xs.length)) q (.lst xs)) s' → Rs (.ok (.ret .none)) s') :
    wpAny (model X.prog X.w) A1.in1 (Builtin.List.listExtendWith (.ref q) (.ref a) .none)
      (fun fin s' => match fin with | .done f => Rs (.ok f) s' | .again c' => c'.quiet = true ∧ codeAny (model X.prog X.w) A1 c' Rs s') (fun e s' => Rs (.error e) s') s := by
  have hne : q ≠ a := ne_of hq ha (fun z => nomatch z)
  obtain ⟨ox, od, J⟩ := ins_at I ha
  obtain ⟨m0, hF⟩ := I.fr
  have env0 : ∀ {s : Shared} {H : Hp} {A : Around}, A.frames = A1.frames → Inv X pins σ H s → Env0 X.prog X.w X.K X.mg X.base A X.stack s H := fun {s H A} e I => by
    have e1 := I.env0
    exact ⟨by rw [e, hfr]; exact e1.frames, e1.mod, e1.bs, e1.bsz, e1.funs, e1.frf, e1.hok, e1.bare⟩
  unfold Builtin.List.listExtendWith
  refine wpAny_bind (J.type.here ?_)
  have h1 : Builtin.List.listSameRef (.ref q) (.ref a) = false := by simp [Builtin.List.listSameRef, hne]
  have h2 : (Value.ref C == Value.type "list") = false := rfl
  have h3 : (Value.ref C == Value.type "tuple") = false := rfl
  simp only [h1, h2, h3, Bool.or_false, Bool.false_eq_true, if_false]
  refine wpAny_bind (PySem.W.owit_iter hF I.ok.mod.kin J oi.at_ oi.fn ?_)
  refine wpAny_mono (run_below (X := X.nox) (Ex := E0) (us := [.ref a]) (ws := [.ref a]) (Q := fun v H' => ∃ it, H it = none ∧ v = .ref it ∧ H' = upd H it (ItO l it 0)) FI (hr.mono (Nat.le_succ _)) (by have := env0 (A := A1.in1) rfl I; exact ⟨this.frames, this.mod, this.bs, this.bsz, this.funs, this.frf, this.hok, this.bare⟩) pass0 (I.wish _) (.cons rfl .nil) ⟨a, dx, fs, l, xs, rfl, ha, hf, hl, fun it hn => ⟨it, hn, rfl, rfl⟩⟩) (fun u s' z => ?_) fun e s' z => z.elim
  obtain ⟨v, H', I', rv, it, hn, ev, eH⟩ := z
  subst ev; subst eH
  cases (show u = Value.ref it from rv)
  have I' := I'.unwish
  have nia : a ≠ it := ne_of_none ha hn
  have niq : q ≠ it := ne_of_none hq hn
  have ho := itO_get I' (upd_same)
  have hT : s'.TypeIs (.ref it) "list_iterator" := ⟨_, ho, rfl⟩
  unfold PySem.W.OwitIt
  refine wpAny_specialOf hT slot_listiter_next.lookup ?_
  have ha' : (upd H it (ItO l it 0)) a = some (.ins C dx fs) := by rw [upd_ne nia]; exact ha
  refine wpAny_bind (wpAny_holding (hint_O ol FL (A := A1.in1) hr.in1 (env0 rfl I') I' ha' hf (sqL_upd hl hn) (Nat.le_of_lt hz) fun b s2 I2 => ?_))
  have hq2 : (upd H it (ItO l it 0)) q = some (.lst []) := by rw [upd_ne niq]; exact hq
  have e0 : upd (upd H it (ItO l it 0)) q (.lst (xs.take 0)) = upd H it (ItO l it 0) := by
    funext b
    by_cases hb : b = q
    · subst hb; rw [upd_same, hq2]; rfl
    · rw [upd_ne hb]
  have sq : ∀ i, SqL X.K (upd (upd H it (ItO l it i)) q (.lst (xs.take i))) l xs := fun i => by
    have h1 := sqL_upd (o := ItO l it i) hl hn
    rcases h1 with h1 | h1
    · refine .inl ?_
      rcases h1 with h1 | ⟨o, h1⟩
      · exact .inl (by rw [upd_ne (Ne.symm hql)]; exact h1)
      · exact .inr ⟨o, by rw [upd_ne (Ne.symm hql)]; exact h1⟩
    · exact .inr h1
  have fin : ∀ s3, Inv X pins σ (upd H it (ItO l it 0)) s3 → codeAny (model X.prog X.w) A1 (.builtin "list.extend.loop" ⟨[.ref q, .ref it, .none], []⟩) Rs s3 := fun s3 I3 =>
    it_loop (H0 := H) hz hr.hd niq sq (fun s4 I4 => hdone it s4 hn I4) xs.length 0 s3 (by omega) (by rw [e0]; exact I3)
  refine wpAny_ite_split (fun _ => ?_) (fun _ => wpAny_pure ⟨plainId_quiet PySem.F.plain_extend_loop _, fin _ I2⟩)
  refine wpAny_bind (wpAny_rule ?_)
  refine wpAny_bind ?_
  show wpAny _ _ (updateSeq q (·.push .none) >>= fun _ => updateSeq q (·.pop)) _ _ _
  obtain ⟨z, its, k3, r3, hl3, e3⟩ := I2.lstM hq2
  cases r3
  refine wpAny_bind (wpAny_updateSeq e3 rfl ?_)
  have I4 := I2.lset (f := (·.push Value.none)) (its' := [Value.none]) (ys := [.non]) (t' := s2.toks) hq2 e3 (by simp) (.cons rfl .nil) (by rw [List.length_singleton, sizeLine_eq]; decide)
  obtain ⟨z4, its4, k4, r4, hl4, e4⟩ := I4.lstM upd_same
  obtain ⟨u4, rfl, ru4⟩ := r4.one
  refine wpAny_updateSeq e4 rfl ?_ (by show 1 ≤ sizeLine; rw [sizeLine_eq]; decide) (by show 0 ≤ sizeLine + 1; exact Nat.zero_le _)
  refine wpAny_pure ⟨plainId_quiet PySem.F.plain_extend_loop _, fin _ ?_⟩
  have I5 := I4.lset (f := (·.pop)) (its := [u4]) (its' := []) (ys := []) (t' := s2.toks) upd_same e4 (by rfl) .nil (Nat.zero_le _)
  rw [upd_upd] at I5
  have hH : upd (upd H it (ItO l it 0)) q (.lst []) = upd H it (ItO l it 0) := e0
  rw [hH] at I5
  exact I5
/-- list(o) -/
def rListO (K : PySem.W.Frag) (C : Addr) (f : Str) : List V → Hp → VK → Prop := fun vs H Q => ∃ a dx fs l xs, vs = [.ref a] ∧ H a = some (.ins C dx fs) ∧ fs.lookup f = some (.ref l) ∧ SqL K H l xs ∧ xs.length < sizeLine ∧ ∀ q it, H q = none → H it = none → q ≠ it → Q (.ref q) (upd (upd H it (ItE it xs.length)) q (.lst xs))
theorem call_listO (ol : OpAt X.K C "__len__" gl) (oi : OpAt X.K C "__iter__" gi) (FL : FnR X.prog X.w X.K X.mg X.base CX0 k gl (spLenF X.K C f)) (FI : FnR X.prog X.w X.K X.mg X.base CX0 k gi (spIterF X.K C f)) (hr : Room (k + 3) X.A) : CallR X (.type "list") (rListO X.K C f) := by
  intro pins s σ H vs us Q I rv h
  obtain ⟨a, dx, fs, l, xs, rfl, ha, hf, hl, hz, hq⟩ := h
  obtain ⟨u, rfl, ru⟩ := rv.one
  cases ru
  refine callType_codes (Q₁ := fun obj s₁ => obj = .ref s.heap.objs.size ∧ s₁ = { s with heap := s.heap.push { cls := .type "list", data := .seq #[] } }) PySem.F.called_list (PySem.F.typeCall_list_1 _) PySem.F.entry_list_init
    (code_list_new _ ⟨rfl, rfl⟩) fun obj s₁ h₁ => ?_
  obtain ⟨rfl, rfl⟩ := h₁
  have hS : (s.heap.push { cls := .type "list", data := .seq #[] }).get? s.heap.objs.size = some { cls := .type "list", data := .seq #[] } := Heap.get?_push_size _ rfl
  refine ⟨⟨_, hS, rfl⟩, PySem.F.args_list_init_2 _ _, ?_⟩
  have fr : H s.heap.objs.size = none := I.hok.fresh (Nat.le_refl _)
  have I1 : Inv X pins σ (upd H s.heap.objs.size (.lst [])) { s with heap := s.heap.push { cls := .type "list", data := .seq #[] } } := I.lnew (its := []) (t' := s.toks) .nil (Nat.zero_le _)
  show wpAny _ _ (do let old ← Builtin.List.listItems (.ref s.heap.objs.size); Builtin.List.listUpdate (.ref s.heap.objs.size) (fun _ => #[]); letGo old.toList.reverse; Builtin.List.listExtendWith (.ref s.heap.objs.size) (.ref a) .none) _ _ _
  refine wpAny_bind ?_
  unfold Builtin.List.listItems
  refine wpAny_bind (wpAny_seqItems hS rfl (wpAny_pure ?_))
  show wpAny _ _ (updateSeq s.heap.objs.size (fun _ => #[]) >>= fun _ => letGo (#[] : Array Value).toList.reverse >>= fun _ => Builtin.List.listExtendWith (.ref s.heap.objs.size) (.ref a) .none) _ _ _
  refine wpAny_bind (wpAny_updateSeq hS rfl ?_)
  have I2 := I1.lset (f := fun _ => #[]) (its := []) (its' := []) (ys := []) (t' := s.toks) upd_same hS rfl .nil (Nat.zero_le _)
  rw [upd_upd] at I2
  refine wpAny_bind (wpAny_letGo ?_)
  have nq : a ≠ s.heap.objs.size := ne_of_none ha fr
  have ha2 : upd H s.heap.objs.size (.lst []) a = some (.ins C dx fs) := by rw [upd_ne nq]; exact ha
  have hql : s.heap.objs.size ≠ l := by
    intro e
    rcases hl with (h | ⟨o, h⟩) | h
    · rw [← e, fr] at h; cases h
    · rw [← e, fr] at h; cases h
    · obtain ⟨o, its, n, h1, _⟩ := h
      have := I.kIn _ _ h1
      rw [← e] at this
      exact absurd (Heap.lt_size this) (Nat.lt_irrefl _)
  refine extend_O (A1 := X.A.in1) (H := upd H s.heap.objs.size (.lst [])) (Rs := wants (fun r s₂ => r = .none ∧ EP X pins σ Q (.ref s.heap.objs.size) s₂) X.xe) ol oi FL FI (show Room (k + 1) X.A.in1.in1 from (show Room (k + 2) X.A.in1 from hr.in1).in1) rfl I2 ha2 hf (sqL_upd hl fr) hz upd_same hql ?_
  intro it s' hn I'
  have ne : s.heap.objs.size ≠ it := fun e => by rw [← e, upd_same] at hn; cases hn
  have hn' : H it = none := by rw [upd_ne (Ne.symm ne)] at hn; exact hn
  rw [upd_comm ne, upd_upd] at I'
  exact ⟨rfl, .ref s.heap.objs.size, _, I', rfl, hq _ it fr hn' ne⟩
end
end DL

/-! DLQ: own operators, built-ins of own objects, star parameters, class methods, f-strings, enumerate, a try that runs through: over data. -/
namespace DL
open PySem PySem.Spec PyProof.Rows L2
/-- what an own class must have: where it is compared, asked after, joined -/
structure OwnC (K : PySem.W.Frag) (C : Addr) : Prop where
  cl : Cls K C
  ha : PySem.W.findIn K (.ref C) "__class__" = some (some (.builtin "object.__class__"))
  hn : PySem.W.specialIn K (.builtin "object.__class__") "__get__" = some (some (.builtin "getset_descriptor.__get__"))
  htk : PySem.W.takesIn K (.builtin "object.__class__") = some true
  hm : PySem.W.mroIn K C (.type "object") = some true
  sf : PySem.W.selfFirst K C = true
  ns : PySem.W.noSeq K C = true
  sub : ∀ T ∈ tyNames, PySem.W.subIn K (.type T) (.ref C) = some false
  ki : ∀ T ∈ tyNames, PySem.W.kitOne K (.type T) (.ref C) = some false
  kc : PySem.W.kitOne K (.ref C) (.ref C) = some true
  kt : ∀ T ∈ tyNames, PySem.W.kitOne K (.ref C) (.type T) = some false
section
variable {K : PySem.W.Frag} {G : Gh} {μ : Mu} {H : Hp} {v : V} {d : D} {C : Addr} {B : Gh} {ρ : DR} {σ : St} {Q : QD} {Qn : VK} {S : DSp}
theorem tyN_mem {n : String} (h : tyN d = some n) : n ∈ tyNames := by
  cases d <;> simp [tyN] at h <;> subst h <;> decide
theorem ty_obj {fs : List (Str × D)} (O : OwnC K C) (S : Hold K G μ H) (r : Rep K G v d) (e : vw μ d = .obj C fs) : TyX K H v (.ref C) := by
  obtain ⟨a, dx, vs, rfl, h1, _⟩ := S.obj r e
  exact .base (.ins h1 O.cl O.ha O.hn O.htk O.hm)
/-- may stand beside an object of the class -/
def okO (C : Addr) : D → Bool
  | .obj C' _ => decide (C' = C)
  | d => (tyN d).isSome
theorem okO_go (O : OwnC K C) (S : Hold K G μ H) (r : Rep K G v d) (h : okO C (vw μ d) = true) : NF K C v H := by
  have oth : ∀ n, tyN (vw μ d) = some n → NF K C v H := fun n e => ⟨.type n, ty_go S r e, by
    unfold PySem.W.notFirst
    rw [O.sub n (tyN_mem e)]
    simp⟩
  cases e : vw μ d with
  | obj C' fs =>
    rw [e] at h
    have h' : C' = C := by simpa [okO] using h
    subst h'
    exact ⟨.ref C', ty_obj O S r e, by unfold PySem.W.notFirst; simp⟩
  | non => exact oth _ (by rw [e]; rfl)
  | bl _ => exact oth _ (by rw [e]; rfl)
  | int _ => exact oth _ (by rw [e]; rfl)
  | str _ => exact oth _ (by rw [e]; rfl)
  | lst _ => exact oth _ (by rw [e]; rfl)
  | tup _ => exact oth _ (by rw [e]; rfl)
  | dic _ => exact oth _ (by rw [e]; rfl)
  | src => rw [e] at h; cases h
  | room => rw [e] at h; cases h
  | ptr _ => rw [e] at h; cases h
  | scr _ => rw [e] at h; cases h
/-- the promise at the values' level from the one over data -/
theorem sp_to {vs : List V} {ds : List D} (S0 : Sat K B G ρ μ σ H) (r : Reps K G vs ds) (h : S ds μ Q noX) (hd : Hand K B G ρ σ Q Qn) : toSp K S vs H Qn E0 :=
  ⟨G, ds, μ, Q, noX, S0.hold, r, h, fun d' μ' v' H' G' g' h' r' q' => hd d' μ' v' H' G' g' ⟨h', S0.env.mono g'⟩ r' q', fun _ _ _ _ _ _ _ _ _ z => z.elim⟩
/-- .. with a wish of one's own -/
theorem sp_toQ {vs : List V} {ds : List D} {Qv : VK} (S0 : Hold K G μ H) (r : Reps K G vs ds) (h : S ds μ Q noX) (hd : ∀ d' μ' v' H' G', Gle G G' → Hold K G' μ' H' → Rep K G' v' d' → Q d' μ' → Qv v' H') : toSp K S vs H Qv E0 :=
  ⟨G, ds, μ, Q, noX, S0, r, h, hd, fun _ _ _ _ _ _ _ _ _ z => z.elim⟩
end
theorem fnr_of {P : Program} {w : World} {K : PySem.W.Frag} {mg : Str → Option Value} {base : Heap} {k : Nat} {f : Addr} {fd : FuncData} {ps : List Str} {sp : Sp} (F : FnOk P w K mg base CX0 k f fd ps sp) (hb : Binds K fd ps []) : FnR P w K mg base CX0 k f sp :=
  (F.raw hb .nil).imp fun vs H Q E h => by rw [List.append_nil]; exact h
section
variable {X : Cx} {pos : Pos} {C g : Addr} {k : Nat} {S : DSp}
/-! operators -/
def opCmpO (C : Addr) (S : DSp) : R2D := fun x y μ Q => oF C (vw μ x) fun _ => okO C (vw μ y) = true ∧ S [x, y] μ Q noX
@[simp ↓] theorem opCmpO_p {x y : D} {μ : Mu} {Q : QD} : opCmpO C S x y μ Q = (oF C (vw μ x) fun _ => okO C (vw μ y) = true ∧ S [x, y] μ Q noX) := id rfl
theorem do_cmpO {op : CmpOp} (hop : ∀ a b, compareOp op a b = richCompare op a b) (O : OwnC X.K C) (o : OpAt X.K C (cmpInfo op).2.1 g) (F : FnR X.prog X.w X.K X.mg X.base CX0 k g (toSp X.K S)) (hr : Room k X.A) :
    OpR X (compareOp op) (rCmpO X.K C (toSp X.K S) E0) ∧ Ref2 X.K B (opCmpO C S) (rCmpO X.K C (toSp X.K S) E0) := by
  refine ⟨op_cmpO hop o F hr pass0, ?_⟩
  intro ρ μ σ H G x y dx dy Q Qn S0 r1 r2 h hd
  obtain ⟨a, dx', vs, fs, rfl, h1, rr, _, ok, q⟩ := oF_go h S0.hold r1
  exact ⟨a, dx', vs, rfl, h1, okO_go O S0.hold r2 ok, sp_to S0 (Reps.cons r1 (Reps.one r2)) q hd⟩
def opBinO (C : Addr) (S : DSp) : R2D := fun x y μ Q => oF C (vw μ x) fun _ => oF C (vw μ y) fun _ => S [x, y] μ Q noX
@[simp ↓] theorem opBinO_p {x y : D} {μ : Mu} {Q : QD} : opBinO C S x y μ Q = (oF C (vw μ x) fun _ => oF C (vw μ y) fun _ => S [x, y] μ Q noX) := id rfl
theorem do_binO {op : Operator} (O : OwnC X.K C) (o : OpAt X.K C (PySem.dunder op.info.2) g) (F : FnR X.prog X.w X.K X.mg X.base CX0 k g (toSp X.K S)) (hr : Room k X.A) :
    OpR X (binaryOp op) (rBinO C (toSp X.K S) E0) ∧ Ref2 X.K B (opBinO C S) (rBinO C (toSp X.K S) E0) := by
  refine ⟨op_binO O.sf o F hr pass0, ?_⟩
  intro ρ μ σ H G x y dx dy Q Qn S0 r1 r2 h hd
  obtain ⟨a, dx', vs, fs, rfl, h1, rr, _, h⟩ := oF_go h S0.hold r1
  obtain ⟨b, dy', ws, gs, rfl, h2, rr2, _, q⟩ := oF_go h S0.hold r2
  exact ⟨a, dx', vs, b, dy', ws, rfl, h1, rfl, h2, sp_to S0 (Reps.cons r1 (Reps.one r2)) q hd⟩
def opInpO (C : Addr) (S : DSp) : R2D := fun x y μ Q => oF C (vw μ x) fun _ => S [x, y] μ Q noX
@[simp ↓] theorem opInpO_p {x y : D} {μ : Mu} {Q : QD} : opInpO C S x y μ Q = (oF C (vw μ x) fun _ => S [x, y] μ Q noX) := id rfl
theorem do_inpO {op : Operator} (O : OwnC X.K C) (o : OpAt X.K C (PySem.dunderI op.info.2) g) (F : FnR X.prog X.w X.K X.mg X.base CX0 k g (toSp X.K S)) (hr : Room k X.A) :
    OpR X (inplaceOp op) (rInpO C (toSp X.K S) E0) ∧ Ref2 X.K B (opInpO C S) (rInpO C (toSp X.K S) E0) := by
  refine ⟨op_inpO O.sf o F hr pass0, ?_⟩
  intro ρ μ σ H G x y dx dy Q Qn S0 r1 r2 h hd
  obtain ⟨a, dx', vs, fs, rfl, h1, rr, _, q⟩ := oF_go h S0.hold r1
  exact ⟨a, dx', vs, rfl, h1, sp_to S0 (Reps.cons r1 (Reps.one r2)) q hd⟩
/-! o[i] = v -/
def dgSubO (C : Addr) (S : DSp) (To Ti : TDE) : TDG := fun d ρ μ Q => To ρ μ fun o μ1 => Ti ρ μ1 fun i μ2 => oF C (vw μ2 o) fun _ => S [o, i, d] μ2 (fun _ μ3 => Q ρ μ3) noX
@[simp ↓] theorem dgSubO_p {To Ti : TDE} {d : D} {ρ} {μ} {Q} : dgSubO C S To Ti d ρ μ Q = (To ρ μ fun o μ1 => Ti ρ μ1 fun i μ2 => oF C (vw μ2 o) fun _ => S [o, i, d] μ2 (fun _ μ3 => Q ρ μ3) noX) := id rfl
theorem dg_subO {o i : Expr} {to ti : TE} {To Ti : TDE} (O : OwnC X.K C) (oa : OpAt X.K C "__setitem__" g) (F : FnR X.prog X.w X.K X.mg X.base CX0 k g (toSp X.K S)) (hr : Room k X.A) (ho : DE X B o to To) (hi : DE X B i ti Ti) (ha : ∀ v, assign (.Subscript o i pos) X.env v = (do
      let ov ← holding [v] (eval o X.env)
      let iv ← holding [v, ov] (eval i X.env)
      standAt pos
      holding [v, ov, iv] (setItem ov iv v)
      release [v, ov, iv] []) := by intro _; rfl) : DG X B (.Subscript o i pos) (gSub to ti (rSetO C (toSp X.K S) E0)) (dgSubO C S To Ti) :=
  ⟨pg_sub ho.pe hi.pe (set_O O.ns oa F hr pass0) ha, fun d v ρ μ σ H G Q Qn S0 r h hd => ho.ref ρ μ σ H G _ _ S0 h fun o' μ1 ov H1 G1 g1 S1 r1 q1 => hi.ref ρ μ1 σ H1 G1 _ _ S1 q1 fun i' μ2 iv H2 G2 g2 S2 r2 q2 => by
    obtain ⟨a, dx', vs, fs, rfl, h1, rr, _, q⟩ := oF_go q2 S2.hold (r1.mono g2)
    exact ⟨a, dx', vs, rfl, h1, sp_toQ S2.hold (Reps.cons (r1.mono g2) (Reps.cons r2 (Reps.one (r.mono (g1.trans g2))))) q fun d' μ' v' H' G' g' h' r' q' => hd ρ μ' σ H' G' ((g1.trans g2).trans g') ⟨h', S2.env.mono g'⟩ q'⟩⟩
/-! len(o), str(o), list(o) -/
def iS (v : D) (P : Int → Prop) : Prop := match v with | .int i => P i | _ => False
@[simp ↓] theorem iS_p {v : D} {P : Int → Prop} : iS v P = (match v with | .int i => P i | _ => False) := id rfl
def cLenO (C : Addr) (S : DSp) : RCD := fun ds μ Q => match ds with
  | [x] => oF C (vw μ x) fun _ => S [x] μ (fun v μ' => iS v fun i => (0 ≤ i ∧ i < 2 ^ 63) ∧ Q (.int i) μ') noX
  | _ => False
@[simp ↓] theorem cLenO_p {x : D} {μ : Mu} {Q : QD} : cLenO C S [x] μ Q = (oF C (vw μ x) fun _ => S [x] μ (fun v μ' => iS v fun i => (0 ≤ i ∧ i < 2 ^ 63) ∧ Q (.int i) μ') noX) := id rfl
theorem dc_lenO (o : OpAt X.K C "__len__" g) (F : FnR X.prog X.w X.K X.mg X.base CX0 k g (toSp X.K S)) (hr : Room (k + 1) X.A) : CallR X (.builtin "len") (rLenO C (toSp X.K S) E0) ∧ RefC X.K B (cLenO C S) (rLenO C (toSp X.K S) E0) := by
  refine ⟨call_lenO o F hr pass0, ?_⟩
  intro ρ μ σ H G vs ds Q Qn S0 r h hd
  unfold cLenO at h
  split at h
  · obtain ⟨v, rfl, rv⟩ := reps1 r
    obtain ⟨a, dx', ws, fs, rfl, h1, rr, _, q⟩ := oF_go h S0.hold rv
    refine ⟨a, dx', ws, rfl, h1, sp_toQ S0.hold (Reps.one rv) q fun d' μ' v' H' G' g' h' r' q' => ?_⟩
    cases d' with
    | int i => exact ⟨i, r'.ofInt, q'.1, hd (.int i) μ' _ H' G' g' ⟨h', S0.env.mono g'⟩ (.int i) q'.2⟩
    | _ => exact False.elim q'
  · exact h.elim
def cStrO (C : Addr) (S : DSp) : RCD := fun ds μ Q => match ds with
  | [x] => oF C (vw μ x) fun _ => S [x] μ (fun v μ' => sS v fun s => Q (.str s) μ') noX
  | _ => False
@[simp ↓] theorem cStrO_p {x : D} {μ : Mu} {Q : QD} : cStrO C S [x] μ Q = (oF C (vw μ x) fun _ => S [x] μ (fun v μ' => sS v fun s => Q (.str s) μ') noX) := id rfl
theorem dc_strO (o : OpAt X.K C "__str__" g) (F : FnR X.prog X.w X.K X.mg X.base CX0 k g (toSp X.K S)) (hr : Room (k + 2) X.A) : CallR X (.type "str") (rStrO C (toSp X.K S) E0) ∧ RefC X.K B (cStrO C S) (rStrO C (toSp X.K S) E0) := by
  refine ⟨call_strO o F hr pass0, ?_⟩
  intro ρ μ σ H G vs ds Q Qn S0 r h hd
  unfold cStrO at h
  split at h
  · obtain ⟨v, rfl, rv⟩ := reps1 r
    obtain ⟨a, dx', ws, fs, rfl, h1, rr, _, q⟩ := oF_go h S0.hold rv
    refine ⟨a, dx', ws, rfl, h1, sp_toQ S0.hold (Reps.one rv) q fun d' μ' v' H' G' g' h' r' q' => ?_⟩
    cases d' with
    | str i => exact ⟨i, r'.ofStr, hd (.str i) μ' _ H' G' g' ⟨h', S0.env.mono g'⟩ (.str i) q'⟩
    | _ => exact False.elim q'
  · exact h.elim
def cListO (c : Bool) (C : Addr) (f : Str) : RCD := fun ds μ Q => match ds with
  | [x] => oF C (vw μ x) fun fs => oS (fget fs f) fun v => lS (vw μ v) fun xs => xs.length ≤ 16000000 ∧ mkL c xs μ Q
  | _ => False
@[simp ↓] theorem cListO_p {c : Bool} {f : Str} {x : D} {μ : Mu} {Q : QD} : cListO c C f [x] μ Q = (oF C (vw μ x) fun fs => oS (fget fs f) fun v => lS (vw μ v) fun xs => xs.length ≤ 16000000 ∧ mkL c xs μ Q) := id rfl
theorem ofLstRef {K : PySem.W.Frag} {G : Gh} {μ : Mu} {H : Hp} {v : V} {d : D} {xs : List D} (S : Hold K G μ H) (r : Rep K G v d) (e : vw μ d = .lst xs) : ∃ a vs, v = .ref a ∧ H a = some (.lst vs) ∧ Reps K G vs xs := S.lst r e
theorem dc_listO (c : Bool) {f : Str} {gl gi : Addr} (ol : OpAt X.K C "__len__" gl) (oi : OpAt X.K C "__iter__" gi) (FL : FnR X.prog X.w X.K X.mg X.base CX0 k gl (spLenF X.K C f)) (FI : FnR X.prog X.w X.K X.mg X.base CX0 k gi (spIterF X.K C f)) (hr : Room (k + 3) X.A) :
    CallR X (.type "list") (rListO X.K C f) ∧ RefC X.K B (cListO c C f) (rListO X.K C f) := by
  refine ⟨call_listO ol oi FL FI hr, ?_⟩
  intro ρ μ σ H G vs ds Q Qn S0 r h hd
  unfold cListO at h
  split at h
  · obtain ⟨v, rfl, rv⟩ := reps1 r
    obtain ⟨a, dx', ws, fs, rfl, h1, rr, _, h⟩ := oF_go h S0.hold rv
    rw [oS_eq] at h
    obtain ⟨d, e, h⟩ := h
    rw [lS_eq] at h
    obtain ⟨xs, e2, l, h⟩ := h
    obtain ⟨u, lu, ru⟩ := (rr.fget f).1 d e
    obtain ⟨b, us, rfl, h2, r2⟩ := ofLstRef S0.hold ru e2
    refine ⟨a, dx', ws, b, us, rfl, h1, lu, SqL.of h2, sz_lt (by rw [r2.1]; exact l), fun q it nq ni ne => ?_⟩
    have S1 := S0.ext (Ext.new (o := ItE it us.length) ni)
    exact mkL_go h S1 r2 hd (by rw [upd_ne ne]; exact nq)
  · exact h.elim
/-! isinstance(x, C), isinstance(o, T) -/
def isiO (C : Addr) (d : D) : Option Bool := match d with
  | .obj C' _ => if C' = C then some true else none
  | d => (tyN d).map fun _ => false
def isiT (C : Addr) (T : String) (d : D) : Option Bool := match d with
  | .obj C' _ => if C' = C then some false else none
  | d => isiD T d
@[simp] theorem isiO_obj {fs : List (Str × D)} : isiO C (.obj C fs) = some true := by simp [isiO]
@[simp] theorem isiO_str {s : Str} : isiO C (.str s) = some false := rfl
@[simp] theorem isiO_int {s : Int} : isiO C (.int s) = some false := rfl
@[simp] theorem isiO_bl {s : Bool} : isiO C (.bl s) = some false := rfl
@[simp] theorem isiO_non : isiO C .non = some false := rfl
@[simp] theorem isiO_lst {s : List D} : isiO C (.lst s) = some false := rfl
@[simp] theorem isiO_tup {s : List D} : isiO C (.tup s) = some false := rfl
@[simp] theorem isiT_obj {T : String} {fs : List (Str × D)} : isiT C T (.obj C fs) = some false := by simp [isiT]
@[simp] theorem isiT_str {T : String} {s : Str} : isiT C T (.str s) = some (decide ("str" = T)) := rfl
@[simp] theorem isiT_lst {T : String} {s : List D} : isiT C T (.lst s) = some (decide ("list" = T)) := rfl
@[simp] theorem isiT_tup {T : String} {s : List D} : isiT C T (.tup s) = some (decide ("tuple" = T)) := rfl
@[simp] theorem isiT_int {T : String} {s : Int} : isiT C T (.int s) = some (decide ("int" = T)) := rfl
@[simp] theorem isiT_non {T : String} : isiT C T .non = some (decide ("NoneType" = T)) := rfl
def dIsiO (C : Addr) (Tx : TDE) : TDE := fun ρ μ Q => Tx ρ μ fun d μ1 => oS (isiO C (vw μ1 d)) fun b => Q (.bl b) μ1
@[simp ↓] theorem dIsiO_p {Tx : TDE} {ρ} {μ} {Q} : dIsiO C Tx ρ μ Q = (Tx ρ μ fun d μ1 => oS (isiO C (vw μ1 d)) fun b => Q (.bl b) μ1) := id rfl
def dIsiT (C : Addr) (T : String) (Tx : TDE) : TDE := fun ρ μ Q => Tx ρ μ fun d μ1 => oS (isiT C T (vw μ1 d)) fun b => Q (.bl b) μ1
@[simp ↓] theorem dIsiT_p {T : String} {Tx : TDE} {ρ} {μ} {Q} : dIsiT C T Tx ρ μ Q = (Tx ρ μ fun d μ1 => oS (isiT C T (vw μ1 d)) fun b => Q (.bl b) μ1) := id rfl
theorem de_isiO {x : Str} {e : Expr} {te : TE} {Tx : TDE} {p p2 : Pos} (O : OwnC X.K C) (hC : X.mg x = some (.ref C)) (he : DE X B e te Tx) (hm : X.mg "isinstance" = none) (hg : Gl X "isinstance" := by rfl) (hg2 : Gl X x := by rfl) (hdb : (x == ("__debug__" : Str)) = false := by decide)
    (h1 : starEach [e, .Name x p2] X.env = (false, eval e X.env) :: starEach [.Name x p2] X.env := by rfl) (h1' : starEach [.Name x p2] X.env = (false, eval (.Name x p2) X.env) :: starEach [] X.env := by rfl) (h2 : (backTo pos (starEach [.Name x p2] X.env)).any (·.1) = false := by rfl) :
    DE X B (.Call (.Name "isinstance" p) [e, .Name x p2] [] pos) (tCB (rIsi X.K) (tCons te (tCons (tC (.ref C)) tNil))) (dIsiO C Tx) :=
  ⟨pe_callB call_isi hg hm (by decide +kernel) (pa_cons he.pe (pa_cons (pe_glob hg2 hC rfl hdb) pa_nil h1') h1) (by decide) (by decide) h1 h2, fun ρ μ σ H G Q Qn S0 h hd => he.ref ρ μ σ H G _ _ S0 h fun d μ1 v H1 G1 g1 S1 r1 q1 => by
    rw [oS_eq] at q1
    obtain ⟨b, e, q⟩ := q1
    have oth : ∀ n, tyN (vw μ1 d) = some n → b = false → tCB (rIsi X.K) (tCons (tC v) (tCons (tC (.ref C)) tNil)) σ H1 Qn := fun n e1 eb => by
      subst eb
      exact ⟨v, .ref C, .type n, .ref C, false, rfl, .own C, ty_go S1.hold r1 e1, O.ki n (tyN_mem e1), (hd.mono g1).now S1 (.bl _) q⟩
    cases ed : vw μ1 d with
    | obj C' fs =>
      rw [ed] at e
      unfold isiO at e
      dsimp only at e
      split at e
      · next ec =>
        subst ec
        cases e
        exact ⟨v, .ref C', .ref C', .ref C', true, rfl, .own C', ty_obj O S1.hold r1 ed, O.kc, (hd.mono g1).now S1 (.bl _) q⟩
      · cases e
    | non => rw [ed] at e; cases e; exact oth _ (by rw [ed]; rfl) rfl
    | bl _ => rw [ed] at e; cases e; exact oth _ (by rw [ed]; rfl) rfl
    | int _ => rw [ed] at e; cases e; exact oth _ (by rw [ed]; rfl) rfl
    | str _ => rw [ed] at e; cases e; exact oth _ (by rw [ed]; rfl) rfl
    | lst _ => rw [ed] at e; cases e; exact oth _ (by rw [ed]; rfl) rfl
    | tup _ => rw [ed] at e; cases e; exact oth _ (by rw [ed]; rfl) rfl
    | dic _ => rw [ed] at e; cases e; exact oth _ (by rw [ed]; rfl) rfl
    | src => rw [ed] at e; cases e
    | room => rw [ed] at e; cases e
    | ptr _ => rw [ed] at e; cases e
    | scr _ => rw [ed] at e; cases e⟩
theorem de_isiT (T : String) (hT : T ∈ tyNames) {x : Str} {e : Expr} {te : TE} {Tx : TDE} {p p2 : Pos} (O : OwnC X.K C) (he : DE X B e te Tx) (hm : X.mg "isinstance" = none) (hm2 : X.mg x = none) (hv2 : bootBuiltins x = some (.type T)) (hg : Gl X "isinstance" := by rfl) (hg2 : Gl X x := by rfl) (hn : x ≠ "__name__" := by decide) (hdb : (x == ("__debug__" : Str)) = false := by decide)
    (h1 : starEach [e, .Name x p2] X.env = (false, eval e X.env) :: starEach [.Name x p2] X.env := by rfl) (h1' : starEach [.Name x p2] X.env = (false, eval (.Name x p2) X.env) :: starEach [] X.env := by rfl) (h2 : (backTo pos (starEach [.Name x p2] X.env)).any (·.1) = false := by rfl) :
    DE X B (.Call (.Name "isinstance" p) [e, .Name x p2] [] pos) (tCB (rIsi X.K) (tCons te (tCons (tC (.ty T)) tNil))) (dIsiT C T Tx) :=
  ⟨pe_callB call_isi hg hm (by decide +kernel) (pa_cons he.pe (pa_cons (pe_bltn hg2 hm2 hv2 rfl hn hdb) pa_nil h1') h1) (by decide) (by decide) h1 h2, fun ρ μ σ H G Q Qn S0 h hd => he.ref ρ μ σ H G _ _ S0 h fun d μ1 v H1 G1 g1 S1 r1 q1 => by
    rw [oS_eq] at q1
    obtain ⟨b, e, q⟩ := q1
    cases ed : vw μ1 d with
    | obj C' fs =>
      rw [ed] at e
      unfold isiT at e
      dsimp only at e
      split at e
      · next ec =>
        subst ec
        cases e
        exact ⟨v, .ty T, .ref C', .type T, false, rfl, .ty T, ty_obj O S1.hold r1 ed, O.kt T hT, (hd.mono g1).now S1 (.bl _) q⟩
      · cases e
    | _ =>
      rw [ed] at e
      have e' : isiD T (vw μ1 d) = some b := by rw [ed]; exact e
      obtain ⟨n, e1, e2⟩ := isi_kit hT e'
      exact ⟨v, .ty T, .type n, .type T, b, rfl, .ty T, ty_go S1.hold r1 e1, kit_ty e2, (hd.mono g1).now S1 (.bl b) q⟩⟩
end
end DL

/-! DLR: star parameters, classes made, class methods, f-strings, enumerate, a try that runs through, comprehensions over a dict. -/
namespace DL
open PySem PySem.Spec PyProof.Rows L2
/-! ### def f(self, *v) -/
/-- the arguments behind the first one as a tuple -/
def varS (S : DSp) : DSp := fun ds μ Q E => ∃ d xs, ds = d :: xs ∧ xs.length ≤ sizeLine ∧ S [d, .tup xs] μ Q E
def varS0 (S : DSp) : DSp := fun ds μ Q E => ds.length ≤ sizeLine ∧ S [.tup ds] μ Q E
section
variable {P : Program} {w : World} {K : PySem.W.Frag} {mg : Str → Option Value} {base : Heap}
theorem fn_okV {x qual p1 pv : Str} {st : Stmt} {f : Addr} {fd : FuncData} {N : List Str} {k : Nat} {S : DSp} (F : Fun K x qual st f fd) (SC : FnScope N [p1, pv] (defScope st))
    (h0 : ∀ (kV doc pm : Value) (an : Option Addr) (cdv ct : Value) (a : Value), bindArgs (PySem.W.fnOf x qual (defArgs st) (defBody st) (defScope st) .none kV doc pm an cdv ct) ⟨[a], []⟩ = (newTuple [] >>= fun t => pure [(p1, a), (pv, t)]))
    (h1 : ∀ (kV doc pm : Value) (an : Option Addr) (cdv ct : Value) (a r : Value) (rs : List Value), bindArgs (PySem.W.fnOf x qual (defArgs st) (defBody st) (defScope st) .none kV doc pm an cdv ct) ⟨a :: r :: rs, []⟩ = (newTuple (r :: rs) >>= fun t => pure [(p1, a), (pv, t)]))
    (len : ∀ ds μ Q E, S ds μ Q E → ds.length = 2)
    (hb : ∀ (B : Gh) (cdv : Value) (A : Around) (outer : List Env) (s : Shared) (H : Hp) (E : XK), Room k (A.deeper (envOfC qual (defScope st) s.heap.objs.size f cdv)) →
      ∃ t T, DSs (cxOf CX0 P w K mg base N qual (defScope st) f cdv A outer s H E).nox B (defBody st) t T ∧ ∀ ds μ Q EE, S ds μ Q EE → T { nx := fun _ μ' => Fg (Q .non) μ', rt := fun d μ' => Fg (Q d) μ' } (startD N ds) μ) : FnR P w K mg base CX0 (k + 1) f (toSp K (varS S)) := by
  obtain ⟨oc, od, kV, doc, pm, an, cdv, ct, osl, rfl, lk, hcd⟩ := F.ex
  have A1 := StX.fn_star (P := P) (w := w) (mg := mg) (base := base) (k := k) (ps := [p1]) (pv := pv) (sp := toSp K S) lk hcd SC StX.cxUp_none (StX.bind_star1 (B := fun us => bindArgs _ ⟨us, []⟩) (h0 kV doc pm an cdv ct) (h1 kV doc pm an cdv ct)) fun A outer s H vs Q E hr ⟨G, ds, μ, QQ, EE, hh, r, sp, q, _⟩ => by
    obtain ⟨t, T, h, b⟩ := hb G cdv A outer s H E hr
    refine ⟨t, h.pss.nox, h.ref (startD N ds) μ (start N vs) H G _ _ ⟨hh, envr_start N r (Gle.refl G)⟩ (b ds μ QQ EE sp) ⟨?_, ?_, ?_, ?_⟩⟩
    · exact fun ρ' μ' σ' H' G' g S' ⟨μ0, s0, z⟩ => q .non μ0 .non H' G' g (S'.hold.sub s0) .non z
    · exact fun d μ' v H' G' g S' rv ⟨μ0, s0, z⟩ => q d μ0 v H' G' g (S'.sub s0) rv z
    · exact fun _ _ _ _ _ _ _ z => z.elim
    · exact fun _ _ _ _ _ _ _ z => z.elim
  refine A1.imp fun vs H Q E ⟨G, ds, μ, QQ, EE, hh, r, ⟨d, xs, ed, l, sp⟩, q, qe⟩ => ?_
  subst ed
  obtain ⟨v, ws, rfl, rv, rw'⟩ := r.cons_inv
  refine ⟨[v], ws, rfl, rfl, by rw [rw'.1]; exact l, fun p hp => ?_⟩
  have hn := hh.free hp
  have g : Gle G (G.frz p (.tup ws)) := Gle.frz hn.1
  exact ⟨G.frz p (.tup ws), [d, .tup xs], μ, QQ, EE, hh.new hp, Reps.cons (rv.mono g) (Reps.one (.tup (.inl (.inl (show upd G.fr p (.tup ws) p = some (.tup ws) from upd_same))) rw'.1 fun i v d a b => (rw'.2 i v d a b).mono g)), sp,
    fun d μ' v H' G' g' => q d μ' v H' G' (g.trans g'), fun cls fs μ' od H' G' g' => qe cls fs μ' od H' G' (g.trans g')⟩
end
/-- C(..) whose __init__ has a star parameter -/
def MadeR (P : Program) (w : World) (K : PySem.W.Frag) (mg : Str → Option Value) (base : Heap) (k : Nat) (C : Addr) (S : DSp) : Prop :=
  ∃ f, Mk K C f ∧ FnR P w K mg base CX0 k f (toSp K (varS S))
/-- what is wanted of the new object -/
def mkO (C : Addr) (S : DSp) (ds : List D) (μ : Mu) (Q : QD) : Prop := ds.length ≤ sizeLine ∧ ∀ x, μ x = none → S [.ptr x, .tup ds] (mup μ x (.ins C [])) (fun v μ2 => v = .non ∧ Q (.ptr x) μ2) noX
theorem mkO_go {K : PySem.W.Frag} {C : Addr} {S : DSp} {ds : List D} {vs : List V} {μ : Mu} {Q : QD} {Qn : VK} {B G : Gh} {ρ : DR} {σ : St} {H : Hp} (h : mkO C S ds μ Q) (S1 : Sat K B G ρ μ σ H) (r : Reps K G vs ds) (hd : Hand K B G ρ σ Q Qn) :
    ∀ x dx, H x = none → H dx = none → dx ≠ x → toSp K (varS S) (V.ref x :: vs) (upd (upd H dx (.own x)) x (.ins C dx [])) (fun v H2 => v = .non ∧ Qn (.ref x) H2) E0 := by
  intro x dx nx ndx ne
  have nx2 : (upd H dx (.own x)) x = none := by rw [upd_ne (Ne.symm ne)]; exact nx
  have h2 : Hold K G (mup μ x (.ins C [])) (upd (upd H dx (.own x)) x (.ins C dx [])) := (S1.hold.ext (Ext.new ndx)).cellNew nx2 (show CellR K G (.ins C dx []) (.ins C []) from ⟨rfl, FReps.nil⟩)
  exact ⟨G, .ptr x :: ds, _, fun v μ2 => v = .non ∧ Q (.ptr x) μ2, noX, h2, Reps.cons (.ptr x) r, ⟨_, ds, rfl, h.1, h.2 x (S1.hold.free nx).2.1⟩, fun d' μ' v' H' G' g' h' r' ⟨e, q'⟩ => by subst e; exact ⟨r'.ofNon, hd (.ptr x) μ' (.ref x) H' G' g' ⟨h', S1.env.mono g'⟩ (.ptr x) q'⟩, fun _ _ _ _ _ _ _ _ _ z => z.elim⟩
section
variable {X : Cx} {pos : Pos} {C f g : Addr} {k : Nat} {S : DSp} {x : Str} {p : Pos} {e : Expr} {es : List Expr} {t : TA} {T : TDA} {te : TE} {Te : TDE}
@[simp ↓] theorem mkO_p {ds : List D} {μ : Mu} {Q : QD} : mkO C S ds μ Q = (ds.length ≤ sizeLine ∧ ∀ x, μ x = none → S [.ptr x, .tup ds] (mup μ x (.ins C [])) (fun v μ2 => v = .non ∧ Q (.ptr x) μ2) noX) := id rfl
def dMakeR (C : Addr) (S : DSp) (T : TDA) : TDE := fun ρ μ Q => T ρ μ fun ds μ1 => mkO C S ds μ1 Q
@[simp ↓] theorem dMakeR_p {ρ} {μ} {Q} : dMakeR C S T ρ μ Q = (T ρ μ fun ds μ1 => mkO C S ds μ1 Q) := id rfl
theorem ref_makeR {K : PySem.W.Frag} (ha : RefA K B T t) : RefE K B (dMakeR C S T) (StX.tMakeR C (toSp K (varS S)) E0 t) := fun ρ μ σ H G Q Qn S0 q hd => ha ρ μ σ H G _ _ S0 q fun ds μ1 vs H1 G1 g1 S1 r1 q1 => mkO_go q1 S1 r1 (hd.mono g1)
theorem de_makeR (M : Mk X.K C f) (F : FnR X.prog X.w X.K X.mg X.base CX0 k f (toSp X.K (varS S))) (hr : Room (k + 1) X.A) (hm : X.mg x = some (.ref C)) (ha : DA X B (e :: es) t T) (hg : Gl X x := by rfl)
    (hdb : (x == ("__debug__" : Str)) = false := by decide) (he : starEach (e :: es) X.env = (false, eval e X.env) :: starEach es X.env := by rfl) (hpl : (backTo pos (starEach es X.env)).any (·.1) = false := by rfl) :
    DE X B (.Call (.Name x p) (e :: es) [] pos) (StX.tMakeR C (toSp X.K (varS S)) E0 t) (dMakeR C S T) := ⟨StX.pe_makeR M F hr hg hm pass0 ha.pa hdb he hpl, ref_makeR ha.ref⟩
theorem de_makeR0 (M : Mk X.K C f) (F : FnR X.prog X.w X.K X.mg X.base CX0 k f (toSp X.K (varS S))) (hr : Room (k + 1) X.A) (hm : X.mg x = some (.ref C)) (hg : Gl X x := by rfl) (hdb : (x == ("__debug__" : Str)) = false := by decide) :
    DE X B (.Call (.Name x p) [] [] pos) (StX.tMakeR C (toSp X.K (varS S)) E0 tNil) (dMakeR C S dNil) := ⟨⟨fun pins s σ H Q I h =>
      wpAny_Call_Name_kw (ld_glob I hg hm (PySem.W.callWith_K0 I.kIn M.kp (StX.run_makeR (us := []) M F hr pass0 I .nil h)) hdb)⟩, ref_makeR da_nil.ref⟩
/-- cls(), cls a local -/
def dMakeV (i : Nat) (C : Addr) (S : DSp) : TDE := fun ρ μ Q => ρ[i]? = some (some (.ptr C)) ∧ mkO C S [] μ Q
@[simp ↓] theorem dMakeV_p {i : Nat} {ρ} {μ} {Q} : dMakeV i C S ρ μ Q = (ρ[i]? = some (some (.ptr C)) ∧ mkO C S [] μ Q) := id rfl
def tMakeV (i : Nat) (C : Addr) (sp : Sp) : TE := fun σ H Q => σ[i]? = some (some (.ref C)) ∧ StX.tMakeR C sp E0 tNil σ H Q
theorem de_makeV (i : Nat) (M : Mk X.K C f) (F : FnR X.prog X.w X.K X.mg X.base CX0 k f (toSp X.K (varS S))) (hr : Room (k + 1) X.A) (hN : X.N[i]? = some x := by rfl) (hv : Vis X.env.scope x := by first | exact Or.inl rfl | exact Or.inr (Or.inl rfl) | exact Or.inr (Or.inr rfl)) (hdb : (x == ("__debug__" : Str)) = false := by decide) (hcd : (x == ("__classdict__" : Str)) = false := by decide) :
    DE X B (.Call (.Name x p) [] [] pos) (tMakeV i C (toSp X.K (varS S))) (dMakeV i C S) := ⟨⟨fun pins s σ H Q I h => by
      obtain ⟨hs, h⟩ := h
      refine wpAny_Call_Name_kw (thn ((pe_var (pos := p) (i := i) hN hv hdb hcd).run pins s σ H (fun v H1 => v = .ref C ∧ H1 = H) I ⟨.ref C, hs, rfl, rfl⟩) fun u s1 ⟨v, H1, I1, r1, ev, eH⟩ => ?_)
      subst ev; subst eH
      cases r1
      exact PySem.W.callWith_K0 I1.kIn M.kp (StX.run_makeR (us := []) M F hr pass0 I1 .nil h)⟩,
    fun ρ μ σ H G Q Qn S0 ⟨e, q⟩ hd => by
      obtain ⟨v, ev, rv⟩ := S0.env.2 i _ e
      cases rv
      exact ⟨ev, ref_makeR da_nil.ref ρ μ σ H G Q Qn S0 q hd⟩⟩
/-- C(*e), e a list or a tuple -/
def seqS (v : D) (P : List D → Prop) : Prop := match v with | .lst xs => P xs | .tup xs => P xs | _ => False
@[simp ↓] theorem seqS_l {xs : List D} {P : List D → Prop} : seqS (.lst xs) P = P xs := id rfl
@[simp ↓] theorem seqS_t {xs : List D} {P : List D → Prop} : seqS (.tup xs) P = P xs := id rfl
theorem seqS_go {K : PySem.W.Frag} {G : Gh} {μ : Mu} {H : Hp} {v : V} {d : D} {P : List D → Prop} (h : seqS (vw μ d) P) (S : Hold K G μ H) (r : Rep K G v d) : ∃ a vs xs, v = .ref a ∧ (SqT K H a vs ∨ SqL K H a vs) ∧ Reps K G vs xs ∧ P xs := by
  cases e : vw μ d with
  | lst xs => rw [e] at h; obtain ⟨a, vs, rfl, h1, rr⟩ := S.lst r e; exact ⟨a, vs, xs, rfl, .inr (SqL.of h1), rr, h⟩
  | tup xs => rw [e] at h; obtain ⟨a, vs, rfl, h1, rr⟩ := S.tup r e; exact ⟨a, vs, xs, rfl, .inl h1, rr, h⟩
  | _ => rw [e] at h; exact False.elim h
def dMakeS (C : Addr) (S : DSp) (T : TDE) : TDE := fun ρ μ Q => T ρ μ fun d μ1 => seqS (vw μ1 d) fun xs => mkO C S xs μ1 Q
@[simp ↓] theorem dMakeS_p {ρ} {μ} {Q} : dMakeS C S Te ρ μ Q = (Te ρ μ fun d μ1 => seqS (vw μ1 d) fun xs => mkO C S xs μ1 Q) := id rfl
def tMakeS (K : PySem.W.Frag) (C : Addr) (sp : Sp) (te : TE) : TE := fun σ H Q => te σ H fun y H1 => ∃ a xs, y = V.ref a ∧ (SqT K H1 a xs ∨ SqL K H1 a xs) ∧ ∀ x dx, H1 x = none → H1 dx = none → dx ≠ x → sp (V.ref x :: xs) (upd (upd H1 dx (.own x)) x (.ins C dx [])) (fun v H2 => v = .non ∧ Q (.ref x) H2) E0
theorem de_makeS {sp_ : Pos} (M : Mk X.K C f) (F : FnR X.prog X.w X.K X.mg X.base CX0 k f (toSp X.K (varS S))) (hr : Room (k + 1) X.A) (hm : X.mg x = some (.ref C)) (he : DE X B e te Te) (hg : Gl X x := by rfl) (hdb : (x == ("__debug__" : Str)) = false := by decide)
    (hst : starEach [.Starred e sp_] X.env = [(true, eval e X.env)] := by rfl) : DE X B (.Call (.Name x p) [.Starred e sp_] [] pos) (tMakeS X.K C (toSp X.K (varS S)) te) (dMakeS C S Te) :=
  ⟨⟨fun pins s σ H Q I h => wpAny_Call_Name_kw (ld_glob I hg hm (PySem.W.callWith_S (h₀ := X.base) I.ok.mod.kin M.kp (thn (he.pe.run pins s σ H _ I h) fun v s1 ⟨y, H1, I1, ry, a, xs, ey, hxs, q⟩ => by
      subst ey
      cases (show v = Value.ref a from ry)
      exact StX.star_any I1 hxs fun us s2 I2 rv => ⟨I2.kIn, StX.run_makeR M F hr pass0 I2 rv q⟩) hst) hdb)⟩,
    fun ρ μ σ H G Q Qn S0 h hd => he.ref ρ μ σ H G _ _ S0 h fun d μ1 v H1 G1 g1 S1 r1 q1 => by
      obtain ⟨a, vs, xs, rfl, h1, rr, q⟩ := seqS_go q1 S1.hold r1
      exact ⟨a, vs, rfl, h1, mkO_go q S1 rr (hd.mono g1)⟩⟩
/-! C.m(..), a classmethod -/
structure CMeth (K : PySem.W.Frag) (C : Addr) (m : Str) (g : Addr) : Prop where
  ex : ∃ mc p, ClX.CRead K C mc ∧ ClX.CMet K C mc m p g
def CalledC (P : Program) (w : World) (K : PySem.W.Frag) (mg : Str → Option Value) (base : Heap) (k : Nat) (C : Addr) (m : Str) (ps : List Str) (S : DSp) : Prop :=
  ∃ f fd, CMeth K C m f ∧ Binds K fd ps [] ∧ FnOk P w K mg base CX0 k f fd ps (toSp K S)
def dCMeth (C : Addr) (S : DSp) (T : TDA) : TDE := fun ρ μ Q => T ρ μ fun ds μ1 => S (.ptr C :: ds) μ1 Q noX
@[simp ↓] theorem dCMeth_p {ρ} {μ} {Q} : dCMeth C S T ρ μ Q = (T ρ μ fun ds μ1 => S (.ptr C :: ds) μ1 Q noX) := id rfl
theorem de_cmeth {m : Str} {apos : Pos} {pl : Sem Bool} (c : CMeth X.K C m g) (F : FnR X.prog X.w X.K X.mg X.base CX0 k g (toSp X.K S)) (hr : Room k X.A) (hm : X.mg x = some (.ref C)) (ha : DA X B (e :: es) t T) (hg : Gl X x := by rfl) (hdb : (x == ("__debug__" : Str)) = false := by decide)
    (hst : starEach (e :: es) X.env = (false, eval e X.env) :: starEach es X.env := by rfl) (hpl : (backTo pos (starEach es X.env)).any (·.1) = false := by rfl)
    (ht : eval (.Call (.Attribute (.Name x p) m apos) (e :: es) [] pos) X.env = (do
      let ov ← eval (.Name x p) X.env
      standAt apos.atName
      let (f, first) ← holding [ov] (getMethod ov m pl)
      callWith pos f first (backTo pos (starEach (e :: es) X.env)) (backToKw pos (keywordEach [] X.env))) := by rfl) :
    DE X B (.Call (.Attribute (.Name x p) m apos) (e :: es) [] pos) (ClX.tCMeth C (toSp X.K S) E0 (tC (.ref C)) t) (dCMeth C S T) := by
  obtain ⟨mc, p', r, cm⟩ := c.ex
  exact ⟨ClX.pe_cmeth (pe_glob hg hm rfl hdb) r cm F hr pass0 ha.pa hst hpl ht, fun ρ μ σ H G Q Qn S0 h hd => ⟨rfl, ha.ref ρ μ σ H G _ _ S0 h fun ds μ1 vs H1 G1 g1 S1 r1 q1 => sp_to S1 (Reps.cons (.ptr C) r1) q1 (hd.mono g1)⟩⟩
/-! properties -/
def Got (P : Program) (w : World) (K : PySem.W.Frag) (mg : Str → Option Value) (base : Heap) (k : Nat) (C : Addr) (m : Str) (ps : List Str) (S : DSp) : Prop :=
  ∃ r f fd, PropOf K C m r f ∧ Binds K fd ps [] ∧ FnOk P w K mg base CX0 k f fd ps (toSp K S)
/-! a try whose body does not raise -/
theorem ds_try_thru {h0 : ExceptHandler} {hs : List ExceptHandler} {body : List Stmt} {t' : TS} {T' : TDS} (hb : DSs X.nox B body t' T') : DS X B (.Try body (h0 :: hs) [] [] pos) t' T' := ⟨ps_try_thru0 hb.pss, hb.ref⟩
/-! enumerate -/
def enumD : Nat → List D → List D
  | _, [] => []
  | n, x :: r => .tup [.int (n : Int), x] :: enumD (n + 1) r
theorem enumD_len : ∀ {n : Nat} {xs : List D}, (enumD n xs).length = xs.length
  | _, [] => rfl
  | n, x :: r => by simp [enumD, enumD_len]
theorem enumD_get : ∀ {n i : Nat} {xs : List D} {y : D}, (enumD n xs)[i]? = some y → ∃ x, xs[i]? = some x ∧ y = .tup [.int ((n + i : Nat) : Int), x]
  | n, i, [], y, h => by simp [enumD] at h
  | n, 0, x :: r, y, h => by simp [enumD] at h; exact ⟨x, rfl, by rw [← h]; rfl⟩
  | n, i + 1, x :: r, y, h => by
    have h' : (enumD (n + 1) r)[i]? = some y := by simpa [enumD] using h
    obtain ⟨z, a, b⟩ := enumD_get h'
    exact ⟨z, by simpa using a, by rw [b]; congr 3; omega⟩
def iEnumD (T : TDA) : TDI := fun ρ μ Q => T ρ μ fun ds μ1 => match ds with | [.lst xs] => Q (enumD 0 xs) μ1 | _ => False
@[simp ↓] theorem iEnumD_p {ρ} {μ} {Q : List D → Mu → Prop} : iEnumD T ρ μ Q = (T ρ μ fun ds μ1 => match ds with | [.lst xs] => Q (enumD 0 xs) μ1 | _ => False) := id rfl
theorem di_enum {tpos : Pos} {elts : List Expr} {kk : Nat} {ta : TA} {T : TDA} (hg : Gl X "enumerate") (hm : X.mg "enumerate" = none) (ha : DA X B [e] ta T) (hs : starEach [e] X.env = [(false, eval e X.env)] := by rfl) : DI X B (.Tuple elts kk tpos) (.Call (.Name "enumerate" p) [e] [] pos) (iEnum X.K ta) (iEnumD T) :=
  ⟨pi_enum hg hm ha.pa hs, fun ρ μ σ H G Q R S0 q hd => ha.ref ρ μ σ H G _ _ S0 q fun ds μ1 vs H1 G1 g1 S1 r1 q1 => by
    split at q1
    · next xs =>
      obtain ⟨v, rfl, rv⟩ := reps1 r1
      cases rv with
      | lst hh l r =>
        rename_i a vs
        have at' : ∀ {H' : Hp} {G' : Gh} {μ' : Mu}, Gle G1 G' → Hold X.K G' μ' H' → H' a = some (.lst vs) := fun g hh' => hh'.fr _ _ (g.fr _ _ hh)
        refine ⟨a, vs, rfl, SqL.of (at' (Gle.refl _) S1.hold), hd _ μ1 _ H1 G1 g1 S1 q1 (fun n H' G' μ' g h' => ⟨fun hn => ?_, fun hn => ?_⟩) fun n x w H' H2 G' μ' g h' ex y => ?_⟩
        · rw [enumD_len] at hn
          exact ⟨vs, vs[n]'(by rw [l]; exact hn), SqL.of (at' g h'), List.getElem?_eq_getElem _⟩
        · rw [enumD_len] at hn
          exact ⟨vs, SqL.of (at' g h'), by rw [l]; exact hn⟩
        · obtain ⟨z, ez, rfl⟩ := enumD_get ex
          obtain ⟨T', u, rfl, hn, rfl, y⟩ := y
          have e1 := y vs (SqL.of (at' g h'))
          have g2 : Gle G' (G'.frz T' (.tup [.int (n : Nat), u])) := Gle.frz (h'.free hn).1
          refine ⟨_, g2, h'.new hn, .tup (.inl (.inl (show upd G'.fr T' _ T' = _ from upd_same))) rfl fun i v d a b => ?_⟩
          match i, a, b with
          | 0, a, b => simp at a b; subst a; subst b; exact .int _
          | 1, a, b => simp at a b; subst a; subst b; exact ((r n u z e1 ez).mono g).mono g2
    · exact q1.elim⟩
end
/-! ### f-strings -/
inductive DJ (X : Cx) (B : Gh) : List Expr → List TE → List TDE → Prop where
  | nil : DJ X B [] [] []
  | cons {e : Expr} {t : TE} {T : TDE} {es : List Expr} {ts : List TE} {Ts : List TDE} (h : DE X B e t T) (r : DJ X B es ts Ts) : DJ X B (e :: es) (t :: ts) (T :: Ts)
theorem DJ.pj {X : Cx} {B : Gh} {es : List Expr} {ts : List TE} {Ts : List TDE} (h : DJ X B es ts Ts) : PJ X es ts := by
  induction h with
  | nil => exact .nil
  | cons h _ ih => exact .cons h.pe ih
def dJs : List TDE → Str → DR → Mu → (Str → Mu → Prop) → Prop
  | [], acc, _, μ, Q => Q acc μ
  | T :: Ts, acc, ρ, μ, Q => T ρ μ fun d μ1 => sS d fun y => (acc ++ y).length ≤ sizeLine ∧ dJs Ts (acc ++ y) ρ μ1 Q
@[simp ↓] theorem dJs_n {acc : Str} {ρ} {μ} {Q} : dJs [] acc ρ μ Q = Q acc μ := id rfl
@[simp ↓] theorem dJs_c {T : TDE} {Ts : List TDE} {acc : Str} {ρ} {μ} {Q} : dJs (T :: Ts) acc ρ μ Q = (T ρ μ fun d μ1 => sS d fun y => (acc ++ y).length ≤ sizeLine ∧ dJs Ts (acc ++ y) ρ μ1 Q) := id rfl
def dJoined (Ts : List TDE) : TDE := fun ρ μ Q => dJs Ts Str.empty ρ μ fun s μ1 => Q (.str s) μ1
@[simp ↓] theorem dJoined_p {Ts : List TDE} {ρ} {μ} {Q} : dJoined Ts ρ μ Q = dJs Ts Str.empty ρ μ fun s μ1 => Q (.str s) μ1 := id rfl
section
variable {X : Cx} {pos : Pos}
theorem DJ.ref {es : List Expr} {ts : List TE} {Ts : List TDE} (h : DJ X B es ts Ts) : ∀ (acc : Str) ρ μ σ H G (Q : Str → Mu → Prop) (Qn : Str → Hp → Prop), Sat X.K B G ρ μ σ H → dJs Ts acc ρ μ Q → (∀ s μ' H' G', Gle G G' → Sat X.K B G' ρ μ' σ H' → Q s μ' → Qn s H') → tJs ts acc σ H Qn := by
  induction h with
  | nil => exact fun acc ρ μ σ H G Q Qn S q hd => hd acc μ H G (Gle.refl G) S q
  | cons h _ ih =>
    intro acc ρ μ σ H G Q Qn S q hd
    refine h.ref ρ μ σ H G _ _ S q fun d μ1 v H1 G1 g1 S1 r1 q1 => ?_
    cases d with
    | str y => exact ⟨y, r1.ofStr, q1.1, ih _ ρ μ1 σ H1 G1 Q Qn S1 q1.2 fun s μ' H' G' g' => hd s μ' H' G' (g1.trans g')⟩
    | _ => exact False.elim q1
theorem de_joined {v1 v2 : Expr} {rest : List Expr} {ts : List TE} {Ts : List TDE} (h : DJ X B (v1 :: v2 :: rest) ts Ts) : DE X B (.JoinedStr (v1 :: v2 :: rest) pos) (fun σ H Q => tJs ts Str.empty σ H fun out H1 => Q (.str out) H1) (dJoined Ts) :=
  ⟨pe_joined h.pj, fun ρ μ σ H G Q Qn S q hd => h.ref Str.empty ρ μ σ H G _ _ S q fun s μ' H' G' g' S' q' => hd (.str s) μ' _ H' G' g' S' (.str s) q'⟩
theorem de_joined1 {e : Expr} {te : TE} {T : TDE} (h : DE X B e te T) : DE X B (.JoinedStr [e] pos) te T := ⟨pe_joined1 h.pe, h.ref⟩
/-- {x}, a text or an int -/
def dFmt (T : TDE) : TDE := fun ρ μ Q => T ρ μ fun d μ1 => match d with
  | .str y => y.length ≤ sizeLine ∧ Q (.str y) μ1
  | .int i => i.natAbs.log2 < 1920 ∧ Q (.str (toString i)) μ1
  | _ => False
@[simp ↓] theorem dFmt_p {T : TDE} {ρ} {μ} {Q} : dFmt T ρ μ Q = (T ρ μ fun d μ1 => match d with
  | .str y => y.length ≤ sizeLine ∧ Q (.str y) μ1
  | .int i => i.natAbs.log2 < 1920 ∧ Q (.str (toString i)) μ1
  | _ => False) := id rfl
theorem de_fmt {e : Expr} {te : TE} {T : TDE} (h : DE X B e te T) : DE X B (.FormattedValue e (-1) none pos) (tFmt te) (dFmt T) :=
  ⟨pe_fmt h.pe, fun ρ μ σ H G Q Qn S q hd => h.ref ρ μ σ H G _ _ S q fun d μ1 v H1 G1 g1 S1 r1 q1 => by
    cases d with
    | str y => exact .inl ⟨y, r1.ofStr, q1.1, (hd.mono g1).now S1 (.str _) q1.2⟩
    | int i => exact .inr ⟨i, r1.ofInt, q1.1, (hd.mono g1).now S1 (.str _) q1.2⟩
    | _ => exact False.elim q1⟩
end
end DL

/-! DLS: comprehensions of three fors: the layer's rule. -/
namespace DL
open PySem PySem.Spec PyProof.Rows L2
/-- the tests of a clause -/
abbrev testsOf (ifs : List Expr) (env : Env) : Sem Bool := forIn ifs true fun c r => if r = true then do let ok ← isTrue c env (eval c env); pure (ForInStep.yield ok) else pure (ForInStep.yield r)
/-- a turn that starts the next clause; one that appends -/
def DeepTurn (E : Expr) (k : Nat) (t i i' : Expr) (ifs : List Expr) : Prop := ∀ it acc env, compTurn E k it acc env = (do
      standAt i.pos
      match ← pyNext it with
      | none => pure (.done .next)
      | some v =>
        letOwnedTupleGo t it v
        assign t env v
        let mut ok := true
        for c in ifs do
          if ok then ok ← isTrue c env (eval c env)
        if ok then
          let x ← eval i' env
          standAt i'.pos
          let x ← foldedSetIterable i' env x
          let _ ← runOwn (.compStart E (k + 1) (← holding [x] (pyIter x)) acc env) env
        again (.compLoop E k it acc env))
def LastTurn (E : Expr) (k : Nat) (t i elt : Expr) (ifs : List Expr) : Prop := ∀ it acc env, compTurn E k it acc env = (do
      standAt i.pos
      match ← pyNext it with
      | none => pure (.done .next)
      | some v =>
        letOwnedTupleGo t it v
        assign t env v
        let mut ok := true
        for c in ifs do
          if ok then ok ← isTrue c env (eval c env)
        if ok then
          (do let _ ← call (.builtin "list.append") [acc, ← eval elt env])
        again (.compLoop E k it acc env))
section
variable {prog : Program} {w : World} {A : Around} {R : Result → Shared → Prop} {s : Shared} {E t i i' elt : Expr} {ifs : List Expr} {it acc : Value} {env : Env} {k : Nat}
/-- what a turn is to do, up to the clause's body -/
def TurnTo (prog : Program) (w : World) (A : Around) (env : Env) (t : Expr) (ifs : List Expr) (it : Value) (F : Value → Shared → Prop) (Fin : Shared → Prop) (Body : Shared → (Shared → Prop) → Prop) (Nx : Shared → Prop) (s : Shared) : Prop :=
  wpAny (model prog w) A (pyNext it) (fun r s1 => match r with
    | none => Fin s1
    | some v => wpAny (model prog w) A (letOwnedTupleGo t it v) (fun _ s2 => wpAny (model prog w) A (assign t env v) (fun _ s3 =>
        wpAny (model prog w) A (testsOf ifs env) (fun ok s4 => if ok = true then Body s4 Nx else Nx s4) F s3) F s2) F s1) F s
abbrev noteR (prog : Program) (w : World) (A : Around) (env : Env) (R : Result → Shared → Prop) : Value → Shared → Prop := notedBy (model prog w) A env fun e s' => R (.error e) s'
def bodyDeep (prog : Program) (w : World) (A : Around) (env : Env) (E i' : Expr) (k : Nat) (acc : Value) (F : Value → Shared → Prop) (s : Shared) (Nx : Shared → Prop) : Prop :=
  wpAny (model prog w) A (eval i' env) (fun x s4 => wpAny (model prog w) A (pyIter x) (fun it1 s5 => codeAny (model prog w) A (.compStart E (k + 1) it1 acc env) (fun r s' => match r with
    | .ok _ => Nx s'
    | .error _ => False) s5) F s4) F s
def bodyLast (prog : Program) (w : World) (A : Around) (env : Env) (elt : Expr) (acc : Value) (F : Value → Shared → Prop) (s : Shared) (Nx : Shared → Prop) : Prop :=
  wpAny (model prog w) A (eval elt env) (fun x s4 => wpAny (model prog w) A (call (.builtin "list.append") [acc, x]) (fun _ s5 => Nx s5) F s4) F s
theorem loop_deep {gs : List Comprehension} {scope : Scope} {pos : Pos} (hE : E = .ListComp elt gs scope pos) (hT : DeepTurn E k t i i' ifs) (hs : ∀ x, foldedSetIterable i' env x = pure x) (I : Nat → Shared → Prop)
    (turn : ∀ n s, I n s → TurnTo prog w A env t ifs it (noteR prog w A env R) (R (.ok .next)) (bodyDeep prog w A env E i' k acc (noteR prog w A env R)) (fun s' => ∃ m, m < n ∧ I m s') s) (n : Nat) (h : I n s) :
    codeAny (model prog w) A (.compLoop E k it acc env) R s := by
  subst hE
  refine codeAny_loop rfl I (fun n s hI => ?_) n h
  show wpAny _ A ((compTurn (.ListComp _ gs scope pos) k it acc env).onRaise (fun x => do noteFrame x env; theTreesLotGoes x)) _ _ s
  refine wpAny_noted ?_
  rw [hT]
  refine wpAny_bind (wpAny_standAt (wpAny_bind (wpAny_mono (turn n s hI) (fun r s1 h1 => ?_) fun _ _ z => z)))
  cases r with
  | none => exact wpAny_pure h1
  | some v =>
    refine wpAny_bind (wpAny_mono h1 (fun _ s2 h2 => ?_) fun _ _ z => z)
    refine wpAny_bind (wpAny_mono h2 (fun _ s3 h3 => wpAny_bind (wpAny_mono h3 (fun ok s4 h4 => ?_) fun _ _ z => z)) fun _ _ z => z)
    cases ok with
    | false => exact wpAny_pure ⟨rfl, h4⟩
    | true =>
      refine wpAny_bind (wpAny_mono h4 (fun x s5 h5 => ?_) fun _ _ z => z)
      refine wpAny_bind (wpAny_standAt (wpAny_bind (wpAny_of_eq (hs x) (wpAny_bind (wpAny_holding (wpAny_mono h5 (fun it1 s6 h6 => ?_) fun _ _ z => z))))))
      refine wpAny_bind (wpAny_runOwn ?_)
      rw [Around.mark_none]
      refine codeAny_mono h6 fun r s' hr => ?_
      cases r with
      | ok f =>
        first
          | exact wpAny_pure ⟨rfl, hr⟩
          | exact wpAny_bind (wpAny_pure (wpAny_pure ⟨rfl, hr⟩))
      | error e => exact hr.elim
theorem loop_last {gs : List Comprehension} {scope : Scope} {pos : Pos} {elt' : Expr} (hE : E = .ListComp elt' gs scope pos) (hT : LastTurn E k t i elt ifs) (I : Nat → Shared → Prop)
    (turn : ∀ n s, I n s → TurnTo prog w A env t ifs it (noteR prog w A env R) (R (.ok .next)) (bodyLast prog w A env elt acc (noteR prog w A env R)) (fun s' => ∃ m, m < n ∧ I m s') s) (n : Nat) (h : I n s) :
    codeAny (model prog w) A (.compLoop E k it acc env) R s := by
  subst hE
  refine codeAny_loop rfl I (fun n s hI => ?_) n h
  show wpAny _ A ((compTurn (.ListComp _ gs scope pos) k it acc env).onRaise (fun x => do noteFrame x env; theTreesLotGoes x)) _ _ s
  refine wpAny_noted ?_
  rw [hT]
  refine wpAny_bind (wpAny_standAt (wpAny_bind (wpAny_mono (turn n s hI) (fun r s1 h1 => ?_) fun _ _ z => z)))
  cases r with
  | none => exact wpAny_pure h1
  | some v =>
    refine wpAny_bind (wpAny_mono h1 (fun _ s2 h2 => ?_) fun _ _ z => z)
    refine wpAny_bind (wpAny_mono h2 (fun _ s3 h3 => wpAny_bind (wpAny_mono h3 (fun ok s4 h4 => ?_) fun _ _ z => z)) fun _ _ z => z)
    cases ok with
    | false => exact wpAny_pure ⟨rfl, h4⟩
    | true => exact wpAny_bind (wpAny_bind (wpAny_mono h4 (fun x s5 h5 => wpAny_bind (wpAny_mono h5 (fun _ s6 h6 => wpAny_pure (wpAny_pure ⟨rfl, h6⟩)) fun _ _ z => z)) fun _ _ z => z))
end
/-- the start of a clause behind the first -/
def StartOk (E : Expr) (k : Nat) : Prop := ∀ (prog : Program) (w : World) (A : Around) (R : Result → Shared → Prop) (s : Shared) (it acc : Value) (env : Env), codeAny (model prog w) A (.compLoop E k it acc env) R s →
  wpAny (model prog w) A (pyIter it) (fun it' s' => codeAny (model prog w) A (.compLoop E k it' acc env) R s') (noteR prog w A env R) s → codeAny (model prog w) A (.compStart E k it acc env) R s
abbrev lc3 (elt t0 i0 t1 i1 t2 i2 : Expr) (f0 f1 f2 : List Expr) (scope : Scope) (pos : Pos) : Expr := .ListComp elt [⟨t0, i0, f0, 0⟩, ⟨t1, i1, f1, 0⟩, ⟨t2, i2, f2, 0⟩] scope pos
section
variable {elt t0 i0 t1 i1 t2 i2 : Expr} {f0 f1 f2 : List Expr} {scope : Scope} {pos : Pos}
theorem turn3_0 : DeepTurn (lc3 elt t0 i0 t1 i1 t2 i2 f0 f1 f2 scope pos) 0 t0 i0 i1 f0 := fun it acc env => by rfl
theorem turn3_1 : DeepTurn (lc3 elt t0 i0 t1 i1 t2 i2 f0 f1 f2 scope pos) 1 t1 i1 i2 f1 := fun it acc env => by rfl
theorem turn3_2 : LastTurn (lc3 elt t0 i0 t1 i1 t2 i2 f0 f1 f2 scope pos) 2 t2 i2 elt f2 := fun it acc env => by rfl
theorem start3_1 : StartOk (lc3 elt t0 i0 t1 i1 t2 i2 f0 f1 f2 scope pos) 1 := by
  intro prog w A R s it acc env h0 h
  refine codeAny_of_tree ?_
  show wpAny _ _ ((compStart (lc3 elt t0 i0 t1 i1 t2 i2 f0 f1 f2 scope pos) 1 it acc env).onRaise (fun x => do noteFrame x env; standAt theWindowsPlace)) _ _ s
  refine wpAny_notedAt ?_
  unfold compStart
  show wpAny _ _ (ask >>= _) _ _ s
  refine wpAny_bind (wpAny_askSetting (wpAny_ite ?_))
  split
  · first
      | exact wpAny_bind (wpAny_pure (wpAny_pure (And.intro rfl h0)))
      | exact wpAny_pure (And.intro rfl h0)
  · refine wpAny_bind (wpAny_rule ?_)
    show wpAny _ _ (standAt i1.pos >>= _) _ _ s
    exact wpAny_bind (wpAny_standAt (wpAny_bind (wpAny_mono h (fun it' s' h' => wpAny_pure (And.intro rfl h')) fun _ _ x => x)))
theorem start3_2 : StartOk (lc3 elt t0 i0 t1 i1 t2 i2 f0 f1 f2 scope pos) 2 := by
  intro prog w A R s it acc env h0 h
  refine codeAny_of_tree ?_
  show wpAny _ _ ((compStart (lc3 elt t0 i0 t1 i1 t2 i2 f0 f1 f2 scope pos) 2 it acc env).onRaise (fun x => do noteFrame x env; standAt theWindowsPlace)) _ _ s
  refine wpAny_notedAt ?_
  unfold compStart
  show wpAny _ _ (ask >>= _) _ _ s
  refine wpAny_bind (wpAny_askSetting (wpAny_ite ?_))
  split
  · first
      | exact wpAny_bind (wpAny_pure (wpAny_pure (And.intro rfl h0)))
      | exact wpAny_pure (And.intro rfl h0)
  · refine wpAny_bind (wpAny_rule ?_)
    show wpAny _ _ (standAt i2.pos >>= _) _ _ s
    exact wpAny_bind (wpAny_standAt (wpAny_bind (wpAny_mono h (fun it' s' h' => wpAny_pure (And.intro rfl h')) fun _ _ x => x)))
end
end DL

/-! DLT: comprehensions of three fors: their clauses over the layer. -/
namespace DL
open PySem PySem.Spec PyProof.Rows L2
/-- a clause's body: slots, heap, what is to be reached -/
abbrev CB := St → Hp → (Hp → Prop) → Prop
/-- all that σ knows τ knows -/
def Knows (σ τ : St) : Prop := σ.length = τ.length ∧ ∀ (j : Nat) v, σ[j]? = some (some v) → τ[j]? = some (some v)
theorem Knows.wipe {σ τ : St} {vs : List Nat} (h : L2.wipe τ vs = L2.wipe σ vs) : Knows (L2.wipe σ vs) τ := by
  rw [← h]; exact ⟨wipe_length _ _, fun j v e => (wipe_some e).1⟩
theorem Knows.in_ {σ τ : St} {vs ws : List Nat} (h : L2.wipe τ vs = L2.wipe σ vs) (hv : ∀ i ∈ ws, i ∈ vs) : Knows (L2.wipe σ vs) (L2.wipe τ ws) := by
  rw [← h]
  refine ⟨by rw [wipe_length, wipe_length], fun j v e => ?_⟩
  obtain ⟨e1, e2⟩ := wipe_some e
  rw [wipe_out fun z => e2 (hv j z)]
  exact e1
/-- one clause: what its walk is to do -/
def ClauseW (J : It) (g : TG) (tt : TT) (c : CB) (vs : List Nat) (σ : St) (Nx : Hp → Prop) (W : Nat → Nat → Hp → Prop) : Prop := ∀ j k H, W j k H →
  (J.stop j H ∧ Nx H) ∨ (J.go j H ∧ ∃ Nx1 : Hp → Prop, (∀ H', Nx1 H' → ∃ k', k' < k ∧ W (j + 1) k' H') ∧ ∀ x H', J.yld j H x H' → g x (L2.wipe σ vs) H' fun σ3 H5 => L2.wipe σ3 vs = L2.wipe σ vs ∧ tt σ3 H5 fun b H6 => if b = true then c σ3 H6 Nx1 else Nx1 H6)
section
variable {X : Cx} {pins : List (Addr × Obj)} {σ : St} {tg : Expr} {ifs : List Expr} {J : It} {fp : List Addr} {it : Addr} {tn : Nat → Heap → Prop} {g : TG} {tt : TT} {c : CB} {vs : List Nat} {W : Nat → Nat → Hp → Prop} {Nx : Hp → Prop} {Fin : Shared → Prop}
/-- what holds between two turns of a clause -/
def ClauseI (X : Cx) (pins : List (Addr × Obj)) (τ : St) (tn : Nat → Heap → Prop) (fp : List Addr) (W : Nat → Nat → Hp → Prop) (k : Nat) (s' : Shared) : Prop := ∃ j H', Inv X pins τ H' s' ∧ tn j s'.heap ∧ (∀ b ∈ fp, H' b = none) ∧ W j k H'
theorem clause_run (hc : X.calm = true) (hx : ∀ e s, ¬ X.xe e s) (T : Turn X.prog X.w X.K tg J fp it tn) (pg : PG X tg g) (pt : PTs X ifs tt) (stat : ∀ σ' H' s', Inv X pins σ' H' s' → (∀ b ∈ fp, H' b = none) → ∀ b ∈ fp, FpOk X pins H' b)
    (turn : ClauseW J g tt c vs σ Nx W) (fin : ∀ s' H', Inv X pins (L2.wipe σ vs) H' s' → Nx H' → Fin s') {Body : Shared → (Shared → Prop) → Prop} {F : Value → Shared → Prop}
    (body : ∀ pins' σ3 H6 s6 (Nx1 : Hp → Prop) (Z : Shared → Prop), Inv X pins' σ3 H6 s6 → L2.wipe σ3 vs = L2.wipe σ vs → c σ3 H6 Nx1 → (∀ σ' H' s', Inv X pins' σ' H' s' → Knows (L2.wipe σ vs) σ' → Nx1 H' → Z s') → Body s6 Z) :
    ∀ k s, ClauseI X pins (L2.wipe σ vs) tn fp W k s → TurnTo X.prog X.w X.A X.env tg ifs (.ref it) F Fin Body (fun s' => ∃ m, m < k ∧ ClauseI X pins (L2.wipe σ vs) tn fp W m s') s := by
  have nof : ∀ {α : Type} {t : Sem α} {Q Q' : α → Shared → Prop} {s : Shared}, wpAny (model X.prog X.w) X.A t Q X.xe s → (∀ a s, Q a s → Q' a s) → wpAny (model X.prog X.w) X.A t Q' F s := fun h hQ => wpAny_mono h hQ fun e s z => (hx e s z).elim
  rintro k s ⟨j, H, I, st, hn, w⟩
  unfold TurnTo
  rcases turn j k H w with ⟨stop, nx⟩ | ⟨go, Nx1, hNx, step⟩
  · refine thnF (T.done X rfl rfl rfl hc j pins s _ H (fun _ _ => False) I (stat _ _ _ I hn) st stop) fun r s1 ⟨hr, I1⟩ => ?_
    subst hr
    exact fin s1 H I1 nx
  · refine thnF (T.item X rfl rfl rfl hc j pins s _ H (fun _ _ => False) I (stat _ _ _ I hn) st go) fun r s1 ⟨u, hr, h1⟩ => ?_
    subst hr
    refine thnF h1 fun _ s2 ⟨x, H2, I2, r2, y2, st2, n2⟩ => ?_
    have I2' := I2.pinned (stat _ _ _ I2 n2) (T.obj _ _ st2)
    refine nof (pg.run _ s2 _ H2 x u _ I2' r2 (step x H2 y2)) fun _ s3 ⟨σ3, H3, I3, hw3, q3⟩ => ?_
    refine nof (pt.run _ s3 σ3 H3 _ I3 q3) fun b s4 ⟨H4, I4, q4⟩ => ?_
    have back : ∀ σ' H' s', Inv X (pins ++ pinsAt fp s2.heap) σ' H' s' → Knows (L2.wipe σ vs) σ' → Nx1 H' → ∃ m, m < k ∧ ClauseI X pins (L2.wipe σ vs) tn fp W m s' := fun σ' H' s' I' kn nx => by
      obtain ⟨m', hm, w'⟩ := hNx H' nx
      have pin' : ∀ b ∈ fp, ∀ o, s2.heap.get? b = some o → s'.heap.get? b = some o ∧ H' b = none := fun b hb o e =>
        let z := I'.pin (b, o) (List.mem_append_right _ (List.mem_append_right _ (mem_pinsAt hb e)))
        ⟨z.1, z.2.1⟩
      refine ⟨m', hm, j + 1, H', (I'.unpinned (pins := pins)).weak kn.1 kn.2, T.keep _ _ _ st2 fun b hb o e => (pin' b hb o e).1, fun b hb => ?_, w'⟩
      obtain ⟨o, e, _⟩ := T.obj _ _ st2 b hb
      exact (pin' b hb o e).2
    cases b with
    | false =>
      simp only [Bool.false_eq_true, if_false] at q4 ⊢
      exact back σ3 H4 s4 I4 (Knows.wipe hw3) q4
    | true =>
      simp only [if_true] at q4 ⊢
      exact body _ σ3 H4 s4 Nx1 _ I4 hw3 q4 back
end
/-- the last clause's body: the item is put behind the list at D -/
def cApp (D : Addr) (te : TE) : CB := fun σ H Nx => te σ H fun y H1 => ∃ acc, H1 D = some (.lst acc) ∧ acc.length < sizeLine ∧ Nx (upd H1 D (.lst (acc ++ [y])))
/-- a further clause -/
def cFor (wi : TI) (g : TG) (tt : TT) (vs : List Nat) (c : CB) : CB := fun σ H Nx => wi σ H fun J H1 => ∃ W : Nat → Nat → Hp → Prop, (∃ m, W 0 m H1) ∧ ClauseW J g tt c vs σ Nx W
/-- a clause's start, done in a block's frame -/
def RunsIn (X : Cx) (E i : Expr) (k : Nat) (D : Addr) (vs : List Nat) (c : CB) : Prop := ∀ pins σ H s (Nx : Hp → Prop) (Z : Shared → Prop), Inv X pins σ H s → c σ H Nx → (∀ s' H', Inv X pins (L2.wipe σ vs) H' s' → Nx H' → Z s') → bodyDeep X.prog X.w X.A X.env E i k (.ref D) X.xe s Z
section
variable {X : Cx} {elt i tg i2 : Expr} {ifs : List Expr} {gs : List Comprehension} {scope : Scope} {pos : Pos} {wi : TI} {g : TG} {tt : TT} {vs ws : List Nat} {c : CB} {D : Addr} {k : Nat} {te : TE}
theorem runs_last (hc : X.calm = true) (hx : ∀ e s, ¬ X.xe e s) (hT : LastTurn (.ListComp elt gs scope pos) (k + 1) tg i elt ifs) (hS : StartOk (.ListComp elt gs scope pos) (k + 1)) (pi : PI X tg i wi) (pg : PG X tg g) (pt : PTs X ifs tt) (pe : PE X elt te) : RunsIn X (.ListComp elt gs scope pos) i k D vs (cFor wi g tt vs (cApp D te)) := by
  intro pins σ H s Nx Z I q fin
  unfold bodyDeep
  refine thn (pi.run pins s σ H _ I q) fun xv s1 hx1 => thn hx1 fun itv s2 h2 => ?_
  obtain ⟨it, fp, tn, J, H2, rfl, I2, T, st2, f2, W, ⟨m0, w0⟩, turn⟩ := h2
  have stat : ∀ σ' H' s', Inv X pins σ' H' s' → (∀ b ∈ fp, H' b = none) → ∀ b ∈ fp, FpOk X pins H' b := fun σ' H' s' _ hn b hb => ⟨hn b hb, (f2 b hb).2⟩
  have loop : codeAny (model X.prog X.w) X.A (.compLoop (.ListComp elt gs scope pos) (k + 1) (.ref it) (.ref D) X.env) (fun r s' => match r with | .ok _ => Z s' | .error _ => False) s2 :=
    loop_last rfl hT (ClauseI X pins (L2.wipe σ vs) tn fp W) (clause_run hc hx T pg pt stat turn fin fun pins' σ3 H6 s6 Nx1 Z' I6 hw6 q6 back => by
      unfold bodyLast
      refine wpAny_mono (pe.run _ s6 σ3 H6 _ I6 q6) (fun z s7 ⟨yv, H7, I7, r7, acc, hD7, hz7, nx⟩ => ?_) fun e s z => (hx e s z).elim
      exact app_ok I7 hD7 hz7 r7 fun s8 I8 => back σ3 _ s8 I8 (Knows.wipe hw6) nx) m0 ⟨0, H2, I2.weak (wipe_length _ _) (fun j v e => (wipe_some e).1), st2, fun b hb => (f2 b hb).1, w0⟩
  exact hS _ _ _ _ _ _ _ _ loop (T.self X.A 0 _ _ _ st2 loop)
theorem runs_mid (hc : X.calm = true) (hx : ∀ e s, ¬ X.xe e s) (hT : DeepTurn (.ListComp elt gs scope pos) (k + 1) tg i i2 ifs) (hS : StartOk (.ListComp elt gs scope pos) (k + 1)) (hs : ∀ x, foldedSetIterable i2 X.env x = pure x) (pi : PI X tg i wi) (pg : PG X tg g) (pt : PTs X ifs tt) (hv : ∀ i ∈ ws, i ∈ vs)
    (R : RunsIn X (.ListComp elt gs scope pos) i2 (k + 1) D ws c) : RunsIn X (.ListComp elt gs scope pos) i k D vs (cFor wi g tt vs c) := by
  intro pins σ H s Nx Z I q fin
  unfold bodyDeep
  refine thn (pi.run pins s σ H _ I q) fun xv s1 hx1 => thn hx1 fun itv s2 h2 => ?_
  obtain ⟨it, fp, tn, J, H2, rfl, I2, T, st2, f2, W, ⟨m0, w0⟩, turn⟩ := h2
  have stat : ∀ σ' H' s', Inv X pins σ' H' s' → (∀ b ∈ fp, H' b = none) → ∀ b ∈ fp, FpOk X pins H' b := fun σ' H' s' _ hn b hb => ⟨hn b hb, (f2 b hb).2⟩
  have noF : ∀ {F : Value → Shared → Prop} {s6 : Shared} {Z' : Shared → Prop}, bodyDeep X.prog X.w X.A X.env (.ListComp elt gs scope pos) i2 (k + 1) (.ref D) X.xe s6 Z' → bodyDeep X.prog X.w X.A X.env (.ListComp elt gs scope pos) i2 (k + 1) (.ref D) F s6 Z' := fun h => by
    unfold bodyDeep at h ⊢
    exact wpAny_mono h (fun x s h => wpAny_mono h (fun _ _ z => z) fun e s z => (hx e s z).elim) fun e s z => (hx e s z).elim
  have loop : codeAny (model X.prog X.w) X.A (.compLoop (.ListComp elt gs scope pos) (k + 1) (.ref it) (.ref D) X.env) (fun r s' => match r with | .ok _ => Z s' | .error _ => False) s2 :=
    loop_deep rfl hT hs (ClauseI X pins (L2.wipe σ vs) tn fp W) (clause_run hc hx T pg pt stat turn fin fun pins' σ3 H6 s6 Nx1 Z' I6 hw6 q6 back =>
      noF (R pins' σ3 H6 s6 Nx1 Z' I6 q6 fun s' H' I' nx => back _ H' s' I' (Knows.in_ hw6 hv) nx)) m0 ⟨0, H2, I2.weak (wipe_length _ _) (fun j v e => (wipe_some e).1), st2, fun b hb => (f2 b hb).1, w0⟩
  exact hS _ _ _ _ _ _ _ _ loop (T.self X.A 0 _ _ _ st2 loop)
end
end DL

/-! DLU: comprehensions of three fors: the first clause, the whole; over data. -/
namespace DL
open PySem PySem.Spec PyProof.Rows L2
/-- [.. for tg in iter if .. <further clauses>]: D the new list, c what a turn does behind the tests -/
def tLcD (wi : TI) (g : TG) (tt : TT) (c : Addr → CB) (vs : List Nat) : TE := fun σ H Q => wi σ H fun J H1 => ∀ D, H1 D = none → ∃ W : Nat → Nat → Hp → Prop, (∃ m, W 0 m (upd H1 D (.lst []))) ∧ ClauseW J g tt (c D) vs σ (fun H' => Q (.ref D) H') W
theorem blk_xe {X : Cx} {s : Shared} {H : Hp} {scope : Scope} {ce : Env} {fp : List Addr} : ∀ e s', ¬ (X.blk s H scope ce fp).xe e s' := fun _ _ z => z
section
variable {X : Cx}
theorem pe_lcD {elt tg iter i2 : Expr} {ifs : List Expr} {rest : List Comprehension} {scope : Scope} {own : List (Str × Nat)} {ws : List Nat} {pos : Pos} {wi : TI} {g : TG} {tt : TT} {c : Addr → CB} (hc : X.calm = true) (hN : X.N.Nodup) (hi : PI X tg iter wi) (ok : BlkOk X.N X.env.scope scope own) (hv : ∀ i ∈ ws, i ∈ own.map (·.2))
    (hT : DeepTurn (.ListComp elt (⟨tg, iter, ifs, 0⟩ :: rest) scope pos) 0 tg iter i2 ifs) (hs2 : ∀ env x, foldedSetIterable i2 env x = pure x)
    (hg : ∀ (s : Shared) (H : Hp) (C : Addr) (cl : List (Str × Addr)) (fp : List Addr), PG (X.blk s H scope (compEnvC scope cl C X.env) fp) tg g) (ht : ∀ (s : Shared) (H : Hp) (C : Addr) (cl : List (Str × Addr)) (fp : List Addr), PTs (X.blk s H scope (compEnvC scope cl C X.env) fp) ifs tt)
    (hr : ∀ (s : Shared) (H : Hp) (C : Addr) (cl : List (Str × Addr)) (fp : List Addr) (D : Addr), RunsIn (X.blk s H scope (compEnvC scope cl C X.env) fp) (.ListComp elt (⟨tg, iter, ifs, 0⟩ :: rest) scope pos) i2 0 D ws (c D)) (hs : ∀ x, foldedSetIterable iter X.env x = pure x := by intro _; rfl) :
    PE X (.ListComp elt (⟨tg, iter, ifs, 0⟩ :: rest) scope pos) (tLcD wi g tt c (own.map (·.2))) := by
  refine ⟨fun pins s σ H Q I h => ?_⟩
  rw [eval_ListComp]
  have hfree : ∀ y ∈ scope.names, y.2 = .free → ∃ c, X.env.cells.lookup y.1 = some c := fun y hy e => by
    rcases ok.free y hy e with k | k
    · exact I.ok.has _ (.inl k)
    · exact I.ok.has _ (.inr k)
  refine wpAny_comprehension_free (use := none) rfl hs (closure_ok hfree) ok.kind (fun y hy e => by rw [ok.uniq y hy, e])
    (thn (hi.run pins s σ H _ I h) fun xv s1 hx => thn hx fun itv s2 h2 => ?_)
  obtain ⟨it, fp, tn, J, H2, e, I2, T, st2, f2, q⟩ := h2
  subst e
  refine wpAny_newObj_type (newEnv_comp ?_) (by show 0 ≤ sizeLine; decide)
  generalize hD : s2.heap.objs.size = D
  have hDn : H2 D = none := I2.hok.fresh (Nat.le_of_eq hD)
  obtain ⟨W, ⟨m0, w0⟩, turn⟩ := q D hDn
  generalize hs3 : ({ s2 with heap := s2.heap.push { cls := .type "list", data := .seq ([] : List Value).toArray } } : Shared) = s3
  have I3 : Inv X pins σ (upd H2 D (.lst [])) s3 := by
    rw [← hs3]
    refine I2.laid (t' := s2.toks) (fun b o e => Heap.get?_push_of_some _ e) (Nat.le_of_eq hD) ⟨Nat.zero_le _, [], 0, .nil, ?_⟩
    rw [← hD]
    exact Heap.get?_push_size _ rfl
  have h3 : s3.heap = s2.heap.push { cls := .type "list", data := .seq ([] : List Value).toArray } := by rw [← hs3]
  have f3 : ∀ b ∈ fp, FpOk X pins (upd H2 D (.lst [])) b ∧ b < s3.heap.objs.size := fun b hb => by
    obtain ⟨o, e, _⟩ := T.obj _ _ st2 b hb
    have hlt : b < s2.heap.objs.size := Heap.lt_size e
    refine ⟨⟨?_, (f2 b hb).2⟩, by rw [h3, Heap.size_push]; exact Nat.lt_succ_of_lt hlt⟩
    rw [upd_ne (by rw [← hD]; exact Nat.ne_of_lt hlt)]
    exact (f2 b hb).1
  have st3 : tn 0 s3.heap := T.keep _ _ _ st2 fun b _ o e => by rw [h3]; exact Heap.get?_push_of_some _ e
  have I4 := block_start I3 ok hN f3
  have pg := hg s3 (upd H2 D (.lst [])) s3.heap.objs.size (cellsFrom (s3.heap.objs.size + 1) scope.names (cloFrom X.env.cells scope.names [])) fp
  have pt := ht s3 (upd H2 D (.lst [])) s3.heap.objs.size (cellsFrom (s3.heap.objs.size + 1) scope.names (cloFrom X.env.cells scope.names [])) fp
  have pr := hr s3 (upd H2 D (.lst [])) s3.heap.objs.size (cellsFrom (s3.heap.objs.size + 1) scope.names (cloFrom X.env.cells scope.names [])) fp D
  show codeAny _ _ (.compStart (.ListComp elt (⟨tg, iter, ifs, 0⟩ :: rest) scope pos) 0 (.ref it) (.ref D) (compEnvC scope (cellsFrom (s3.heap.objs.size + 1) scope.names (cloFrom X.env.cells scope.names [])) s3.heap.objs.size X.env)) (compPost (model X.prog X.w) X.A X.xe none (EP X pins σ Q) (.ref D) s3.heap.objs.size) { s3 with heap := pushCells (s3.heap.push { cls := .type "dict", data := .dict #[] }) scope.names }
  have nfp : ∀ b ∈ fp, (upd H2 D (.lst [])) b = none := fun b hb => (f3 b hb).1.1
  generalize hce : compEnvC scope (cellsFrom (s3.heap.objs.size + 1) scope.names (cloFrom X.env.cells scope.names [])) s3.heap.objs.size X.env = ce at I4 pg pt pr ⊢
  have cL : ce.locals = s3.heap.objs.size := by subst hce; rfl
  generalize hH3 : upd H2 D (.lst []) = H3 at I3 I4 pg pt pr w0 nfp f3
  generalize hs4 : ({ s3 with heap := pushCells (s3.heap.push { cls := .type "dict", data := .dict #[] }) scope.names } : Shared) = s4 at I4 ⊢
  have st4 : tn 0 s4.heap := T.keep _ _ _ st3 fun b _ o e => by rw [← hs4]; exact pushCells_keeps _ _ _ _ (Heap.get?_push_of_some _ e)
  have stat : ∀ σ' H' s', Inv (X.blk s3 H3 scope ce fp) [] σ' H' s' → (∀ b ∈ fp, H' b = none) → ∀ b ∈ fp, FpOk (X.blk s3 H3 scope ce fp) [] H' b := fun σ' H' s' I' hn b hb =>
    ⟨hn b hb, (I'.ok.exf b hb).1, I'.ok.exfs b hb, .inl hb, fun x c e => (I'.ok.exf b hb).2 x c e, fun p hp => absurd (show p ∈ ([] : List (Addr × Obj)) ++ [] from hp) (by simp)⟩
  have loop : codeAny (model X.prog X.w) X.A (.compLoop (.ListComp elt (⟨tg, iter, ifs, 0⟩ :: rest) scope pos) 0 (.ref it) (.ref D) ce) (compPost (model X.prog X.w) X.A X.xe none (EP X pins σ Q) (.ref D) s3.heap.objs.size) s4 := by
    refine loop_deep rfl hT (hs2 ce) (ClauseI (X.blk s3 H3 scope ce fp) [] (L2.wipe σ (own.map (·.2))) tn fp W) (clause_run (X := X.blk s3 H3 scope ce fp) hc blk_xe T pg pt stat turn (fun s6 H5 I6 qq => ?_) fun pins' σ3 H6 s6 Nx1 Z' I6 hw6 q6 back => ?_) m0 ⟨0, H3, I4, st4, nfp, w0⟩
    · have I7 : Inv X pins σ H5 s6 := I3.call' (ch := fp) I6.os I6.base I6.hok I6.bare fun b hb => ⟨(f3 b hb).1.2.2.2.1, (f3 b hb).1.2.1, (f3 b hb).1.2.2.2.2.1, (f3 b hb).1.2.2.2.2.2⟩
      have nC : H5 s3.heap.objs.size = none := by
        have z : H5 ce.locals = none := I6.free
        rw [cL] at z
        exact z
      obtain ⟨m, hn, _⟩ := I6.loc
      have hn : s6.heap.Ns ce.locals m := hn
      rw [cL] at hn
      refine ⟨m, hn, fun h'' sb => ?_⟩
      obtain ⟨f0, f1, f2, f3, f4, f5⟩ := I3.fpOk (Nat.le_refl _) nC
      exact ⟨.ref D, H5, I7.turned (t' := s6.toks) (fun b o hb e => (sb.2 b hb).trans e) f0 f1 f3 f4 f5, rfl, qq⟩
    · have := pr pins' σ3 H6 s6 Nx1 Z' I6 q6 fun s' H' I' nx => back _ H' s' I' (Knows.in_ hw6 hv) nx
      unfold bodyDeep at this ⊢
      exact wpAny_mono this (fun x s h => wpAny_mono h (fun _ _ z => z) fun e s z => z.elim) fun e s z => z.elim
  exact codeAny_compStart_list loop (T.self X.A 0 _ _ _ st4 loop)
/-- [elt for t0 in i0 if f0 for t1 in i1 if f1 for t2 in i2 if f2] -/
theorem pe_lc3 {elt t0 i0 t1 i1 t2 i2 : Expr} {f0 f1 f2 : List Expr} {scope : Scope} {own : List (Str × Nat)} {vs1 vs2 : List Nat} {pos : Pos} {w0 w1 w2 : TI} {g0 g1 g2 : TG} {tt0 tt1 tt2 : TT} {te : TE} (hc : X.calm = true) (hN : X.N.Nodup) (hi : PI X t0 i0 w0) (ok : BlkOk X.N X.env.scope scope own) (hv1 : ∀ i ∈ vs1, i ∈ own.map (·.2)) (hv2 : ∀ i ∈ vs2, i ∈ vs1)
    (hg0 : ∀ (s : Shared) (H : Hp) (C : Addr) (cl : List (Str × Addr)) (fp : List Addr), PG (X.blk s H scope (compEnvC scope cl C X.env) fp) t0 g0) (ht0 : ∀ (s : Shared) (H : Hp) (C : Addr) (cl : List (Str × Addr)) (fp : List Addr), PTs (X.blk s H scope (compEnvC scope cl C X.env) fp) f0 tt0)
    (hi1 : ∀ (s : Shared) (H : Hp) (C : Addr) (cl : List (Str × Addr)) (fp : List Addr), PI (X.blk s H scope (compEnvC scope cl C X.env) fp) t1 i1 w1)
    (hg1 : ∀ (s : Shared) (H : Hp) (C : Addr) (cl : List (Str × Addr)) (fp : List Addr), PG (X.blk s H scope (compEnvC scope cl C X.env) fp) t1 g1) (ht1 : ∀ (s : Shared) (H : Hp) (C : Addr) (cl : List (Str × Addr)) (fp : List Addr), PTs (X.blk s H scope (compEnvC scope cl C X.env) fp) f1 tt1)
    (hi2 : ∀ (s : Shared) (H : Hp) (C : Addr) (cl : List (Str × Addr)) (fp : List Addr), PI (X.blk s H scope (compEnvC scope cl C X.env) fp) t2 i2 w2)
    (hg2 : ∀ (s : Shared) (H : Hp) (C : Addr) (cl : List (Str × Addr)) (fp : List Addr), PG (X.blk s H scope (compEnvC scope cl C X.env) fp) t2 g2) (ht2 : ∀ (s : Shared) (H : Hp) (C : Addr) (cl : List (Str × Addr)) (fp : List Addr), PTs (X.blk s H scope (compEnvC scope cl C X.env) fp) f2 tt2)
    (he : ∀ (s : Shared) (H : Hp) (C : Addr) (cl : List (Str × Addr)) (fp : List Addr), PE (X.blk s H scope (compEnvC scope cl C X.env) fp) elt te) (hs0 : ∀ x, foldedSetIterable i0 X.env x = pure x := by intro _; rfl) (hs1 : ∀ env x, foldedSetIterable i1 env x = pure x := by intro _ _; rfl) (hs2 : ∀ env x, foldedSetIterable i2 env x = pure x := by intro _ _; rfl) :
    PE X (lc3 elt t0 i0 t1 i1 t2 i2 f0 f1 f2 scope pos) (tLcD w0 g0 tt0 (fun D => cFor w1 g1 tt1 vs1 (cFor w2 g2 tt2 vs2 (cApp D te))) (own.map (·.2))) :=
  pe_lcD hc hN hi ok hv1 turn3_0 hs1 hg0 ht0 (fun s H C cl fp D => runs_mid hc blk_xe turn3_1 start3_1 (hs2 _) (hi1 s H C cl fp) (hg1 s H C cl fp) (ht1 s H C cl fp) hv2 (runs_last hc blk_xe turn3_2 start3_2 (hi2 s H C cl fp) (hg2 s H C cl fp) (ht2 s H C cl fp) (he s H C cl fp))) hs0
end
end DL

/-! DLV: comprehensions of three fors over data; comprehensions over a dict's keys; pop(i), index, upper. -/
namespace DL
open PySem PySem.Spec PyProof.Rows L2
abbrev DCB := DR → Mu → (Mu → Prop) → Prop
def RefCB (K : PySem.W.Frag) (B : Gh) (T : DCB) (t : CB) : Prop := ∀ ρ μ σ H G (N : Mu → Prop) (Nx : Hp → Prop), Sat K B G ρ μ σ H → T ρ μ N → (∀ μ' H' G', Gle G G' → Hold K G' μ' H' → N μ' → Nx H') → t σ H Nx
def dApp (p : Addr) (te : TDE) : DCB := fun ρ μ N => te ρ μ fun d μ1 => cS (μ1 p) fun acc => acc.length < sizeLine ∧ N (mup μ1 p (.lst (acc ++ [d])))
@[simp ↓] theorem dApp_p {p : Addr} {te : TDE} {ρ} {μ} {N : Mu → Prop} : dApp p te ρ μ N = (te ρ μ fun d μ1 => cS (μ1 p) fun acc => acc.length < sizeLine ∧ N (mup μ1 p (.lst (acc ++ [d])))) := id rfl
def cmpL (g : TDG) (tt : TDT) (c : DCB) (ρ0 : DR) (N : Mu → Prop) : List D → Mu → Prop
  | [], μ => N μ
  | x :: r, μ => g x ρ0 μ fun ρ2 μ2 => tt ρ2 μ2 fun b μ3 => if b = true then c ρ2 μ3 (cmpL g tt c ρ0 N r) else cmpL g tt c ρ0 N r μ3
@[simp ↓] theorem cmpL_n {g : TDG} {tt : TDT} {c : DCB} {ρ0 : DR} {N : Mu → Prop} {μ : Mu} : cmpL g tt c ρ0 N [] μ = N μ := id rfl
@[simp ↓] theorem cmpL_c {g : TDG} {tt : TDT} {c : DCB} {ρ0 : DR} {N : Mu → Prop} {x : D} {r : List D} {μ : Mu} : cmpL g tt c ρ0 N (x :: r) μ = (g x ρ0 μ fun ρ2 μ2 => tt ρ2 μ2 fun b μ3 => if b = true then c ρ2 μ3 (cmpL g tt c ρ0 N r) else cmpL g tt c ρ0 N r μ3) := id rfl
def dForC (I : TDI) (g : TDG) (tt : TDT) (vs : List Nat) (c : DCB) : DCB := fun ρ μ N => I ρ μ fun xs μ1 => cmpL g tt c (wipeD ρ vs) N xs μ1
@[simp ↓] theorem dForC_p {I : TDI} {g : TDG} {tt : TDT} {vs : List Nat} {c : DCB} {ρ} {μ} {N : Mu → Prop} : dForC I g tt vs c ρ μ N = (I ρ μ fun xs μ1 => cmpL g tt c (wipeD ρ vs) N xs μ1) := id rfl
def dLcD (k : Bool) (I : TDI) (g : TDG) (tt : TDT) (c : Addr → DCB) (vs : List Nat) : TDE := fun ρ μ Q => I ρ μ fun xs μ1 => ∀ p, μ1 p = none → cmpL g tt (c p) (wipeD ρ vs) (fun μ2 => endL k p μ2 Q) xs (mup μ1 p (.lst []))
@[simp ↓] theorem dLcD_p {k : Bool} {I : TDI} {g : TDG} {tt : TDT} {c : Addr → DCB} {vs : List Nat} {ρ} {μ} {Q} : dLcD k I g tt c vs ρ μ Q = (I ρ μ fun xs μ1 => ∀ p, μ1 p = none → cmpL g tt (c p) (wipeD ρ vs) (fun μ2 => endL k p μ2 Q) xs (mup μ1 p (.lst []))) := id rfl
section
variable {K : PySem.W.Frag} {B : Gh} {I : TDI} {i : TI} {g : TDG} {gn : TG} {tt : TDT} {ttn : TT} {te : TDE} {ten : TE} {vs : List Nat} {c : DCB} {cn : CB} {p : Addr}
theorem ref_app (he : RefE K B te ten) : RefCB K B (dApp p te) (cApp p ten) := fun ρ μ σ H G N Nx S h hd => he ρ μ σ H G _ _ S h fun d μ1 v H1 G1 g1 S1 r1 q1 => by
  rw [cS_eq] at q1
  obtain ⟨acc, e, l, q⟩ := q1
  obtain ⟨ws, h1, rr⟩ := S1.hold.lstAt e
  exact ⟨ws, h1, by rw [rr.1]; exact l, hd _ _ G1 g1 (S1.hold.cellSet e (show CellR K G1 (.lst (ws ++ [v])) (.lst (acc ++ [d])) from rr.append (Reps.one r1))) q⟩
/-- a clause's walk from its reading -/
theorem clauseW_of {ρ : DR} {σ : St} {G1 : Gh} {J : It} {xs : List D} {N : Mu → Prop} {Nx : Hp → Prop} (hg : RefG K B g gn) (hk : KeepG gn vs) (ht : RefT K B tt ttn) (hc : RefCB K B c cn) (env : Envr K B G1 σ ρ)
    (hgo : ∀ n H' G' μ', Gle G1 G' → Hold K G' μ' H' → (n < xs.length → J.go n H') ∧ (xs.length ≤ n → J.stop n H'))
    (hy : ∀ n x v H' H2 G' μ', Gle G1 G' → Hold K G' μ' H' → xs[n]? = some x → J.yld n H' v H2 → ∃ G2, Gle G' G2 ∧ Hold K G2 μ' H2 ∧ Rep K G2 v x)
    (hd : ∀ μ' H' G', Gle G1 G' → Hold K G' μ' H' → N μ' → Nx H') :
    ClauseW J gn ttn cn vs σ Nx (fun n m H' => m = xs.length - n ∧ n ≤ xs.length ∧ ∃ G' μ', Gle G1 G' ∧ Hold K G' μ' H' ∧ cmpL g tt c (wipeD ρ vs) N (xs.drop n) μ') := by
  rintro n m H' ⟨rfl, hn, G', μ', g2, S2, q3⟩
  by_cases hlt : n < xs.length
  · refine .inr ⟨(hgo n H' G' μ' g2 S2).1 hlt, fun H3 => ∃ G3 μ3, Gle G1 G3 ∧ Hold K G3 μ3 H3 ∧ cmpL g tt c (wipeD ρ vs) N (xs.drop (n + 1)) μ3, ?_, ?_⟩
    · rintro H3 ⟨G3, μ3, g3, S3, q4⟩
      exact ⟨xs.length - (n + 1), by omega, rfl, hlt, G3, μ3, g3, S3, q4⟩
    · intro v H2 yv
      obtain ⟨G2, g3, h2, rv⟩ := hy n xs[n] v H' H2 G' μ' g2 S2 (List.getElem?_eq_getElem hlt) yv
      rw [List.drop_eq_getElem_cons hlt] at q3
      have S3 : Sat K B G2 (wipeD ρ vs) μ' (L2.wipe σ vs) H2 := ⟨h2, (((env.mono g2).mono g3).wipe vs)⟩
      have q4 := hg xs[n] v (wipeD ρ vs) μ' (L2.wipe σ vs) H2 G2 _ (fun σ2 H3 => ttn σ2 H3 fun b H3 => if b = true then cn σ2 H3 (fun H3 => ∃ G3 μ3, Gle G1 G3 ∧ Hold K G3 μ3 H3 ∧ cmpL g tt c (wipeD ρ vs) N (xs.drop (n + 1)) μ3) else ∃ G3 μ3, Gle G1 G3 ∧ Hold K G3 μ3 H3 ∧ cmpL g tt c (wipeD ρ vs) N (xs.drop (n + 1)) μ3) S3 rv q3 fun ρ4 μ4 σ4 H4 G4 g4 S4 q4 => by
        refine ht ρ4 μ4 σ4 H4 G4 _ _ S4 q4 fun b μ5 H5 G5 g5 S5 q5 => ?_
        cases b with
        | true => exact hc ρ4 μ5 σ4 H5 G5 _ _ S5 q5 fun μ6 H6 G6 g6 S6 q6 => ⟨G6, μ6, (((g2.trans g3).trans g4).trans g5).trans g6, S6, q6⟩
        | false => exact ⟨G5, μ5, ((g2.trans g3).trans g4).trans g5, S5.hold, q5⟩
      have q5 := hk v (L2.wipe σ vs) H2 _ q4
      rw [wipe_wipe] at q5
      exact q5
  · have e : n = xs.length := by omega
    subst e
    rw [List.drop_length] at q3
    exact .inl ⟨(hgo _ H' G' μ' g2 S2).2 (Nat.le_refl _), hd μ' H' G' g2 S2 q3⟩
theorem ref_forC (hi : RefI K B I i) (hg : RefG K B g gn) (hk : KeepG gn vs) (ht : RefT K B tt ttn) (hc : RefCB K B c cn) : RefCB K B (dForC I g tt vs c) (cFor i gn ttn vs cn) := fun ρ μ σ H G N Nx S h hd => by
  refine hi ρ μ σ H G _ _ S h fun xs μ1 J H1 G1 g1 S1 q1 hgo hy => ?_
  exact ⟨_, ⟨xs.length, by simp, Nat.zero_le _, G1, μ1, Gle.refl _, S1.hold, by simpa using q1⟩, clauseW_of hg hk ht hc S1.env hgo hy fun μ' H' G' g' => hd μ' H' G' (g1.trans g')⟩
theorem ref_lcD {k : Bool} {c : Addr → DCB} {cn : Addr → CB} (hi : RefI K B I i) (hg : RefG K B g gn) (hk : KeepG gn vs) (ht : RefT K B tt ttn) (hc : ∀ p, RefCB K B (c p) (cn p)) : RefE K B (dLcD k I g tt c vs) (tLcD i gn ttn cn vs) := fun ρ μ σ H G Q Qn S h hd => by
  refine hi ρ μ σ H G _ _ S h fun xs μ1 J H1 G1 g1 S1 q1 hgo hy => ?_
  intro p np
  have hc1 : Hold K G1 (mup μ1 p (.lst [])) (upd H1 p (.lst [])) := S1.hold.cellNew np (show CellR K G1 (.lst []) (.lst []) from Reps.nil)
  have q2 := q1 p (S1.hold.free np).2.1
  exact ⟨_, ⟨xs.length, by simp, Nat.zero_le _, G1, _, Gle.refl _, hc1, by simpa using q2⟩, clauseW_of hg hk ht (hc p) S1.env hgo hy fun μ' H' G' g' S' q' => endL_go q' ⟨S', S1.env.mono g'⟩ (hd.mono (g1.trans g'))⟩
end
section
variable {X : Cx}
theorem de_lc3A (k : Bool) {elt t0 i0 t1 i1 t2 i2 : Expr} {f0 f1 f2 : List Expr} {scope : Scope} {own : List (Str × Nat)} {vs1 vs2 : List Nat} {pos : Pos} {w0 w1 w2 : TI} {w1' w2' : Fam TI} {I0 I1 I2 : TDI} {g0 g1 g2 : TG} {U0 U1 U2 : TDG} {tt0 tt1 tt2 : TT} {tt0' tt1' tt2' : Fam TT} {T0 T1 T2 : TDT} {te : TE} {te' : Fam TE} {Te : TDE} (hc : X.calm = true) (hN : X.N.Nodup) (hi : DI X B t0 i0 w0 I0) (ok : BlkOk X.N X.env.scope scope own) (hv1 : ∀ i ∈ vs1, i ∈ own.map (·.2)) (hv2 : ∀ i ∈ vs2, i ∈ vs1)
    (hg0 : ∀ (s : Shared) (H : Hp) (C : Addr) (cl : List (Str × Addr)) (fp : List Addr), DG (X.blk s H scope (compEnvC scope cl C X.env) fp) B t0 g0 U0) (hk0 : KeepG g0 (own.map (·.2))) (ht0 : ∀ (s : Shared) (H : Hp) (C : Addr) (cl : List (Str × Addr)) (fp : List Addr), DTs (X.blk s H scope (compEnvC scope cl C X.env) fp) B f0 (tt0' s H C cl fp) T0)
    (hi1 : ∀ (s : Shared) (H : Hp) (C : Addr) (cl : List (Str × Addr)) (fp : List Addr), DI (X.blk s H scope (compEnvC scope cl C X.env) fp) B t1 i1 (w1' s H C cl fp) I1)
    (hg1 : ∀ (s : Shared) (H : Hp) (C : Addr) (cl : List (Str × Addr)) (fp : List Addr), DG (X.blk s H scope (compEnvC scope cl C X.env) fp) B t1 g1 U1) (hk1 : KeepG g1 vs1) (ht1 : ∀ (s : Shared) (H : Hp) (C : Addr) (cl : List (Str × Addr)) (fp : List Addr), DTs (X.blk s H scope (compEnvC scope cl C X.env) fp) B f1 (tt1' s H C cl fp) T1)
    (hi2 : ∀ (s : Shared) (H : Hp) (C : Addr) (cl : List (Str × Addr)) (fp : List Addr), DI (X.blk s H scope (compEnvC scope cl C X.env) fp) B t2 i2 (w2' s H C cl fp) I2)
    (hg2 : ∀ (s : Shared) (H : Hp) (C : Addr) (cl : List (Str × Addr)) (fp : List Addr), DG (X.blk s H scope (compEnvC scope cl C X.env) fp) B t2 g2 U2) (hk2 : KeepG g2 vs2) (ht2 : ∀ (s : Shared) (H : Hp) (C : Addr) (cl : List (Str × Addr)) (fp : List Addr), DTs (X.blk s H scope (compEnvC scope cl C X.env) fp) B f2 (tt2' s H C cl fp) T2)
    (he : ∀ (s : Shared) (H : Hp) (C : Addr) (cl : List (Str × Addr)) (fp : List Addr), DE (X.blk s H scope (compEnvC scope cl C X.env) fp) B elt (te' s H C cl fp) Te)
    (e0 : tt0' = fun _ _ _ _ _ => tt0 := by (first | rfl | (simp only [Cx.blk]; rfl))) (e1 : w1' = fun _ _ _ _ _ => w1 := by (first | rfl | (simp only [Cx.blk]; rfl))) (e2 : tt1' = fun _ _ _ _ _ => tt1 := by (first | rfl | (simp only [Cx.blk]; rfl))) (e3 : w2' = fun _ _ _ _ _ => w2 := by (first | rfl | (simp only [Cx.blk]; rfl))) (e4 : tt2' = fun _ _ _ _ _ => tt2 := by (first | rfl | (simp only [Cx.blk]; rfl))) (e5 : te' = fun _ _ _ _ _ => te := by (first | rfl | (simp only [Cx.blk]; rfl)))
    (hs0 : ∀ x, foldedSetIterable i0 X.env x = pure x := by intro _; rfl) (hs1 : ∀ env x, foldedSetIterable i1 env x = pure x := by intro _ _; rfl) (hs2 : ∀ env x, foldedSetIterable i2 env x = pure x := by intro _ _; rfl) :
    DE X B (lc3 elt t0 i0 t1 i1 t2 i2 f0 f1 f2 scope pos) (tLcD w0 g0 tt0 (fun D => cFor w1 g1 tt1 vs1 (cFor w2 g2 tt2 vs2 (cApp D te))) (own.map (·.2))) (dLcD k I0 U0 T0 (fun p => dForC I1 U1 T1 vs1 (dForC I2 U2 T2 vs2 (dApp p Te))) (own.map (·.2))) := by
  subst e0; subst e1; subst e2; subst e3; subst e4; subst e5
  exact ⟨pe_lc3 hc hN hi.pi ok hv1 hv2 (fun s H C cl fp => (hg0 s H C cl fp).pg) (fun s H C cl fp => (ht0 s H C cl fp).pts) (fun s H C cl fp => (hi1 s H C cl fp).pi) (fun s H C cl fp => (hg1 s H C cl fp).pg) (fun s H C cl fp => (ht1 s H C cl fp).pts) (fun s H C cl fp => (hi2 s H C cl fp).pi) (fun s H C cl fp => (hg2 s H C cl fp).pg) (fun s H C cl fp => (ht2 s H C cl fp).pts) (fun s H C cl fp => (he s H C cl fp).pe) hs0 hs1 hs2,
    ref_lcD hi.ref (hg0 X.s_0 X.H_0 0 [] []).ref hk0 (ht0 X.s_0 X.H_0 0 [] []).ref fun p => ref_forC (hi1 X.s_0 X.H_0 0 [] []).ref (hg1 X.s_0 X.H_0 0 [] []).ref hk1 (ht1 X.s_0 X.H_0 0 [] []).ref (ref_forC (hi2 X.s_0 X.H_0 0 [] []).ref (hg2 X.s_0 X.H_0 0 [] []).ref hk2 (ht2 X.s_0 X.H_0 0 [] []).ref (ref_app (he X.s_0 X.H_0 0 [] []).ref))⟩
/-! ### over a dict's keys -/
/-- as compL; Kp holds at each turn -/
def compLK (g : TDG) (tt : TDT) (te : TDE) (p : Addr) (ρ0 : DR) (Kp : Mu → Prop) (Q : Mu → Prop) : List D → Mu → Prop
  | [], μ => Kp μ ∧ Q μ
  | x :: r, μ => Kp μ ∧ g x ρ0 μ fun ρ2 μ2 => tt ρ2 μ2 fun b μ3 => if b = true then te ρ2 μ3 fun d μ4 => ∃ acc, μ4 p = some (.lst acc) ∧ acc.length < sizeLine ∧ compLK g tt te p ρ0 Kp Q r (mup μ4 p (.lst (acc ++ [d]))) else compLK g tt te p ρ0 Kp Q r μ3
theorem compLK_kp {g : TDG} {tt : TDT} {te : TDE} {p : Addr} {ρ0 : DR} {Kp Q : Mu → Prop} {xs : List D} {μ : Mu} (h : compLK g tt te p ρ0 Kp Q xs μ) : Kp μ := by
  cases xs with
  | nil => exact h.1
  | cons x r => exact h.1
def dLcK (k : Bool) (I : TDIK) (g : TDG) (tt : TDT) (te : TDE) (vs : List Nat) : TDE := fun ρ μ Q => I ρ μ fun xs Kp μ1 => ∀ p, μ1 p = none → compLK g tt te p (wipeD ρ vs) Kp (fun μ2 => endL k p μ2 Q) xs (mup μ1 p (.lst []))
@[simp ↓] theorem dLcK_p {k : Bool} {I : TDIK} {g : TDG} {tt : TDT} {te : TDE} {vs : List Nat} {ρ} {μ} {Q} : dLcK k I g tt te vs ρ μ Q = (I ρ μ fun xs Kp μ1 => ∀ p, μ1 p = none → compLK g tt te p (wipeD ρ vs) Kp (fun μ2 => endL k p μ2 Q) xs (mup μ1 p (.lst []))) := id rfl
theorem ref_lcK {K : PySem.W.Frag} {k : Bool} {I : TDIK} {i : TI} {g : TDG} {gn : TG} {tt : TDT} {ttn : TT} {te : TDE} {ten : TE} {vs : List Nat} (hi : RefIK K B I i) (hg : RefG K B g gn) (hk : KeepG gn vs) (ht : RefT K B tt ttn) (he : RefE K B te ten) : RefE K B (dLcK k I g tt te vs) (tLc i gn ttn ten vs) := fun ρ μ σ H G Q Qn S h hd => by
  refine hi ρ μ σ H G _ _ S h fun xs Kp μ1 J H1 G1 g1 S1 q1 hgo hy => ?_
  intro p np
  have hc1 : Hold K G1 (mup μ1 p (.lst [])) (upd H1 p (.lst [])) := S1.hold.cellNew np (show CellR K G1 (.lst []) (.lst []) from Reps.nil)
  have q2 := q1 p (S1.hold.free np).2.1
  let Z : Nat → Hp → Prop := fun n H' => ∃ G' μ', Gle G1 G' ∧ Hold K G' μ' H' ∧ compLK g tt te p (wipeD ρ vs) Kp (fun μ2 => endL k p μ2 Q) (xs.drop n) μ'
  refine ⟨fun n m H' => m = xs.length - n ∧ n ≤ xs.length ∧ Z n H', ⟨xs.length, by simp, Nat.zero_le _, G1, _, Gle.refl _, hc1, by simpa using q2⟩, ?_⟩
  rintro n m H' ⟨rfl, hn, G', μ', g2, S2, q3⟩
  have kp := compLK_kp q3
  by_cases hlt : n < xs.length
  · refine .inr ⟨(hgo n H' G' μ' g2 S2 kp).1 hlt, Z (n + 1), fun H3 z => ⟨xs.length - (n + 1), by omega, rfl, hlt, z⟩, ?_⟩
    intro v H2 yv
    obtain ⟨G2, g3, h2, rv⟩ := hy n xs[n] v H' H2 G' μ' g2 S2 kp (List.getElem?_eq_getElem hlt) yv
    rw [List.drop_eq_getElem_cons hlt] at q3
    have S3 : Sat K B G2 (wipeD ρ vs) μ' (L2.wipe σ vs) H2 := ⟨h2, (((S1.env.mono g2).mono g3).wipe vs)⟩
    have q4 := hg xs[n] v (wipeD ρ vs) μ' (L2.wipe σ vs) H2 G2 _ (fun σ2 H3 => ttn σ2 H3 fun b H3 => if b = true then ten σ2 H3 fun y H4 => ∃ acc, H4 p = some (.lst acc) ∧ acc.length < sizeLine ∧ Z (n + 1) (upd H4 p (.lst (acc ++ [y]))) else Z (n + 1) H3) S3 rv q3.2 fun ρ4 μ4 σ4 H4 G4 g4 S4 q4 => by
      refine ht ρ4 μ4 σ4 H4 G4 _ _ S4 q4 fun b μ5 H5 G5 g5 S5 q5 => ?_
      cases b with
      | true =>
        refine he ρ4 μ5 σ4 H5 G5 _ _ S5 q5 fun d μ6 v6 H6 G6 g6 S6 r6 q6 => ?_
        obtain ⟨acc, e, l, q6⟩ := q6
        obtain ⟨ws, h1, rr⟩ := S6.hold.lstAt e
        exact ⟨ws, h1, by rw [rr.1]; exact l, G6, _, (((g2.trans g3).trans g4).trans g5).trans g6, S6.hold.cellSet e (show CellR K G6 (.lst (ws ++ [v6])) (.lst (acc ++ [d])) from rr.append (Reps.one r6)), q6⟩
      | false => exact ⟨G5, μ5, ((g2.trans g3).trans g4).trans g5, S5.hold, q5⟩
    have q5 := hk v (L2.wipe σ vs) H2 _ q4
    rw [wipe_wipe] at q5
    exact q5
  · have e : n = xs.length := by omega
    subst e
    rw [List.drop_length] at q3
    exact .inl ⟨(hgo _ H' G' μ' g2 S2 kp).2 (Nat.le_refl _), endL_go q3.2 ⟨S2, S1.env.mono g2⟩ (hd.mono (g1.trans g2))⟩
theorem de_lcK (k : Bool) {elt tg iter : Expr} {ifs : List Expr} {scope : Scope} {own : List (Str × Nat)} {pos : Pos} {wi : TI} {I : TDIK} {g : TG} {U : TDG} {tt : TT} {tt' : Fam TT} {Tt : TDT} {te : TE} {te' : Fam TE} {Te : TDE} (hc : X.calm = true) (hN : X.N.Nodup) (hi : DIK X B tg iter wi I) (ok : BlkOk X.N X.env.scope scope own)
    (hg : ∀ (s : Shared) (H : Hp) (C : Addr) (cl : List (Str × Addr)) (fp : List Addr), DG (X.blk s H scope (compEnvC scope cl C X.env) fp) B tg g U) (hk : KeepG g (own.map (·.2))) (ht : ∀ (s : Shared) (H : Hp) (C : Addr) (cl : List (Str × Addr)) (fp : List Addr), DTs (X.blk s H scope (compEnvC scope cl C X.env) fp) B ifs (tt' s H C cl fp) Tt)
    (he : ∀ (s : Shared) (H : Hp) (C : Addr) (cl : List (Str × Addr)) (fp : List Addr), DE (X.blk s H scope (compEnvC scope cl C X.env) fp) B elt (te' s H C cl fp) Te)
    (et : tt' = fun _ _ _ _ _ => tt := by (first | rfl | (simp only [Cx.blk]; rfl))) (ee : te' = fun _ _ _ _ _ => te := by (first | rfl | (simp only [Cx.blk]; rfl))) (hs : ∀ x, foldedSetIterable iter X.env x = pure x := by intro _; rfl) :
    DE X B (.ListComp elt [⟨tg, iter, ifs, 0⟩] scope pos) (tLc wi g tt te (own.map (·.2))) (dLcK k I U Tt Te (own.map (·.2))) := by
  subst et; subst ee
  exact ⟨pe_lc hc hN hi.pi ok (fun s H C cl fp => (hg s H C cl fp).pg) (fun s H C cl fp => (ht s H C cl fp).pts) (fun s H C cl fp => (he s H C cl fp).pe) hs, ref_lcK hi.ref (hg X.s_0 X.H_0 0 [] []).ref hk (ht X.s_0 X.H_0 0 [] []).ref (he X.s_0 X.H_0 0 [] []).ref⟩
/-! ### methods more -/
def mPopAt : RMD := fun x ds μ Q => match x, ds with
  | .ptr a, [.int i] => cS (μ a) fun xs => (0 ≤ i ∧ i < xs.length ∧ i < 2 ^ 63) ∧ oS xs[i.toNat]? fun d => Q d (mup μ a (.lst (xs.eraseIdx i.toNat)))
  | _, _ => False
@[simp ↓] theorem mPopAt_p {a : Addr} {i : Int} {μ : Mu} {Q : QD} : mPopAt (.ptr a) [.int i] μ Q = (cS (μ a) fun xs => (0 ≤ i ∧ i < xs.length ∧ i < 2 ^ 63) ∧ oS xs[i.toNat]? fun d => Q d (mup μ a (.lst (xs.eraseIdx i.toNat)))) := id rfl
theorem dm_popAt : MtR X "list.pop" rPopAt ∧ RefM X.K B "list" mPopAt rPopAt := by
  refine ⟨mt_popAt, ?_⟩
  intro ρ μ σ H G x dx vs ds Q Qn S r1 r2 h hd
  unfold mPopAt at h
  split at h
  · next a i =>
    cases r1
    obtain ⟨v, rfl, rv⟩ := reps1 r2
    cases rv
    rw [cS_eq] at h
    obtain ⟨xs, e, ⟨h0, h1, h2⟩, h⟩ := h
    rw [oS_eq] at h
    obtain ⟨d, ed, q⟩ := h
    obtain ⟨ws, hw, rr⟩ := S.hold.lstAt e
    obtain ⟨u, eu, ru⟩ := rr.get ed
    refine ⟨a, ws, i, i.toNat, u, rfl, rfl, hw, by omega, h2, ?_, eu, ?_⟩
    · unfold seqIndex?
      have l := rr.1
      simp only
      split <;> (try omega)
      all_goals first
        | rfl
        | (split <;> first | rfl | omega)
        | simp_all
        | omega
    · exact hd.now (S.cellSet e (show CellR X.K G (.lst (ws.eraseIdx i.toNat)) (.lst (xs.eraseIdx i.toNat)) from rr.eraseIdx _)) ru q
  · exact h.elim
/-- the place of a text among texts -/
def ixS (s : Str) (ss : List Str) : Option Nat := ss.findIdx? (fun t => decide (t = s))
def mIndex : RMD := fun x ds μ Q => match ds with
  | [.str s] => lS (vw μ x) fun xs => oS (strsOf xs) fun ss => oS (ixS s ss) fun j => Q (.int (j : Nat)) μ
  | _ => False
@[simp ↓] theorem mIndex_p {x : D} {s : Str} {μ : Mu} {Q : QD} : mIndex x [.str s] μ Q = (lS (vw μ x) fun xs => oS (strsOf xs) fun ss => oS (ixS s ss) fun j => Q (.int (j : Nat)) μ) := id rfl
theorem ixS_get {s : Str} {ss : List Str} {j : Nat} (h : ixS s ss = some j) : ss[j]? = some s ∧ ∀ m, m < j → ss[m]? ≠ some s := by
  unfold ixS at h
  rw [List.findIdx?_eq_some_iff_getElem] at h
  obtain ⟨hj, e, ne⟩ := h
  refine ⟨by rw [List.getElem?_eq_getElem hj]; exact congrArg some (of_decide_eq_true e), fun m hm q => ?_⟩
  have := ne m hm
  rw [List.getElem?_eq_getElem (by omega)] at q
  cases q
  simp at this
theorem dm_index : MtR X "list.index" (rIndex X.K) ∧ RefM X.K B "list" mIndex (rIndex X.K) := by
  refine ⟨mt_index, ?_⟩
  intro ρ μ σ H G x dx vs ds Q Qn S r1 r2 h hd
  unfold mIndex at h
  split at h
  · next s =>
    obtain ⟨v, rfl, rv⟩ := reps1 r2
    cases rv
    rw [lS_eq] at h
    obtain ⟨xs, e, h⟩ := h
    rw [oS_eq] at h
    obtain ⟨ss, es, h⟩ := h
    rw [oS_eq] at h
    obtain ⟨j, ej, q⟩ := h
    obtain ⟨a, ws, rfl, h1, rr⟩ := S.hold.lst r1 e
    have e2 := strsOf_eq es
    subst e2
    have e3 := rr.strs
    subst e3
    obtain ⟨g1, g2⟩ := ixS_get ej
    refine ⟨a, ss.map .str, .str s, j, .str s, rfl, rfl, SqL.of h1, rfl, flat_strs ss, by rw [List.getElem?_map, g1]; rfl, ?_, fun m z' hm hz => ?_, hd.now S (.int _) q⟩
    · show (s == s) = true
      simp
    · rw [List.getElem?_map] at hz
      cases q2 : ss[m]? with
      | none => rw [q2] at hz; cases hz
      | some t =>
        rw [q2] at hz
        cases hz
        show (t == s) = false
        have : t ≠ s := fun e => g2 m hm (by rw [q2, e])
        simpa using this
  · exact h.elim
def mUpper : RMD := fun x ds μ Q => match x, ds with
  | .str s, [] => s.length ≤ 5592405 ∧ Q (.str (Txt.upper s)) μ
  | _, _ => False
@[simp ↓] theorem mUpper_p {s : Str} {μ : Mu} {Q : QD} : mUpper (.str s) [] μ Q = (s.length ≤ 5592405 ∧ Q (.str (Txt.upper s)) μ) := id rfl
theorem dm_upper : MtR X "str.upper" (fun x xs H Q => ∃ a, x = .str a ∧ xs = [] ∧ a.length ≤ 5592405 ∧ Q (.str (Txt.upper a)) H) ∧ RefM X.K B "str" mUpper (fun x xs H Q => ∃ a, x = .str a ∧ xs = [] ∧ a.length ≤ 5592405 ∧ Q (.str (Txt.upper a)) H) := by
  refine ⟨mt_upper, ?_⟩
  intro ρ μ σ H G x dx vs ds Q Qn S r1 r2 h hd
  unfold mUpper at h
  split at h
  · next s =>
    cases r1
    exact ⟨s, rfl, r2.nil_inv, h.1, hd.now S (.str _) h.2⟩
  · exact h.elim
end
end DL

/-! DLW: list(o) and len(o) by a field; rows that are lists or tuples; sets of texts as dicts. -/
namespace DL
open PySem PySem.Spec PyProof.Rows L2
/-- list(o) goes over the list that is the field f -/
def ListOf (P : Program) (w : World) (K : PySem.W.Frag) (mg : Str → Option Value) (base : Heap) (k : Nat) (C : Addr) (f : Str) : Prop :=
  ∃ gl gi, OpAt K C "__len__" gl ∧ OpAt K C "__iter__" gi ∧ FnR P w K mg base CX0 k gl (spLenF K C f) ∧ FnR P w K mg base CX0 k gi (spIterF K C f)
def sp_lenF (C : Addr) (f : Str) : DSp := fun ds μ Q _ => ∃ d fs v xs, ds = [d] ∧ vw μ d = .obj C fs ∧ fget fs f = some v ∧ vw μ v = .lst xs ∧ Q (.int xs.length) μ
theorem lenF_sp {P : Program} {w : World} {K : PySem.W.Frag} {mg : Str → Option Value} {base : Heap} {k : Nat} {C g : Addr} {f : Str} {fd : FuncData} {ps : List Str} (F : FnOk P w K mg base CX0 k g fd ps (spLenF K C f)) : FnOk P w K mg base CX0 k g fd ps (toSp K (sp_lenF C f)) :=
  F.imp fun vs H Q E ⟨G, ds, μ, QQ, EE, hh, r, ⟨d, fs, v, xs, e1, e2, e3, e4, q⟩, hq, _⟩ => by
    subst e1
    obtain ⟨u, rfl, ru⟩ := reps1 r
    obtain ⟨a, dx, ws, rfl, h1, rr⟩ := hh.obj ru e2
    obtain ⟨y, ly, ry⟩ := (rr.fget f).1 v e3
    obtain ⟨b, us, rfl, h2, r2⟩ := hh.lst ry e4
    exact ⟨a, dx, ws, b, us, rfl, h1, ly, SqL.of h2, by rw [r2.1]; exact hq _ μ _ H G (Gle.refl G) hh (.int _) q⟩
theorem pi_or {X : Cx} {tg e : Expr} {i j : TI} (h1 : PI X tg e i) (h2 : PI X tg e j) : PI X tg e (fun σ H R => i σ H R ∨ j σ H R) := ⟨fun pins s σ H R I q => q.elim (h1.run pins s σ H R I) (h2.run pins s σ H R I)⟩
/-- a name that holds a list or a tuple, frozen -/
def iSeqV (i : Nat) : TDI := fun ρ μ Q => match ρ[i]? with | some (some d) => seqS d fun xs => Q xs μ | _ => False
@[simp ↓] theorem iSeqV_p {i : Nat} {ρ} {μ} {Q : List D → Mu → Prop} : iSeqV i ρ μ Q = (match ρ[i]? with | some (some d) => seqS d fun xs => Q xs μ | _ => False) := id rfl
theorem di_seqV {X : Cx} {tg : Expr} (i : Nat) {x : Str} {pos : Pos} (hN : X.N[i]? = some x := by rfl) (hv : Vis X.env.scope x := by first | exact Or.inl rfl | exact Or.inr (Or.inl rfl) | exact Or.inr (Or.inr rfl)) (hd : (x == ("__debug__" : Str)) = false := by decide)
    (hcd : (x == ("__classdict__" : Str)) = false := by decide) : DI X B tg (.Name x pos) (fun σ H R => iList X.K (tVar i) σ H R ∨ iTup X.K (tVar i) σ H R) (iSeqV i) :=
  ⟨pi_or (di_list (B := B) (tg := tg) (dv (pos := pos) i hN hv hd hcd)).pi (di_tup (B := B) (tg := tg) (dv (pos := pos) i hN hv hd hcd)).pi, fun ρ μ σ H G Q R S q hR => by
    unfold iSeqV at q
    split at q
    · next d e =>
      cases d with
      | lst xs => exact .inl ((di_list (B := B) (tg := tg) (dv (pos := pos) i hN hv hd hcd)).ref ρ μ σ H G Q R S (by unfold iLst dVar; rw [e]; exact q) hR)
      | tup xs => exact .inr ((di_tup (B := B) (tg := tg) (dv (pos := pos) i hN hv hd hcd)).ref ρ μ σ H G Q R S (by unfold iTupD dVar; rw [e]; exact q) hR)
      | _ => exact False.elim q
    · exact q.elim⟩
/-! defs of classes by name: with a star parameter, class methods, properties -/
structure MethV (K : PySem.W.Frag) (C : Addr) (m q : Str) (st : Stmt) (f : Addr) (fd : FuncData) : Prop where
  F : Fun K m q st f fd
  M : Meth K C m f
structure ClsAt (K : PySem.W.Frag) (C : Addr) (m q : Str) (st : Stmt) (ps : List Str) (f : Addr) (fd : FuncData) : Prop where
  F : Fun K m q st f fd
  M : CMeth K C m f
  b : Binds K fd ps []
structure PropAt (K : PySem.W.Frag) (C : Addr) (m q : Str) (st : Stmt) (ps : List Str) (f : Addr) (fd : FuncData) : Prop where
  F : Fun K m q st f fd
  M : ∃ r, PropOf K C m r f
  b : Binds K fd ps []
section
variable {P : Program} {w : World} {K : PySem.W.Frag} {mg : Str → Option Value} {base : Heap} {k : Nat} {C : Addr} {m q : Str} {st : Stmt} {ps : List Str} {f : Addr} {fd : FuncData} {S : DSp}
theorem ClsAt.called (D : ClsAt K C m q st ps f fd) (F : FnOk P w K mg base CX0 k f fd ps (toSp K S)) : CalledC P w K mg base k C m ps S := ⟨f, fd, D.M, D.b, F⟩
theorem PropAt.called (D : PropAt K C m q st ps f fd) (F : FnOk P w K mg base CX0 k f fd ps (toSp K S)) : Got P w K mg base k C m ps S := let ⟨r, h⟩ := D.M; ⟨r, f, fd, h, D.b, F⟩
theorem MethAt.op (D : MethAt K C m q st ps f fd) : OpAt K C m f := ⟨D.M.at_, D.M.fn⟩
theorem all7 {p : String → Prop} (h1 : p "NoneType") (h2 : p "bool") (h3 : p "int") (h4 : p "str") (h5 : p "list") (h6 : p "tuple") (h7 : p "dict") : ∀ T ∈ tyNames, p T := by
  intro T h
  simp only [tyNames, List.mem_cons, List.not_mem_nil, or_false] at h
  rcases h with rfl | rfl | rfl | rfl | rfl | rfl | rfl <;> assumption
end
/-- a tuple of texts of the written part -/
theorem rep_tupK {K : PySem.W.Frag} {t : Addr} {dd : Option Addr} {its : List Value} {n : Nat} {sl : Array (Option Value)} {ss : List Str} (l : K.lookup t = some ⟨.type "tuple", dd, .seq its.toArray n, sl⟩) (r : Vals (ss.map V.str) its) (hz : its.length ≤ 1000 := by decide) : ∀ G, Rep K G (.ref t) (.tup (ss.map .str)) :=
  fun G => .tup (vs := ss.map V.str) (.inr ⟨_, its.toArray, n, l, rfl, rfl, by rw [List.size_toArray]; exact sz_le (by omega), by simpa using r⟩) (by simp) fun i v d a b => (Reps.ofStrs ss).2 i v d a b
/-! sets of texts -/
def sSet (ks : List Str) : List (Key × D) := ks.map fun s => (.inr s, .bl true)
def addS (ks : List Str) (s : Str) : List Str := if s ∈ ks then ks else ks ++ [s]
theorem mem_addS {ks : List Str} {s t : Str} : t ∈ addS ks s ↔ t ∈ ks ∨ t = s := by
  unfold addS
  split
  · next h => constructor
              · exact .inl
              · rintro (h1 | rfl)
                · exact h1
                · exact h
  · simp
theorem addS_len {ks : List Str} {s : Str} : (addS ks s).length ≤ ks.length + 1 := by unfold addS; split <;> simp
theorem valD_sSet {ks : List Str} {s : Str} : (valD (sSet ks) (.inr s)).isSome = decide (s ∈ ks) := by
  unfold valD sSet
  rw [Option.isSome_map]
  induction ks with
  | nil => rfl
  | cons k r ih =>
    rw [List.map_cons, List.find?_cons]
    by_cases h : k = s
    · subst h; simp
    · have e : decide ((Sum.inr k : Key) = .inr s) = false := by simpa using h
      simp only [e]
      rw [ih]
      simp [Ne.symm h]
theorem put_sSet {ks : List Str} {s : Str} : putD (sSet ks) (.inr s) (.bl true) = sSet (addS ks s) := by
  unfold putD addS
  have e : ((sSet ks).any fun kv => decide (kv.1 = (Sum.inr s : Key))) = decide (s ∈ ks) := by
    unfold sSet
    rw [List.any_map]
    induction ks with
    | nil => rfl
    | cons k r ih => simp [Function.comp_def, eq_comm] at ih ⊢; rw [ih]
  rw [e]
  by_cases h : s ∈ ks
  · rw [if_pos (by simpa using h), if_pos h]
    unfold sSet
    rw [List.map_map]
    apply List.map_congr_left
    intro k _
    simp only [Function.comp]
    split
    · next h2 => cases h2; rfl
    · rfl
  · rw [if_neg (by simpa using h), if_neg h]
    unfold sSet
    rw [List.map_append]; rfl
theorem sSet_len {ks : List Str} : (sSet ks).length = ks.length := by simp [sSet]
/-- the keys that a row leaves -/
def keysS (ls : List Str) : List Str := ls.foldl addS []
theorem mem_foldS : ∀ {ls ks : List Str} {t : Str}, t ∈ ls.foldl addS ks ↔ t ∈ ks ∨ t ∈ ls
  | [], ks, t => by simp
  | s :: r, ks, t => by
    rw [List.foldl_cons, mem_foldS, mem_addS]
    simp [or_assoc]
@[simp] theorem mem_keysS {ls : List Str} {t : Str} : t ∈ keysS ls ↔ t ∈ ls := by unfold keysS; rw [mem_foldS]; simp
theorem foldS_len : ∀ {ls ks : List Str}, (ls.foldl addS ks).length ≤ ks.length + ls.length
  | [], ks => by simp
  | s :: r, ks => by
    rw [List.foldl_cons]
    have h1 := foldS_len (ls := r) (ks := addS ks s)
    have h2 := addS_len (ks := ks) (s := s)
    simp only [List.length_cons]
    omega
theorem keysS_len {ls : List Str} : (keysS ls).length ≤ ls.length := by have := foldS_len (ls := ls) (ks := []); simpa [keysS] using this
theorem foldS_nodup : ∀ {ls ks : List Str}, (ks ++ ls).Nodup → ls.foldl addS ks = ks ++ ls
  | [], ks, _ => by simp
  | s :: r, ks, h => by
    rw [List.foldl_cons]
    have hs : s ∉ ks := fun hm => by
      rw [List.nodup_append] at h
      exact h.2.2 s hm s (by simp) rfl
    have e : addS ks s = ks ++ [s] := by unfold addS; rw [if_neg hs]
    rw [e, foldS_nodup (by simpa using h)]
    simp
theorem keysS_nodup {ls : List Str} (h : ls.Nodup) : keysS ls = ls := by unfold keysS; rw [foldS_nodup (by simpa using h)]; rfl
theorem unkey_sSet {ks : List Str} : (sSet ks).map (fun kv => unkey kv.1) = ks.map .str := by unfold sSet; rw [List.map_map]; rfl
end DL

/-! DLX: comprehensions whose turns leave the store alone. -/
namespace DL
open PySem PySem.Spec PyProof.Rows L2
theorem comp_fm {g : TDG} {tt : TDT} {te : TDE} {p : Addr} {ρ0 : DR} {Q : Mu → Prop} (f : D → Option D) {μ : Mu} : ∀ {xs acc : List D}, (hl : acc.length + xs.length ≤ 16000000) →
    (hc : ∀ x ∈ xs, ∀ (acc : List D) (N : Mu → Prop), acc.length ≤ 16000000 → (match f x with | some d => N (mup μ p (.lst (acc ++ [d]))) | none => N (mup μ p (.lst acc))) →
      g x ρ0 (mup μ p (.lst acc)) fun ρ2 μ2 => tt ρ2 μ2 fun b μ3 => if b = true then te ρ2 μ3 fun d μ4 => ∃ acc, μ4 p = some (.lst acc) ∧ acc.length < sizeLine ∧ N (mup μ4 p (.lst (acc ++ [d]))) else N μ3) →
    Q (mup μ p (.lst (acc ++ xs.filterMap f))) → compL g tt te p ρ0 Q xs (mup μ p (.lst acc))
  | [], acc, _, _, q => by simpa using q
  | x :: r, acc, hl, hc, q => by
    simp only [List.length_cons] at hl
    rw [compL_cons]
    refine hc x (by simp) acc _ (by omega) ?_
    cases e : f x with
    | some d =>
      rw [List.filterMap_cons_some e] at q
      exact comp_fm f (by simp; omega) (fun y hy => hc y (List.mem_cons_of_mem _ hy)) (by simpa using q)
    | none =>
      rw [List.filterMap_cons_none e] at q
      exact comp_fm f (by omega) (fun y hy => hc y (List.mem_cons_of_mem _ hy)) q
/-- over a dict's keys -/
theorem compK_fm {g : TDG} {tt : TDT} {te : TDE} {p : Addr} {ρ0 : DR} {Kp Q : Mu → Prop} (f : D → Option D) {μ : Mu} (hk : ∀ acc, Kp (mup μ p (.lst acc))) : ∀ {xs acc : List D}, (hl : acc.length + xs.length ≤ 16000000) →
    (hc : ∀ x ∈ xs, ∀ (acc : List D) (N : Mu → Prop), acc.length ≤ 16000000 → (match f x with | some d => N (mup μ p (.lst (acc ++ [d]))) | none => N (mup μ p (.lst acc))) →
      g x ρ0 (mup μ p (.lst acc)) fun ρ2 μ2 => tt ρ2 μ2 fun b μ3 => if b = true then te ρ2 μ3 fun d μ4 => ∃ acc, μ4 p = some (.lst acc) ∧ acc.length < sizeLine ∧ N (mup μ4 p (.lst (acc ++ [d]))) else N μ3) →
    Q (mup μ p (.lst (acc ++ xs.filterMap f))) → compLK g tt te p ρ0 Kp Q xs (mup μ p (.lst acc))
  | [], acc, _, _, q => ⟨hk _, by simpa using q⟩
  | x :: r, acc, hl, hc, q => by
    simp only [List.length_cons] at hl
    refine ⟨hk _, hc x (by simp) acc _ (by omega) ?_⟩
    cases e : f x with
    | some d =>
      rw [List.filterMap_cons_some e] at q
      exact compK_fm f hk (by simp; omega) (fun y hy => hc y (List.mem_cons_of_mem _ hy)) (by simpa using q)
    | none =>
      rw [List.filterMap_cons_none e] at q
      exact compK_fm f hk (by omega) (fun y hy => hc y (List.mem_cons_of_mem _ hy)) q
theorem filterMap_str (ls : List Str) (q : Str → Bool) : (ls.map D.str).filterMap (fun d => match d with | .str s => if q s = true then some (.str s) else none | _ => none) = (ls.filter q).map D.str := by
  induction ls with
  | nil => rfl
  | cons s r ih =>
    rw [List.map_cons]
    by_cases h : q s = true
    · rw [List.filterMap_cons_some (b := .str s) (by simp [h]), List.filter_cons_of_pos h, List.map_cons, ih]
    · rw [List.filterMap_cons_none (by simp [h]), List.filter_cons_of_neg h, ih]
/-- texts that pass a test -/
def fmS (q : Str → Bool) : D → Option D := fun d => match d with | .str s => if q s = true then some (.str s) else none | _ => none
theorem comp_strs {g : TDG} {tt : TDT} {te : TDE} {p : Addr} {ρ0 : DR} {Q : Mu → Prop} (q : Str → Bool) {μ : Mu} {ls : List Str} (hl : ls.length ≤ 1000000)
    (hc : ∀ s ∈ ls, ∀ (acc : List D) (N : Mu → Prop), acc.length ≤ 16000000 → (if q s = true then N (mup μ p (.lst (acc ++ [.str s]))) else N (mup μ p (.lst acc))) →
      g (.str s) ρ0 (mup μ p (.lst acc)) fun ρ2 μ2 => tt ρ2 μ2 fun b μ3 => if b = true then te ρ2 μ3 fun d μ4 => ∃ acc, μ4 p = some (.lst acc) ∧ acc.length < sizeLine ∧ N (mup μ4 p (.lst (acc ++ [d]))) else N μ3)
    (h : Q (mup μ p (.lst ((ls.filter q).map .str)))) : compL g tt te p ρ0 Q (ls.map .str) (mup μ p (.lst [])) := by
  refine comp_fm (fmS q) (by simp; omega) (fun x hx acc N ha hN => ?_) ?_
  · obtain ⟨s, hs, rfl⟩ := List.mem_map.mp hx
    refine hc s hs acc N ha ?_
    unfold fmS at hN
    simp only at hN
    split
    · next e => rw [if_pos e] at hN; exact hN
    · next e => rw [if_neg e] at hN; exact hN
  · show Q (mup μ p (.lst ([] ++ (ls.map D.str).filterMap (fmS q))))
    unfold fmS
    rw [filterMap_str]; simpa using h
theorem compK_strs {g : TDG} {tt : TDT} {te : TDE} {p : Addr} {ρ0 : DR} {Kp Q : Mu → Prop} (q : Str → Bool) {μ : Mu} {ls : List Str} (hk : ∀ acc, Kp (mup μ p (.lst acc))) (hl : ls.length ≤ 1000000)
    (hc : ∀ s ∈ ls, ∀ (acc : List D) (N : Mu → Prop), acc.length ≤ 16000000 → (if q s = true then N (mup μ p (.lst (acc ++ [.str s]))) else N (mup μ p (.lst acc))) →
      g (.str s) ρ0 (mup μ p (.lst acc)) fun ρ2 μ2 => tt ρ2 μ2 fun b μ3 => if b = true then te ρ2 μ3 fun d μ4 => ∃ acc, μ4 p = some (.lst acc) ∧ acc.length < sizeLine ∧ N (mup μ4 p (.lst (acc ++ [d]))) else N μ3)
    (h : Q (mup μ p (.lst ((ls.filter q).map .str)))) : compLK g tt te p ρ0 Kp Q (ls.map .str) (mup μ p (.lst [])) := by
  refine compK_fm (fmS q) hk (by simp; omega) (fun x hx acc N ha hN => ?_) ?_
  · obtain ⟨s, hs, rfl⟩ := List.mem_map.mp hx
    refine hc s hs acc N ha ?_
    unfold fmS at hN
    simp only at hN
    split
    · next e => rw [if_pos e] at hN; exact hN
    · next e => rw [if_neg e] at hN; exact hN
  · show Q (mup μ p (.lst ([] ++ (ls.map D.str).filterMap (fmS q))))
    unfold fmS
    rw [filterMap_str]; simpa using h
/-- a dict of texts, each of them True -/
theorem dc_strs {g : TDG} {tt : TDT} {tk tv : TDE} {p : Addr} {ρ0 : DR} {Q : Mu → Prop} {μ : Mu} : ∀ {ls ks : List Str}, (hl : ks.length + ls.length ≤ 1000000) →
    (hc : ∀ s ∈ ls, ∀ (ks : List Str) (N : Mu → Prop), ks.length ≤ 1000000 → N (mup μ p (.dic (sSet (addS ks s)))) →
      g (.str s) ρ0 (mup μ p (.dic (sSet ks))) fun ρ2 μ2 => tt ρ2 μ2 fun b μ3 => if b = true then tk ρ2 μ3 fun y μ4 => tv ρ2 μ4 fun z μ5 => ∃ kvs k, keyD y = some k ∧ μ5 p = some (.dic kvs) ∧ kvs.length < sizeLine ∧ N (mup μ5 p (.dic (putD kvs k z))) else N μ3) →
    Q (mup μ p (.dic (sSet (ls.foldl addS ks)))) → dcL g tt tk tv p ρ0 Q (ls.map .str) (mup μ p (.dic (sSet ks)))
  | [], ks, _, _, q => q
  | s :: r, ks, hl, hc, q => by
    simp only [List.length_cons] at hl
    show g (.str s) ρ0 (mup μ p (.dic (sSet ks))) _
    refine hc s (by simp) ks _ (by omega) ?_
    have := addS_len (ks := ks) (s := s)
    exact dc_strs (by omega) (fun y hy => hc y (List.mem_cons_of_mem _ hy)) q
/-- what a turn of such a dict asks, answered -/
theorem dc_put {μ : Mu} {p : Addr} {ks : List Str} {s : Str} {N : Mu → Prop} (hl : ks.length ≤ 1000000) (h : N (mup μ p (.dic (sSet (addS ks s))))) :
    ∃ kvs k, keyD (.str s) = some k ∧ (mup μ p (.dic (sSet ks))) p = some (.dic kvs) ∧ kvs.length < sizeLine ∧ N (mup (mup μ p (.dic (sSet ks))) p (.dic (putD kvs k (.bl true)))) :=
  ⟨sSet ks, .inr s, rfl, mup_same, sz_lt (by rw [sSet_len]; omega), by rw [mup_mup, put_sSet]; exact h⟩
/-- three rows -/
theorem cmp_app {g : TDG} {tt : TDT} {c : DCB} {ρ0 : DR} {N : Mu → Prop} {p : Addr} {μ : Mu} (f : D → List D) : ∀ {xs acc : List D},
    (hc : ∀ x ∈ xs, ∀ (acc : List D) (N1 : Mu → Prop), N1 (mup μ p (.lst (acc ++ f x))) → acc.length + (f x).length ≤ 16000000 → g x ρ0 (mup μ p (.lst acc)) fun ρ2 μ2 => tt ρ2 μ2 fun b μ3 => if b = true then c ρ2 μ3 N1 else N1 μ3) →
    (hl : acc.length + (xs.flatMap f).length ≤ 16000000) → N (mup μ p (.lst (acc ++ xs.flatMap f))) → cmpL g tt c ρ0 N xs (mup μ p (.lst acc))
  | [], acc, _, _, q => by simpa using q
  | x :: r, acc, hc, hl, q => by
    rw [List.flatMap_cons, List.length_append] at hl
    rw [cmpL_c]
    refine hc x (by simp) acc _ ?_ (by omega)
    refine cmp_app f (fun y hy => hc y (List.mem_cons_of_mem _ hy)) (by rw [List.length_append]; omega) ?_
    rw [List.flatMap_cons, ← List.append_assoc] at q
    exact q
end DL

/-! DLY: a, b, .. = a list. -/
namespace DL
open PySem PySem.Spec PyProof.Rows L2
section
variable {X : Cx} {B : Gh} {pos : Pos}
def dgLst (n : Nat) (U : TDGs) : TDG := fun d ρ μ Q => ∃ xs, vw μ d = .lst xs ∧ xs.length = n ∧ U xs ρ μ Q
theorem dg_lst {es : List Expr} {k : Nat} {t : TGs} {U : TDGs} {n : Nat} (hc : X.calm = true) (h : DGs X B es t U) (hn : (assignEach es X.env).length = n := by rfl) (hst : (assignEach es X.env).findIdx? (·.1) = none := by rfl) : DG X B (.Tuple es k pos) (gLst X.K n t) (dgLst n U) :=
  ⟨pg_lst hc h.pgs hn hst, fun d v ρ μ σ H G Q Qn S r ⟨xs, e, l, q⟩ hd => by
    obtain ⟨a, vs, rfl, h1, rr⟩ := S.hold.lst r e
    exact ⟨a, vs, rfl, SqL.of h1, by rw [rr.1]; exact l, h.ref xs vs ρ μ σ H G Q Qn S rr q hd⟩⟩
@[simp ↓] theorem dgLst_p {n : Nat} {U : TDGs} {d} {ρ} {μ} {Q} : dgLst n U d ρ μ Q = (lS (vw μ d) fun xs => xs.length = n ∧ U xs ρ μ Q) := by
  simp only [lS_eq]; rfl
end
end DL

/-! DLZ: a row of bools made; picks by place. -/
namespace DL
open PySem PySem.Spec PyProof.Rows L2
theorem comp_bools {g : TDG} {te : TDE} {p : Addr} {ρ0 : DR} {Q : Mu → Prop} {μ : Mu} : ∀ {xs : List D} {b0 : List Bool}, (hl : b0.length + xs.length ≤ 16000000) →
    (hc : ∀ x ∈ xs, ∀ (acc : List D) (N : Mu → Prop), acc.length ≤ 16000000 → (∀ b : Bool, N (mup μ p (.lst (acc ++ [.bl b])))) →
      g x ρ0 (mup μ p (.lst acc)) fun ρ2 μ2 => te ρ2 μ2 fun d μ4 => ∃ acc, μ4 p = some (.lst acc) ∧ acc.length < sizeLine ∧ N (mup μ4 p (.lst (acc ++ [d])))) →
    (∀ bs : List Bool, bs.length = b0.length + xs.length → Q (mup μ p (.lst (bs.map .bl)))) → compL g dYes te p ρ0 Q xs (mup μ p (.lst (b0.map .bl)))
  | [], b0, _, _, q => q b0 (by simp)
  | x :: r, b0, hl, hc, q => by
    simp only [List.length_cons] at hl
    rw [compL_cons]
    simp only [dYes_p, if_true]
    refine hc x (by simp) _ _ (by simp; omega) fun b => ?_
    have := comp_bools (xs := r) (b0 := b0 ++ [b]) (Q := Q) (by simp; omega) (fun y hy => hc y (List.mem_cons_of_mem _ hy)) (fun bs h => q bs (by simp at h ⊢; omega))
    simpa using this
theorem Sub.none {μ μ' : Mu} {p : Addr} (h : Sub μ μ') (n : μ' p = Option.none) : μ p = Option.none := by
  cases e : μ p with
  | none => rfl
  | some c => rw [h p c e] at n; cases n
/-- a loop that keeps a fact -/
theorem loop_any {g : TDG} {T : TDS} {E : DEnds} (I : DR → Mu → Prop) {xs : List D} {ρ : DR} {μ : Mu} (h : I ρ μ) (hn : ∀ ρ μ, I ρ μ → E.nx ρ μ)
    (hc : ∀ x ∈ xs, ∀ ρ μ (N : DR → Mu → Prop), I ρ μ → (∀ ρ' μ', I ρ' μ' → N ρ' μ') → g x ρ μ fun ρ2 μ2 => T (lpE E N) ρ2 μ2) : loopL g T E xs ρ μ := by
  induction xs generalizing ρ μ with
  | nil => exact hn ρ μ h
  | cons x r ih => exact hc x (by simp) ρ μ _ h fun ρ' μ' h' => ih h' fun y hy => hc y (List.mem_cons_of_mem _ hy)
theorem fm_congr {α β : Type} {f g : α → Option β} : ∀ {l : List α}, (∀ x ∈ l, f x = g x) → l.filterMap f = l.filterMap g
  | [], _ => rfl
  | x :: r, h => by
    rw [List.filterMap_cons, List.filterMap_cons, h x (by simp), fm_congr fun y hy => h y (List.mem_cons_of_mem _ hy)]
theorem range_pick {α : Type} {f : Nat → Bool} : ∀ {l : List α} {o : Nat}, ((List.range' o l.length).filterMap fun k => if f k = true then l[k - o]? else none).Sublist l
  | [], o => by simp
  | x :: r, o => by
    rw [List.length_cons, List.range'_succ]
    have ih := range_pick (f := f) (l := r) (o := o + 1)
    have e : ((List.range' (o + 1) r.length).filterMap fun k => if f k = true then (x :: r)[k - o]? else none) = ((List.range' (o + 1) r.length).filterMap fun k => if f k = true then r[k - (o + 1)]? else none) := by
      refine fm_congr fun k hk => ?_
      have := (List.mem_range'_1.mp hk).1
      rw [show k - o = (k - (o + 1)) + 1 by omega, List.getElem?_cons_succ]
    by_cases h : f o = true
    · rw [List.filterMap_cons_some (b := x) (by simp [h]), e]
      exact ih.cons₂ x
    · rw [List.filterMap_cons_none (by simp [h]), e]
      exact ih.cons x
theorem rng_pick {l : List Str} {b : Nat → Bool} {F : D → Option D} (hF : ∀ k, k < l.length → F (.int (k : Int)) = if b k = true then (l[k]?).map .str else none) : ∃ s : List Str, s.Sublist l ∧ (rngD 0 (l.length : Int)).filterMap F = s.map .str := by
  refine ⟨_, range_pick (f := b) (l := l) (o := 0), ?_⟩
  unfold rngD
  rw [List.filterMap_map, show ((l.length : Int) - 0).toNat = l.length by omega, List.range_eq_range', List.map_filterMap]
  refine fm_congr fun k hk => ?_
  have := (List.mem_range'_1.mp hk).2
  show F (.int (0 + (k : Int))) = _
  rw [Int.zero_add, hF k (by omega)]
  split <;> simp
theorem sub_filter {α : Type} [DecidableEq α] {l s : List α} (h : s.Sublist l) (nd : l.Nodup) : l.filter (fun x => decide (x ∈ s)) = s := by
  induction h with
  | slnil => rfl
  | @cons s l x hs ih =>
    rw [List.nodup_cons] at nd
    rw [List.filter_cons_of_neg (by simpa using fun h => nd.1 (hs.subset h))]
    exact ih nd.2
  | @cons_cons s l x hs ih =>
    rw [List.nodup_cons] at nd
    rw [List.filter_cons_of_pos (by simp)]
    congr 1
    rw [← ih nd.2]
    apply List.filter_congr
    intro y hy
    rw [ih nd.2]
    have : y ≠ x := fun e => nd.1 (e ▸ hy)
    simp [this]
end DL
/-! ### name = {..} on one line -/
namespace L2
open PySem PySem.Spec PyProof.Rows
section
variable {X : Cx}
theorem ps_setDc {i : Nat} {y : Str} {py : Pos} {kx vx tg iter : Expr} {ifs : List Expr} {scope : Scope} {own : List (Str × Nat)} {pos spos : Pos} {wi : TI} {g : TG} {tt : TT} {tk tv : TE} (hc : X.calm = true) (hN : X.N.Nodup) (hy : X.N[i]? = some y) (hyl : X.env.scope.names.lookup y = some .local)
    (hsw : swapsWith (.DictComp kx vx [⟨tg, iter, ifs, 0⟩] scope pos) (some (.Name y py)) spos.line X.env = pure true) (hi : PI X tg iter wi) (ok : BlkOk X.N X.env.scope scope own)
    (hg : ∀ (s : Shared) (H : Hp) (C : Addr) (cl : List (Str × Addr)) (fp : List Addr), PG (X.blk s H scope (compEnvC scope cl C X.env) fp) tg g) (ht : ∀ (s : Shared) (H : Hp) (C : Addr) (cl : List (Str × Addr)) (fp : List Addr), PTs (X.blk s H scope (compEnvC scope cl C X.env) fp) ifs tt)
    (hk : ∀ (s : Shared) (H : Hp) (C : Addr) (cl : List (Str × Addr)) (fp : List Addr), PE (X.blk s H scope (compEnvC scope cl C X.env) fp) kx tk)
    (he : ∀ (s : Shared) (H : Hp) (C : Addr) (cl : List (Str × Addr)) (fp : List Addr), PE (X.blk s H scope (compEnvC scope cl C X.env) fp) vx tv) (hs : ∀ x, foldedSetIterable iter X.env x = pure x := by intro _; rfl) :
    PS X (.Assign [.Name y py] (.DictComp kx vx [⟨tg, iter, ifs, 0⟩] scope pos) spos) (tAsg (tDc wi g tt tk tv (own.map (·.2))) (gName i)) := by
  refine ⟨fun pins s σ H D I h => ?_⟩
  rw [exec_Assign_Name_used _ _ _ _ hsw]
  refine wpAny_bind (wpAny_standAt (wpAny_bind ?_))
  show wpAny _ X.A (do let _ ← comprehension (.DictComp kx vx [⟨tg, iter, ifs, 0⟩] scope pos) scope X.env (firstIterPos [⟨tg, iter, ifs, 0⟩] pos) newDict false (eval iter X.env) (some (assign (.Name y py) X.env))) _ _ s
  have h : tDc wi g tt tk tv (own.map (·.2)) σ H (fun x H1 => gName i x σ H1 D.nx) := h
  refine wpAny_bind (thn (dc_core (Qf := fun _ s' => SP X pins D .next s') hc hN I hi ok hg ht hk he hs h fun L C s' m H' I' q hn f => ?_) fun _ s' hq => wpAny_pure (wpAny_pure hq))
  show wpAny _ _ (assign (.Name y py) X.env (.ref L)) _ _ _
  refine wpAny_assign_Name (store_ok2 (v := V.ref L) I' hN hy (.inl hyl) rfl (fun s2 I2 ⟨a, sb, ha⟩ => ?_) (.inr hyl))
  obtain ⟨f0, f1, f2, f3, f4, f5⟩ := f
  have haC : C ≠ a := by
    rcases ha with z | z
    · rw [z]; exact f1
    · exact fun e => f4 y a z e.symm
  refine ⟨m, hn.sameBut sb haC, fun h3 sb3 => ?_⟩
  exact ⟨_, H', I2.turned (t' := s2.toks) (fun b o hb e => (sb3.2 b hb).trans e) f0 f1 f3 f4 f5, q⟩
theorem sw_trueD {kx vx : Expr} {gs : List Comprehension} {scope : Scope} {pos py : Pos} {y : Str} {l : Nat} {env : Env} (hk : env.scope.kind = .function) (hy : env.scope.names.lookup y = some .local) (hl : (py.line == pos.line) = true)
    (ha : (scope.names.any fun (n, k) => n == y && (k == .local || k == .cell)) = false) : swapsWith (.DictComp kx vx gs scope pos) (some (.Name y py)) l env = pure true := by
  have ky : env.kindOf y = some .local := hy
  have hb : env.blockKind = .function := by unfold Env.blockKind; rw [hk]; rfl
  unfold swapsWith
  simp only [hb, ky, ha, Expr.pos, hl]
  rfl
end
end L2
namespace DL
open PySem PySem.Spec PyProof.Rows L2
section
variable {X : Cx} {B : Gh} {pos : Pos}
theorem ds_setDcA (c : Bool) (i : Nat) {y : Str} {py : Pos} {kx vx tg iter : Expr} {ifs : List Expr} {scope : Scope} {own : List (Str × Nat)} {spos : Pos} {wi : TI} {I : TDI} {g : TG} {U : TDG} {tt : TT} {tt' : Fam TT} {Tt : TDT} {tk tv : TE} {tk' tv' : Fam TE} {Tk Tv : TDE} (hc : X.calm = true) (hN : X.N.Nodup) (hyi : X.N[i]? = some y) (hyl : X.env.scope.names.lookup y = some .local)
    (hsw : swapsWith (.DictComp kx vx [⟨tg, iter, ifs, 0⟩] scope pos) (some (.Name y py)) spos.line X.env = pure true) (hi : DI X B tg iter wi I) (ok : BlkOk X.N X.env.scope scope own)
    (hg : ∀ (s : Shared) (H : Hp) (C : Addr) (cl : List (Str × Addr)) (fp : List Addr), DG (X.blk s H scope (compEnvC scope cl C X.env) fp) B tg g U) (hk : KeepG g (own.map (·.2))) (ht : ∀ (s : Shared) (H : Hp) (C : Addr) (cl : List (Str × Addr)) (fp : List Addr), DTs (X.blk s H scope (compEnvC scope cl C X.env) fp) B ifs (tt' s H C cl fp) Tt)
    (hy : ∀ (s : Shared) (H : Hp) (C : Addr) (cl : List (Str × Addr)) (fp : List Addr), DE (X.blk s H scope (compEnvC scope cl C X.env) fp) B kx (tk' s H C cl fp) Tk)
    (hv : ∀ (s : Shared) (H : Hp) (C : Addr) (cl : List (Str × Addr)) (fp : List Addr), DE (X.blk s H scope (compEnvC scope cl C X.env) fp) B vx (tv' s H C cl fp) Tv)
    (e0 : tt' = fun _ _ _ _ _ => tt := by (first | rfl | (simp only [Cx.blk]; rfl))) (e1 : tk' = fun _ _ _ _ _ => tk := by (first | rfl | (simp only [Cx.blk]; rfl))) (e2 : tv' = fun _ _ _ _ _ => tv := by (first | rfl | (simp only [Cx.blk]; rfl))) (hs : ∀ x, foldedSetIterable iter X.env x = pure x := by intro _; rfl) :
    DS X B (.Assign [.Name y py] (.DictComp kx vx [⟨tg, iter, ifs, 0⟩] scope pos) spos) (tAsg (tDc wi g tt tk tv (own.map (·.2))) (gName i)) (dAsg (dDc c I U Tt Tk Tv (own.map (·.2))) (dgName i)) := by
  subst e0; subst e1; subst e2
  exact ⟨ps_setDc hc hN hyi hyl hsw hi.pi ok (fun s H C cl fp => (hg s H C cl fp).pg) (fun s H C cl fp => (ht s H C cl fp).pts) (fun s H C cl fp => (hy s H C cl fp).pe) (fun s H C cl fp => (hv s H C cl fp).pe) hs,
    ref_asg (ref_dc hi.ref (hg X.s_0 X.H_0 0 [] []).ref hk (ht X.s_0 X.H_0 0 [] []).ref (hy X.s_0 X.H_0 0 [] []).ref (hv X.s_0 X.H_0 0 [] []).ref) (fun d v ρ μ σ H G Q Qn S r h hd => hd _ μ _ H G (Gle.refl G) ⟨S.hold, S.env.set r i⟩ h)⟩
end
end DL
namespace DL
open PySem PySem.Spec PyProof.Rows L2
/-- a row of texts, closed to simp -/
def tupV (ss : List Str) : List D := ss.map .str
@[simp] theorem strs_tupV {ss : List Str} : strsOf (tupV ss) = some ss := strsOf_map ss
@[simp] theorem tupV_len {ss : List Str} : (tupV ss).length = ss.length := by simp [tupV]
def GlobTV (K : PySem.W.Frag) (ss : List Str) (x : Str) (mg : Str → Option Value) : Prop := ∃ a, mg x = some (.ref a) ∧ ∀ G, Rep K G (.ref a) (.tup (tupV ss))
end DL
namespace DL
open PySem PySem.Spec PyProof.Rows L2
section
variable {X : Cx} {B : Gh} {pos : Pos}
/-- iter(l): at the values' level only -/
theorem dc_iter : CallR X (.builtin "iter") (rIter X.K) ∧ RefC X.K B (fun _ _ _ => False) (rIter X.K) := ⟨call_iterL, fun _ _ _ _ _ _ _ _ _ _ _ h _ => h.elim⟩
end
/-- self.f, self's field a list -/
theorem fld_at {K : PySem.W.Frag} {C a dx : Addr} {fs : List (Str × V)} {f : Str} {v : V} {H : Hp} {σ : St} {Q : VK} (hC : Cls K C) (hn : NoAttr K C f) (h0 : σ[0]? = some (some (.ref a))) (ha : H a = some (.ins C dx fs)) (hf : fs.lookup f = some v) (q : Q v H) : tFld K (tVar 0) f σ H Q :=
  ⟨_, h0, a, C, dx, fs, v, rfl, ha, hC, hn, hf, q⟩
end DL

/-! PL: places as lists of signs; the six words (plain). -/
namespace DL
open PySem PySem.Spec PyProof.Rows L2
def isMk (n : Nat) : Prop := n = 46 ∨ n = 94
instance (n : Nat) : Decidable (isMk n) := inferInstanceAs (Decidable (n = 46 ∨ n = 94))
def beneath (a b : List Nat) : Bool := decide (b.length < a.length) && (b.isPrefixOf a && decide (∃ h : b.length < a.length, isMk a[b.length]))
inductive W6 | same | over | overbox | under | underbox | apart deriving DecidableEq
def W6.txt : W6 → Str
  | .same => "same" | .over => "over" | .overbox => "overbox" | .under => "under" | .underbox => "underbox" | .apart => "apart"
def W6.inv : W6 → W6
  | .same => .same | .over => .under | .overbox => .underbox | .under => .over | .underbox => .overbox | .apart => .apart
def overW (t : List Nat) : W6 := if 94 ∈ t then .overbox else .over
def underW (t : List Nat) : W6 := if 94 ∈ t then .underbox else .under
def relW (a b : List Nat) : W6 := if a = b then .same else if beneath a b then overW (a.drop b.length) else if beneath b a then underW (b.drop a.length) else .apart
def Ben (a b : List Nat) : Prop := ∃ m t, isMk m ∧ a = b ++ m :: t
theorem beneath_iff {a b : List Nat} : beneath a b = true ↔ Ben a b := by
  unfold beneath Ben
  simp only [Bool.and_eq_true, decide_eq_true_eq, List.isPrefixOf_iff_prefix]
  constructor
  · rintro ⟨h, ⟨t, rfl⟩, h1, h2⟩
    cases t with
    | nil => simp at h
    | cons m t =>
      refine ⟨m, t, ?_, rfl⟩
      simpa using h2
  · rintro ⟨m, t, h, rfl⟩
    refine ⟨by simp, ⟨_, rfl⟩, by simp, by simpa using h⟩
theorem Ben.ne {a b : List Nat} (h : Ben a b) : a ≠ b := by
  rintro rfl
  obtain ⟨m, t, _, e⟩ := h
  have := congrArg List.length e
  simp at this
theorem Ben.len {a b : List Nat} (h : Ben a b) : b.length < a.length := by
  obtain ⟨m, t, _, rfl⟩ := h; simp
theorem Ben.asymm {a b : List Nat} (h : Ben a b) : ¬ Ben b a := fun h' => by have := h.len; have := h'.len; omega
theorem Ben.trans {a b c : List Nat} (h : Ben a b) (g : Ben b c) : Ben a c := by
  obtain ⟨m, t, hm, rfl⟩ := h
  obtain ⟨m', t', hm', rfl⟩ := g
  exact ⟨m', t' ++ m :: t, hm', by simp⟩
theorem relW_self (a : List Nat) : relW a a = .same := by simp [relW]
theorem relW_over (b : List Nat) (m : Nat) (t : List Nat) (h : isMk m) : relW (b ++ m :: t) b = overW (m :: t) := by
  have g : Ben (b ++ m :: t) b := ⟨m, t, h, rfl⟩
  unfold relW
  rw [if_neg g.ne, if_pos (beneath_iff.mpr g), List.drop_left]
theorem relW_under (b : List Nat) (m : Nat) (t : List Nat) (h : isMk m) : relW b (b ++ m :: t) = underW (m :: t) := by
  have g : Ben (b ++ m :: t) b := ⟨m, t, h, rfl⟩
  unfold relW
  rw [if_neg g.ne.symm, if_neg (fun e => g.asymm (beneath_iff.mp e)), if_pos (beneath_iff.mpr g), List.drop_left]
theorem relW_apart {a b : List Nat} (h1 : a ≠ b) (h2 : ¬ Ben a b) (h3 : ¬ Ben b a) : relW a b = .apart := by
  unfold relW
  rw [if_neg h1, if_neg (fun e => h2 (beneath_iff.mp e)), if_neg (fun e => h3 (beneath_iff.mp e))]
theorem relC (a b : List Nat) : a = b ∨ (∃ m t, isMk m ∧ a = b ++ m :: t) ∨ (∃ m t, isMk m ∧ b = a ++ m :: t) ∨ (a ≠ b ∧ ¬ Ben a b ∧ ¬ Ben b a) := by
  by_cases h1 : a = b
  · exact .inl h1
  · by_cases h2 : Ben a b
    · exact .inr (.inl h2)
    · by_cases h3 : Ben b a
      · exact .inr (.inr (.inl h3))
      · exact .inr (.inr (.inr ⟨h1, h2, h3⟩))
theorem relW_inv (a b : List Nat) : relW b a = (relW a b).inv := by
  rcases relC a b with rfl | ⟨m, t, h, rfl⟩ | ⟨m, t, h, rfl⟩ | ⟨h1, h2, h3⟩
  · rw [relW_self]; rfl
  · rw [relW_over _ _ _ h, relW_under _ _ _ h]; unfold overW underW; split <;> rfl
  · rw [relW_over _ _ _ h, relW_under _ _ _ h]; unfold overW underW; split <;> rfl
  · rw [relW_apart h1 h2 h3, relW_apart (fun e => h1 e.symm) h3 h2]; rfl
def W6.side : W6 → W6
  | .overbox => .over | .underbox => .under | w => w
def crossed (w : W6) (b : Bool) : W6 := if b then (match w with | .over => .overbox | .under => .underbox | w => w) else w
/-- the words that two words leave possible -/
def fits (near far : W6) : List W6 :=
  let one := near.side; let two := far.side; let b0 := decide (near ≠ one); let b1 := decide (far ≠ two)
  if one = .same then [far] else if two = .same then [near]
  else if one = two ∧ one ≠ .apart then [crossed one (b0 || b1)]
  else if (one = .over ∧ two = .apart) ∨ (one = .apart ∧ two = .under) then [.apart]
  else if one = .under ∧ two = .apart then [.under, .underbox, .apart]
  else if one = .apart ∧ two = .over then [.over, .overbox, .apart]
  else
    let ap : List W6 := if one = two ∨ one = .over then [.apart] else []
    let rows : List W6 := [.same, .over, .overbox, .under, .underbox] ++ ap
    if one = two ∨ (b0 = true ∧ b1 = true) then rows
    else if b0 = false ∧ b1 = false then [.same, .over, .under] ++ ap
    else (if b0 = decide (one = .over) then .overbox else .underbox) :: ap
theorem overW_c (t : List Nat) : overW t = if 94 ∈ t then .overbox else .over := rfl
theorem pre_cmp {a b : List Nat} {m m' : Nat} {t t' : List Nat} (hm : isMk m) (hm' : isMk m') (e : a ++ m :: t = b ++ m' :: t') : a = b ∨ Ben a b ∨ Ben b a := by
  rcases List.append_eq_append_iff.mp e with ⟨s, h1, h2⟩ | ⟨s, h1, h2⟩
  · cases s with
    | nil => left; simpa using h1.symm
    | cons x s =>
      simp only [List.cons_append, List.cons.injEq] at h2
      right; right; exact ⟨x, s, h2.1 ▸ hm, h1⟩
  · cases s with
    | nil => left; simpa using h1
    | cons x s =>
      simp only [List.cons_append, List.cons.injEq] at h2
      right; left; exact ⟨x, s, h2.1 ▸ hm', h1⟩
theorem fits_rel (a b c : List Nat) : relW a c ∈ fits (relW a b) (relW b c) := by
  rcases relC a b with rfl | ⟨m, t, h, rfl⟩ | ⟨m, t, h, rfl⟩ | ⟨h1, h2, h3⟩
  · rw [relW_self]; generalize relW a c = w; revert w; intro w; cases w <;> decide
  · rcases relC b c with rfl | ⟨m', t', h', rfl⟩ | ⟨m', t', h', rfl⟩ | ⟨g1, g2, g3⟩
    · rw [relW_self]; rw [relW_over _ _ _ h]; unfold overW; split <;> decide
    · rw [relW_over _ _ _ h, relW_over _ _ _ h', List.append_assoc, List.cons_append, relW_over _ _ _ h']
      have e : (94 ∈ m' :: (t' ++ m :: t)) ↔ (94 ∈ m' :: t' ∨ 94 ∈ m :: t) := by rw [← List.cons_append, List.mem_append]
      unfold overW
      by_cases q1 : 94 ∈ m :: t <;> by_cases q2 : 94 ∈ m' :: t' <;> simp only [e, q1, q2, if_true, if_false, or_true, true_or, or_false, or_self] <;> decide
    · rw [relW_over _ _ _ h, relW_under _ _ _ h']
      rcases relC (b ++ m :: t) (b ++ m' :: t') with e | ⟨n, s, hn, e⟩ | ⟨n, s, hn, e⟩ | ⟨e1, e2, e3⟩
      · rw [← e, relW_self]
        have e' := List.append_cancel_left e
        rw [← e']; unfold overW underW
        by_cases q1 : 94 ∈ m :: t <;> simp only [q1, if_true, if_false] <;> decide
      · rw [e, relW_over _ _ _ hn]
        rw [List.append_assoc] at e
        have e' := List.append_cancel_left e
        rw [e']; unfold overW underW
        by_cases q1 : 94 ∈ m' :: t' <;> by_cases q2 : 94 ∈ n :: s <;> simp only [List.mem_append, q1, q2, if_true, if_false, or_true, true_or, or_self] <;> decide
      · rw [e, relW_under _ _ _ hn]
        rw [List.append_assoc] at e
        have e' := List.append_cancel_left e
        rw [e']; unfold overW underW
        by_cases q1 : 94 ∈ m :: t <;> by_cases q2 : 94 ∈ n :: s <;> simp only [List.mem_append, q1, q2, if_true, if_false, or_true, true_or, or_self] <;> decide
      · rw [relW_apart e1 e2 e3]; unfold overW underW
        split <;> split <;> decide
    · rw [relW_over _ _ _ h, relW_apart g1 g2 g3]
      have : relW (b ++ m :: t) c = .apart := by
        refine relW_apart (fun e => g3 ⟨m, t, h, e.symm⟩) (fun ⟨n, s, hn, e⟩ => ?_) (fun g => g3 (g.trans ⟨m, t, h, rfl⟩))
        rcases pre_cmp h hn e with q | q | q
        · exact g1 q
        · exact g2 q
        · exact g3 q
      rw [this]; unfold overW; split <;> decide
  · rcases relC (a ++ m :: t) c with rfl | ⟨m', t', h', e⟩ | ⟨m', t', h', rfl⟩ | ⟨g1, g2, g3⟩
    · rw [relW_self, relW_under _ _ _ h]; unfold underW; split <;> decide
    · rw [relW_under _ _ _ h]
      have e0 := e
      rw [e, relW_over _ _ _ h']
      rcases relC a c with rfl | ⟨n, s, hn, rfl⟩ | ⟨n, s, hn, rfl⟩ | ⟨e1, e2, e3⟩
      · rw [relW_self]
        have e' := List.append_cancel_left e
        rw [← e']; unfold overW underW
        by_cases q1 : 94 ∈ m :: t <;> simp only [q1, if_true, if_false] <;> decide
      · rw [relW_over _ _ _ hn]
        rw [List.append_assoc] at e
        have e' := List.append_cancel_left e
        rw [← e']; unfold overW underW
        by_cases q1 : 94 ∈ m :: t <;> by_cases q2 : 94 ∈ n :: s <;> simp only [List.mem_append, q1, q2, if_true, if_false, or_true, true_or, or_self] <;> decide
      · rw [relW_under _ _ _ hn]
        rw [List.append_assoc] at e
        have e' := List.append_cancel_left e
        rw [e']; unfold overW underW
        by_cases q1 : 94 ∈ m' :: t' <;> by_cases q2 : 94 ∈ n :: s <;> simp only [List.mem_append, q1, q2, if_true, if_false, or_true, true_or, or_self] <;> decide
      · rcases pre_cmp h h' e with q | q | q
        · exact absurd q e1
        · exact absurd q e2
        · exact absurd q e3
    · rw [relW_under _ _ _ h, relW_under _ _ _ h', List.append_assoc, List.cons_append, relW_under _ _ _ h]
      have e : (94 ∈ m :: (t ++ m' :: t')) ↔ (94 ∈ m :: t ∨ 94 ∈ m' :: t') := by rw [← List.cons_append, List.mem_append]
      unfold underW
      by_cases q1 : 94 ∈ m :: t <;> by_cases q2 : 94 ∈ m' :: t' <;> simp only [e, q1, q2, if_true, if_false, or_true, true_or, or_false, or_self] <;> decide
    · rw [relW_under _ _ _ h, relW_apart g1 g2 g3]
      have key : relW a c ∈ [W6.under, .underbox, .apart] := by
        rcases relC a c with rfl | ⟨n, s, hn, rfl⟩ | ⟨n, s, hn, rfl⟩ | ⟨e1, e2, e3⟩
        · exact absurd ⟨m, t, h, rfl⟩ g2
        · exact absurd (Ben.trans ⟨m, t, h, rfl⟩ ⟨n, s, hn, rfl⟩) g2
        · rw [relW_under _ _ _ hn]; unfold underW; split <;> decide
        · rw [relW_apart e1 e2 e3]; decide
      revert key
      generalize relW a c = w
      unfold underW
      split <;> cases w <;> decide
  · rw [relW_apart h1 h2 h3]
    rcases relC b c with rfl | ⟨m', t', h', rfl⟩ | ⟨m', t', h', rfl⟩ | ⟨g1, g2, g3⟩
    · rw [relW_self, relW_apart h1 h2 h3]; decide
    · rw [relW_over _ _ _ h']
      have key : relW a c ∈ [W6.over, .overbox, .apart] := by
        rcases relC a c with rfl | ⟨n, s, hn, rfl⟩ | ⟨n, s, hn, rfl⟩ | ⟨e1, e2, e3⟩
        · exact absurd ⟨m', t', h', rfl⟩ h3
        · rw [relW_over _ _ _ hn]; unfold overW; split <;> decide
        · exact absurd (Ben.trans ⟨m', t', h', rfl⟩ ⟨n, s, hn, rfl⟩) h3
        · rw [relW_apart e1 e2 e3]; decide
      revert key
      generalize relW a c = w
      unfold overW
      split <;> cases w <;> decide
    · rw [relW_under _ _ _ h']
      have : relW a (b ++ m' :: t') = .apart := by
        refine relW_apart (fun e => h2 ⟨m', t', h', e⟩) (fun g => h2 (g.trans ⟨m', t', h', rfl⟩)) (fun ⟨n, s, hn, e⟩ => ?_)
        rcases pre_cmp h' hn e with q | q | q
        · exact h1 q.symm
        · exact h3 q
        · exact h2 q
      rw [this]; unfold underW; split <;> decide
    · rw [relW_apart g1 g2 g3]
      generalize relW a c = w
      cases w <;> decide
/-- the number of marks -/
def marks (a : List Nat) : Nat := a.countP fun n => decide (isMk n)
@[simp] theorem marks_nil : marks [] = 0 := rfl
@[simp] theorem mksA (a b : List Nat) : marks (a ++ b) = marks a + marks b := by simp [marks]
theorem mksC (n : Nat) (a : List Nat) : marks (n :: a) = marks a + (if isMk n then 1 else 0) := by simp [marks, List.countP_cons]
theorem marks_le (a : List Nat) : marks a ≤ a.length := List.countP_le_length
theorem W6.txt_inj {a b : W6} : a.txt = b.txt ↔ a = b := ⟨fun h => by revert h; cases a <;> cases b <;> decide, fun h => by rw [h]⟩
def W6.of (s : Str) : Option W6 := if s = W6.txt .same then some .same else if s = W6.txt .over then some .over else if s = W6.txt .overbox then some .overbox else if s = W6.txt .under then some .under else if s = W6.txt .underbox then some .underbox else if s = W6.txt .apart then some .apart else none
@[simp] theorem W6.of_txt (w : W6) : W6.of w.txt = some w := by cases w <;> decide
theorem W6.of_some {s : Str} {w : W6} : W6.of s = some w → s = w.txt := by
  unfold W6.of
  intro h
  repeat' split at h
  all_goals cases h
  all_goals assumption
theorem W6.f_same : (Str.ofString "same") = W6.txt .same := rfl
theorem W6.f_over : (Str.ofString "over") = W6.txt .over := rfl
theorem W6.f_overbox : (Str.ofString "overbox") = W6.txt .overbox := rfl
theorem W6.f_under : (Str.ofString "under") = W6.txt .under := rfl
theorem W6.f_underbox : (Str.ofString "underbox") = W6.txt .underbox := rfl
theorem W6.f_apart : (Str.ofString "apart") = W6.txt .apart := rfl
def W6.box : W6 → Bool
  | .overbox => true | .underbox => true | _ => false
theorem W6.ends (w : W6) : Txt.endswith w.txt (Str.ofString "box") = w.box := by cases w <;> decide
theorem exW {s : Str} {P : W6 → Prop} : (∃ w : W6, s = w.txt ∧ P w) ↔ (match W6.of s with | some w => P w | none => False) := by
  constructor
  · rintro ⟨w, rfl, h⟩; rw [W6.of_txt]; exact h
  · intro h
    split at h
    · next w e => exact ⟨w, W6.of_some e, h⟩
    · exact h.elim
theorem exS {s : Str} {P : List Nat → Prop} : (∃ a, s = mk a ∧ P a) ↔ P s.cps.toList := by
  constructor
  · rintro ⟨a, rfl, h⟩; rwa [mk_cps]
  · intro h; exact ⟨_, (mk_of s).symm, h⟩
end DL

/-! What is known of the store, in one list. -/
namespace DL
open PySem
structure Kn (μ : Mu) (L : List (Addr × Cell)) : Prop where
  nd : (L.map (·.1)).Nodup
  at_ : ∀ p ∈ L, μ p.1 = some p.2
section
variable {μ : Mu} {L : List (Addr × Cell)} {x z : Addr} {c d : Cell}
theorem Kn.nil : Kn μ [] := ⟨by simp, by simp⟩
theorem Kn.g (h : Kn μ L) (i : Nat) (e : L[i]? = some (x, c) := by rfl) : μ x = some c := h.at_ (x, c) (List.mem_of_getElem? e)
theorem Kn.one (h : μ x = some c) : Kn μ [(x, c)] := ⟨by simp, by simpa using h⟩
theorem Kn.cons (h : Kn μ L) (hx : μ x = some c) (hn : x ∉ L.map (·.1)) : Kn μ ((x, c) :: L) := ⟨by simpa using ⟨by simpa using hn, h.nd⟩, fun p hp => by
  rcases List.mem_cons.mp hp with rfl | hp
  · exact hx
  · exact h.at_ p hp⟩
theorem Kn.add (h : Kn μ L) (hz : μ z = none) : Kn (mup μ z c) ((z, c) :: L) := by
  have hn : ∀ p ∈ L, p.1 ≠ z := fun p hp e => by have := h.at_ p hp; rw [e, hz] at this; cases this
  refine ⟨?_, fun p hp => ?_⟩
  · simp only [List.map_cons, List.nodup_cons]
    refine ⟨fun hm => ?_, h.nd⟩
    obtain ⟨p, hp, e⟩ := List.mem_map.mp hm
    exact hn p hp e
  · rcases List.mem_cons.mp hp with rfl | hp
    · exact mup_same
    · rw [mup_ne (hn p hp)]; exact h.at_ p hp
theorem Kn.setAt (h : Kn μ L) (i : Nat) (d : Cell) (e : L[i]? = some (x, c) := by rfl) : Kn (mup μ x d) (L.set i (x, d)) := by
  have hi := (List.getElem?_eq_some_iff.mp e).1
  have hx : L[i] = (x, c) := (List.getElem?_eq_some_iff.mp e).2
  refine ⟨?_, fun p hp => ?_⟩
  · rw [List.map_set]
    have : (L.map (·.1)).set i (x, d).1 = L.map (·.1) := by
      apply List.ext_getElem?
      intro j
      rw [List.getElem?_set]
      split
      · next q => subst q; simp [hi, hx]
      · rfl
    rw [this]; exact h.nd
  · obtain ⟨j, hj, q⟩ := List.mem_iff_getElem.mp hp
    rw [List.getElem_set] at q
    split at q
    · next k => rw [← q]; exact mup_same
    · next k =>
      have hj' : j < L.length := by simpa using hj
      have hne : p.1 ≠ x := fun e2 => by
        have n := h.nd
        have a : (L.map (·.1))[j]'(by simpa using hj') = (L.map (·.1))[i]'(by simpa using hi) := by simp [q, hx, e2]
        exact k ((List.getElem_inj n).mp a).symm
      rw [mup_ne hne]; exact h.at_ p (q ▸ List.getElem_mem hj')
theorem Kn.sub {L' : List (Addr × Cell)} (h : Kn μ L) (s : L'.Sublist L) : Kn μ L' := ⟨h.nd.sublist (s.map _), fun p hp => h.at_ p (s.subset hp)⟩
theorem Kn.drop (h : Kn μ L) (n : Nat) : Kn μ (L.drop n) := h.sub (List.drop_sublist n L)
theorem Kn.none (h : Kn μ L) (hz : μ z = none) (i : Nat) (e : L[i]? = some (x, c) := by rfl) : x ≠ z := fun q => by have := h.g i e; rw [q, hz] at this; cases this
theorem Kn.ne (h : Kn μ L) (i j : Nat) (k : i ≠ j) (e : L[i]? = some (x, c) := by rfl) (e2 : L[j]? = some (z, d) := by rfl) : x ≠ z := fun q => by
  subst q
  have hi := (List.getElem?_eq_some_iff.mp e); have hj := (List.getElem?_eq_some_iff.mp e2)
  obtain ⟨hi, a⟩ := hi; obtain ⟨hj, b⟩ := hj
  have : (L.map (·.1))[i]'(by simpa using hi) = (L.map (·.1))[j]'(by simpa using hj) := by simp [a, b]
  exact k ((List.getElem_inj h.nd).mp this)
end
theorem sub_set {μ ν : Mu} {x : Addr} {c : Cell} (h : Sub μ ν) (hx : μ x = none) : Sub μ (mup ν x c) := fun y k hy => by
  rw [mup_ne (fun e => by rw [e, hx] at hy; cases hy)]; exact h y k hy
end DL

/-! QB: str(int), zip, setdefault, get, list of a dict, starred displays, divmod. -/
namespace DL
open PySem PySem.Spec PyProof.Rows L2
def dkS (d : D) (P : List (Key × D) → Prop) : Prop := match d with | .dic kvs => P kvs | _ => False
@[simp] theorem dkS_dic {kvs : List (Key × D)} {P : List (Key × D) → Prop} : dkS (.dic kvs) P = P kvs := rfl
theorem dkS_iff {d : D} {P : List (Key × D) → Prop} : dkS d P ↔ ∃ kvs, d = .dic kvs ∧ P kvs := by
  cases d <;> simp [dkS]
def dcS (c : Option Cell) (P : List (Key × D) → Prop) : Prop := match c with | some (.dic kvs) => P kvs | _ => False
@[simp] theorem dcS_dic {kvs : List (Key × D)} {P : List (Key × D) → Prop} : dcS (some (.dic kvs)) P = P kvs := rfl
theorem dcS_iff {c : Option Cell} {P : List (Key × D) → Prop} : dcS c P ↔ ∃ kvs, c = some (.dic kvs) ∧ P kvs := by
  cases c with
  | none => simp [dcS]
  | some c => cases c <;> simp [dcS]
def sqS (d : D) (P : List D → Prop) : Prop := match d with | .lst xs => P xs | .tup xs => P xs | _ => False
@[simp] theorem sqS_lst {xs : List D} {P : List D → Prop} : sqS (.lst xs) P = P xs := rfl
@[simp] theorem sqS_tup {xs : List D} {P : List D → Prop} : sqS (.tup xs) P = P xs := rfl
theorem sqS_iff {d : D} {P : List D → Prop} : sqS d P ↔ ∃ xs, (d = .lst xs ∨ d = .tup xs) ∧ P xs := by
  cases d <;> simp [sqS]
section
variable {X : Cx} {B : Gh} {pos : Pos}
/-- str(i) -/
@[simp] def cStrI : RCD := fun ds μ Q => match ds with
  | [.int i] => i.natAbs.log2 < 1920 ∧ Q (.str (toString i)) μ
  | _ => False
theorem dc_strI : CallR X (.type "str") (fun xs H Q => ∃ i, xs = [.int i] ∧ i.natAbs.log2 < 1920 ∧ Q (.str (toString i)) H) ∧ RefC X.K B cStrI (fun xs H Q => ∃ i, xs = [.int i] ∧ i.natAbs.log2 < 1920 ∧ Q (.str (toString i)) H) := by
  refine ⟨call_str_int, ?_⟩
  intro ρ μ σ H G vs ds Q Qn S r h hd
  unfold cStrI at h
  split at h
  · next i =>
    obtain ⟨v, rfl, rv⟩ := reps1 r
    cases rv; exact ⟨i, rfl, h.1, hd.now S (.str _) h.2⟩
  · exact h.elim
/-- divmod(i, j) -/
@[simp] def cDivmod : RCD := fun ds μ Q => match ds with
  | [.int i, .int j] => CDiv i j ∧ Q (.tup [.int (i / j), .int (i % j)]) μ
  | _ => False
theorem dc_divmod : CallR X (.builtin "divmod") (fun xs H Q => ∃ i j, xs = [.int i, .int j] ∧ CDiv i j ∧ ∀ p, H p = none → Q (.ref p) (upd H p (.tup [.int (i / j), .int (i % j)]))) ∧ RefC X.K B cDivmod (fun xs H Q => ∃ i j, xs = [.int i, .int j] ∧ CDiv i j ∧ ∀ p, H p = none → Q (.ref p) (upd H p (.tup [.int (i / j), .int (i % j)]))) := by
  refine ⟨call_divmod, ?_⟩
  intro ρ μ σ H G vs ds Q Qn S r h hd
  unfold cDivmod at h
  split at h
  · next i j =>
    obtain ⟨v, w, rfl, rv, rw'⟩ := reps2 r
    cases rv; cases rw'
    exact ⟨i, j, rfl, h.1, fun p n => tup_go (xs := [.int (i / j), .int (i % j)]) h.2 S (Reps.cons (.int _) (Reps.one (.int _))) hd n⟩
  · exact h.elim
/-- list(d): the keys -/
def cListK (c : Bool) : RCD := fun ds μ Q => match ds with
  | [d] => dkS (vw μ d) fun kvs => mkL c (kvs.map fun kv => unkey kv.1) μ Q
  | _ => False
@[simp ↓] theorem cListK_p {c : Bool} {d : D} {μ : Mu} {Q : QD} : cListK c [d] μ Q = (dkS (vw μ d) fun kvs => mkL c (kvs.map fun kv => unkey kv.1) μ Q) := id rfl
theorem reps_keys {K : PySem.W.Frag} {G : Gh} {vs : List (Key × V)} {kvs : List (Key × D)} (h : FReps K G vs kvs) : Reps K G (vs.map fun kv => kV kv.1) (kvs.map fun kv => unkey kv.1) := by
  refine ⟨by simp [h.len], fun i v d a b => ?_⟩
  rw [List.getElem?_map] at a b
  have e : (vs.map (·.1))[i]? = (kvs.map (·.1))[i]? := by rw [h.1]
  rw [List.getElem?_map, List.getElem?_map] at e
  cases q : vs[i]? with
  | none => rw [q] at a; cases a
  | some x =>
    cases q2 : kvs[i]? with
    | none => rw [q2] at b; cases b
    | some y =>
      rw [q] at a e; rw [q2] at b e
      simp at a b e
      rw [← a, ← b, e]; exact rep_unkey _
theorem dc_listK (c : Bool) (hc : X.calm = true := by rfl) : CallR X (.type "list") (fun xs H Q => ∃ (a : Addr) (kvs : List (Key × V)), xs = [.ref a] ∧ Rd H a (.dK kvs) ∧ ∀ p, H p = none → Q (.ref p) (upd H p (.lst (kvs.map fun kv => kV kv.1)))) ∧ RefC X.K B (cListK c) (fun xs H Q => ∃ (a : Addr) (kvs : List (Key × V)), xs = [.ref a] ∧ Rd H a (.dK kvs) ∧ ∀ p, H p = none → Q (.ref p) (upd H p (.lst (kvs.map fun kv => kV kv.1)))) := by
  refine ⟨call_listD hc, ?_⟩
  intro ρ μ σ H G vs ds Q Qn S r h hd
  unfold cListK at h
  split at h
  · next d =>
    obtain ⟨v, rfl, rv⟩ := reps1 r
    obtain ⟨kvs, e, q⟩ := dkS_iff.mp h
    obtain ⟨a, ws, rfl, h1, rr⟩ := S.hold.dic rv e
    exact ⟨a, ws, rfl, h1, fun p n => mkL_go q S (reps_keys rr) hd n⟩
  · exact h.elim
/-- *e within a display -/
def dStar (Te : TDE) (T : TDA) : TDA := fun ρ μ Q => Te ρ μ fun d μ1 => sqS (vw μ1 d) fun xs => T ρ μ1 fun ys μ2 => Q (xs ++ ys) μ2
@[simp ↓] theorem dStar_p {Te : TDE} {T : TDA} {ρ} {μ} {Q : List D → Mu → Prop} : dStar Te T ρ μ Q = (Te ρ μ fun d μ1 => sqS (vw μ1 d) fun xs => T ρ μ1 fun ys μ2 => Q (xs ++ ys) μ2) := id rfl
theorem da_star {e : Expr} {es : List Expr} {te : TE} {t : TA} {Te : TDE} {T : TDA} {p : Pos} (ha : DE X B e te Te) (hr : DA X B es t T) (hs : starEach (.Starred e p :: es) X.env = (true, eval e X.env) :: starEach es X.env := by rfl) : DA X B (.Starred e p :: es) (StX.tStar X.K te t) (dStar Te T) :=
  ⟨StX.pa_star ha.pe hr.pa hs, fun ρ μ σ H G Q Qn S h hd => ha.ref ρ μ σ H G _ _ S h fun d μ1 v H1 G1 g1 S1 r1 q1 => by
    obtain ⟨xs, e, q⟩ := sqS_iff.mp q1
    have fin : ∀ {vs : List V}, Reps X.K G1 vs xs → t σ H1 (fun ys H2 => Qn (vs ++ ys) H2) := fun {vs} rr => hr.ref ρ μ1 σ H1 G1 _ _ S1 q fun ds μ2 ws H2 G2 g2 S2 r2 q2 => hd (xs ++ ds) μ2 (vs ++ ws) H2 G2 (g1.trans g2) S2 ((rr.mono g2).append r2) q2
    rcases e with e | e
    · obtain ⟨a, vs, rfl, h1, rr⟩ := S1.hold.lst r1 e
      exact ⟨a, vs, rfl, .inr (SqL.of h1), fin rr⟩
    · obtain ⟨a, vs, rfl, h1, rr⟩ := S1.hold.tup r1 e
      exact ⟨a, vs, rfl, .inl h1, fin rr⟩⟩
/-- d.get(k, z) -/
def dGet2 (Td Tk Tz : TDE) : TDE := fun ρ μ Q => Td ρ μ fun x μ1 => dkS (vw μ1 x) fun _ => Tk ρ μ1 fun y μ2 => Tz ρ μ2 fun z μ3 => dkS (vw μ3 x) fun kvs => oS (keyD y) fun k => Q ((valD kvs k).getD z) μ3
@[simp ↓] theorem dGet2_p {Td Tk Tz : TDE} {ρ} {μ} {Q} : dGet2 Td Tk Tz ρ μ Q = (Td ρ μ fun x μ1 => dkS (vw μ1 x) fun _ => Tk ρ μ1 fun y μ2 => Tz ρ μ2 fun z μ3 => dkS (vw μ3 x) fun kvs => oS (keyD y) fun k => Q ((valD kvs k).getD z) μ3) := id rfl
theorem de_dget2 {k : Nat} (hr : Room k X.A) {o i f : Expr} {td tk tz : TE} {Td Tk Tz : TDE} {apos : Pos} (ho : DE X B o td Td) (hi : DE X B i tk Tk) (hf : DE X B f tz Tz) (m : M2 X o "get" apos i f pos := by exact ⟨by rfl, by rfl, by rfl, by rfl⟩) :
    DE X B (.Call (.Attribute o "get" apos) [i, f] [] pos) (tDGet2 td tk tz) (dGet2 Td Tk Tz) :=
  ⟨pe_dget2 (hu_of hr) ho.pe hi.pe hf.pe m, fun ρ μ σ H G Q Qn S h hd => ho.ref ρ μ σ H G _ _ S h fun x μ1 v H1 G1 g1 S1 r1 q1 => by
    obtain ⟨kvs0, e0, q1⟩ := dkS_iff.mp q1
    obtain ⟨a, vs0, rfl, h0, _⟩ := S1.hold.dic r1 e0
    refine ⟨a, rfl, .inl ⟨vs0, h0⟩, ?_⟩
    refine hi.ref ρ μ1 σ H1 G1 _ _ S1 q1 fun y μ2 w H2 G2 g2 S2 r2 q2 => hf.ref ρ μ2 σ H2 G2 _ _ S2 q2 fun z μ3 u H3 G3 g3 S3 r3 q3 => ?_
    obtain ⟨kvs, e1, q3⟩ := dkS_iff.mp q3
    rw [oS_eq] at q3
    obtain ⟨k, e2, q3⟩ := q3
    obtain ⟨a', vs, e3, h1, rr⟩ := S3.hold.dic (r1.mono (g2.trans g3)) e1
    cases e3
    refine ⟨valV vs k, .inl ⟨vs, k, h1, rep_key (r2.mono g3) e2, rfl⟩, ?_⟩
    cases q : valD kvs k with
    | none =>
      rw [(rr.val k).2 q]
      rw [q] at q3
      exact (hd.mono ((g1.trans g2).trans g3)).now S3 r3 q3
    | some d =>
      obtain ⟨v, ev, rv⟩ := (rr.val k).1 d q
      rw [ev]
      rw [q] at q3
      exact (hd.mono ((g1.trans g2).trans g3)).now S3 rv q3⟩
/-- d.setdefault(k, z), a cell -/
def dSetd (Td Tk Tz : TDE) : TDE := fun ρ μ Q => Td ρ μ fun x μ1 => pS x fun a => dcS (μ1 a) fun _ => Tk ρ μ1 fun y μ2 => Tz ρ μ2 fun z μ3 => dcS (μ3 a) fun kvs => oS (keyD y) fun k => kvs.length < sizeLine ∧
  match valD kvs k with | some v => Q v μ3 | none => Q z (mup μ3 a (.dic (putD kvs k z)))
@[simp ↓] theorem dSetd_p {Td Tk Tz : TDE} {ρ} {μ} {Q} : dSetd Td Tk Tz ρ μ Q = (Td ρ μ fun x μ1 => pS x fun a => dcS (μ1 a) fun _ => Tk ρ μ1 fun y μ2 => Tz ρ μ2 fun z μ3 => dcS (μ3 a) fun kvs => oS (keyD y) fun k => kvs.length < sizeLine ∧
  match valD kvs k with | some v => Q v μ3 | none => Q z (mup μ3 a (.dic (putD kvs k z)))) := id rfl
theorem pS_iff {d : D} {P : Addr → Prop} : pS d P ↔ ∃ a, d = .ptr a ∧ P a := by
  cases d <;> simp [pS]
theorem de_dsetd {o i f : Expr} {td tk tz : TE} {Td Tk Tz : TDE} {apos : Pos} (ho : DE X B o td Td) (hi : DE X B i tk Tk) (hf : DE X B f tz Tz) (m : M2 X o "setdefault" apos i f pos := by exact ⟨by rfl, by rfl, by rfl, by rfl⟩) :
    DE X B (.Call (.Attribute o "setdefault" apos) [i, f] [] pos) (tDSetd td tk tz) (dSetd Td Tk Tz) :=
  ⟨pe_dsetd ho.pe hi.pe hf.pe m, fun ρ μ σ H G Q Qn S h hd => ho.ref ρ μ σ H G _ _ S h fun x μ1 v H1 G1 g1 S1 r1 q1 => by
    obtain ⟨a, rfl, q1⟩ := pS_iff.mp q1
    obtain ⟨kvs0, e0, q1⟩ := dcS_iff.mp q1
    cases r1
    obtain ⟨_, o0, y0, z0⟩ := S1.hold.cell a _ e0
    obtain ⟨vs0, rfl, _⟩ := cellR_dic z0
    refine ⟨a, rfl, .inl ⟨vs0, .inl y0⟩, ?_⟩
    refine hi.ref ρ μ1 σ H1 G1 _ _ S1 q1 fun y μ2 w H2 G2 g2 S2 r2 q2 => hf.ref ρ μ2 σ H2 G2 _ _ S2 q2 fun z μ3 u H3 G3 g3 S3 r3 q3 => ?_
    obtain ⟨kvs, e1, q3⟩ := dcS_iff.mp q3
    rw [oS_eq] at q3
    obtain ⟨k, e2, l, q3⟩ := q3
    obtain ⟨_, o1, y1, z1⟩ := S3.hold.cell a _ e1
    obtain ⟨vs, rfl, rr⟩ := cellR_dic z1
    refine ⟨vs, k, y1, rep_key (r2.mono g3) e2, by rw [rr.len]; exact l, fun v' e => ?_, fun e => ?_⟩
    · cases q : valD kvs k with
      | none => rw [(rr.val k).2 q] at e; cases e
      | some d =>
        obtain ⟨v2, ev, rv⟩ := (rr.val k).1 d q
        rw [e] at ev; cases ev
        rw [q] at q3
        exact (hd.mono ((g1.trans g2).trans g3)).now S3 rv q3
    · cases q : valD kvs k with
      | some d => obtain ⟨v2, ev, _⟩ := (rr.val k).1 d q; rw [e] at ev; cases ev
      | none =>
        rw [q] at q3
        exact hd z _ _ _ G3 ((g1.trans g2).trans g3) (S3.cellSet e1 (show CellR X.K G3 (.dK (putK vs k u)) (.dic (putD kvs k z)) from rr.put k r3)) r3 q3⟩
/-- for x, y in zip(a, b), both frozen lists -/
def iZipD (T : TDA) : TDI := fun ρ μ Q => T ρ μ fun ds μ1 => match ds with | [.lst xs, .lst ys] => Q (List.zipWith (fun x y => .tup [x, y]) xs ys) μ1 | _ => False
@[simp ↓] theorem iZipD_p {T : TDA} {ρ} {μ} {Q : List D → Mu → Prop} : iZipD T ρ μ Q = (T ρ μ fun ds μ1 => match ds with | [.lst xs, .lst ys] => Q (List.zipWith (fun x y => .tup [x, y]) xs ys) μ1 | _ => False) := id rfl
theorem di_zip {e e2 : Expr} {ta : TA} {T : TDA} {p tpos : Pos} {elts : List Expr} {kk : Nat} (hm : X.mg "zip" = none) (ha : DA X B [e, e2] ta T) (hg : Gl X "zip" := by rfl)
    (hs : starEach [e, e2] X.env = (false, eval e X.env) :: starEach [e2] X.env := by rfl) (hpl : (backTo pos (starEach [e2] X.env)).any (·.1) = false := by rfl) :
    DI X B (.Tuple elts kk tpos) (.Call (.Name "zip" p) [e, e2] [] pos) (iZip X.K ta) (iZipD T) :=
  ⟨pi_zip hg hm ha.pa hs hpl, fun ρ μ σ H G Q R S q hd => ha.ref ρ μ σ H G _ _ S q fun ds μ1 vs H1 G1 g1 S1 r1 q1 => by
    split at q1
    · next xs ys =>
      obtain ⟨v, w, rfl, rv, rw'⟩ := reps2 r1
      cases rv with
      | lst hx lx rx =>
        rename_i a as
        cases rw' with
        | lst hy ly ry =>
          rename_i b bs
          have atx : ∀ {H' : Hp} {G' : Gh} {μ' : Mu}, Gle G1 G' → Hold X.K G' μ' H' → H' a = some (.lst as) := fun g hh' => hh'.fr _ _ (g.fr _ _ hx)
          have aty : ∀ {H' : Hp} {G' : Gh} {μ' : Mu}, Gle G1 G' → Hold X.K G' μ' H' → H' b = some (.lst bs) := fun g hh' => hh'.fr _ _ (g.fr _ _ hy)
          refine ⟨a, b, as, bs, rfl, SqL.of (atx (Gle.refl _) S1.hold), SqL.of (aty (Gle.refl _) S1.hold), hd _ μ1 _ H1 G1 g1 S1 q1 (fun n H' G' μ' g h' => ⟨fun hn => ?_, fun hn => ?_⟩) fun n x w H' H2 G' μ' g h' ex y => ?_⟩
          · rw [List.length_zipWith] at hn
            exact ⟨as, bs, as[n]'(by omega), bs[n]'(by omega), SqL.of (atx g h'), SqL.of (aty g h'), List.getElem?_eq_getElem _, List.getElem?_eq_getElem _⟩
          · rw [List.length_zipWith] at hn
            exact ⟨as, bs, SqL.of (atx g h'), SqL.of (aty g h'), by omega⟩
          · obtain ⟨Tt, x1, y1, rfl, hT, rfl, k1, k2⟩ := y
            have e1 := k1 as (SqL.of (atx g h'))
            have e2 := k2 bs (SqL.of (aty g h'))
            rw [List.getElem?_zipWith] at ex
            have l1 := (List.getElem?_eq_some_iff.mp e1).1
            have l2 := (List.getElem?_eq_some_iff.mp e2).1
            have f1 : xs[n]? = some (xs[n]'(by omega)) := List.getElem?_eq_getElem _
            have f2 : ys[n]? = some (ys[n]'(by omega)) := List.getElem?_eq_getElem _
            rw [f1, f2] at ex
            cases ex
            have fh := (h'.free hT).1
            refine ⟨G'.frz Tt (.tup [x1, y1]), Gle.frz fh, h'.new hT, ?_⟩
            refine .tup (.inl (.inl (show upd G'.fr Tt (.tup [x1, y1]) Tt = some (.tup [x1, y1]) from upd_same))) rfl ?_
            have rr : Reps X.K G' [x1, y1] [xs[n]'(by omega), ys[n]'(by omega)] := Reps.cons ((rx n x1 _ e1 f1).mono g) (Reps.one ((ry n y1 _ e2 f2).mono g))
            exact fun i v d a b => (rr.2 i v d a b).mono (Gle.frz fh)
    · exact q1.elim⟩
end
/-- what the yes of an if does is a letter while its test is read -/
theorem if_hide {C : TDT} {T F : TDS} {E : DEnds} {ρ : DR} {μ : Mu} (h : ∀ N, N = T E → dIfS C (fun _ => N) F E ρ μ) : dIfS C T F E ρ μ := h _ rfl
theorem comp_fmA {α : Type} {g : TDG} {tt : TDT} {te : TDE} {p : Addr} {ρ0 : DR} {Q : Mu → Prop} (e : α → D) (f : α → Option D) {μ : Mu} : ∀ {ls : List α} {acc : List D}, (hl : acc.length + ls.length ≤ 16000000) →
    (hc : ∀ a ∈ ls, ∀ (acc : List D) (N : Mu → Prop), acc.length ≤ 16000000 → (match f a with | some d => N (mup μ p (.lst (acc ++ [d]))) | none => N (mup μ p (.lst acc))) →
      g (e a) ρ0 (mup μ p (.lst acc)) fun ρ2 μ2 => tt ρ2 μ2 fun b μ3 => if b = true then te ρ2 μ3 fun d μ4 => ∃ acc, μ4 p = some (.lst acc) ∧ acc.length < sizeLine ∧ N (mup μ4 p (.lst (acc ++ [d]))) else N μ3) →
    Q (mup μ p (.lst (acc ++ ls.filterMap f))) → compL g tt te p ρ0 Q (ls.map e) (mup μ p (.lst acc))
  | [], acc, _, _, q => by simpa using q
  | x :: r, acc, hl, hc, q => by
    simp only [List.length_cons] at hl
    rw [List.map_cons, compL_cons]
    refine hc x (by simp) acc _ (by omega) ?_
    cases e1 : f x with
    | some d =>
      rw [List.filterMap_cons_some e1] at q
      exact comp_fmA e f (by simp; omega) (fun y hy => hc y (List.mem_cons_of_mem _ hy)) (by simpa using q)
    | none =>
      rw [List.filterMap_cons_none e1] at q
      exact comp_fmA e f (by omega) (fun y hy => hc y (List.mem_cons_of_mem _ hy)) q
/-- each item turned into one -/
theorem comp_map {α : Type} {g : TDG} {te : TDE} {p : Addr} {ρ0 : DR} {Q : Mu → Prop} (e h : α → D) {μ : Mu} {ls : List α} {acc : List D} (hl : acc.length + ls.length ≤ 16000000)
    (hc : ∀ a ∈ ls, ∀ (acc : List D) (N : Mu → Prop), acc.length ≤ 16000000 → N (mup μ p (.lst (acc ++ [h a]))) →
      g (e a) ρ0 (mup μ p (.lst acc)) fun ρ2 μ2 => te ρ2 μ2 fun d μ4 => ∃ acc, μ4 p = some (.lst acc) ∧ acc.length < sizeLine ∧ N (mup μ4 p (.lst (acc ++ [d]))))
    (q : Q (mup μ p (.lst (acc ++ ls.map h)))) : compL g dYes te p ρ0 Q (ls.map e) (mup μ p (.lst acc)) :=
  comp_fmA e (fun a => some (h a)) hl (fun a ha acc N hl hN => by
    simp only [dYes_p, if_true]
    exact hc a ha acc N hl hN) (by
    have : ls.filterMap (fun a => some (h a)) = ls.map h := List.filterMap_eq_map' ▸ rfl
    rw [this]; exact q)
/-- a loop's body is a letter while its target is set -/
theorem tg_hide {g : TDG} {T : TDS} {E : DEnds} {x : D} {ρ : DR} {μ : Mu} (h : ∀ N, N = T E → g x ρ μ fun ρ2 μ2 => N ρ2 μ2) : g x ρ μ fun ρ2 μ2 => T E ρ2 μ2 := h _ rfl
end DL

/-! Spots in plain Lean: their parts, the equations between their steps, the chances. -/
namespace DL
open PySem
abbrev CL := List Nat
def begC (c : Nat) : Bool := c == 46 || c == 94 || c == 91
def cutA : CL → CL → List CL
  | acc, [] => [acc]
  | acc, x :: r => if begC x = true then acc :: cutA [x] r else cutA (acc ++ [x]) r
def cutL (l : CL) : List CL := cutA [] l
theorem cutA_no {p : CL} : ∀ {acc r : CL}, (∀ c ∈ p, begC c = false) → cutA acc (p ++ r) = cutA (acc ++ p) r := by
  induction p with
  | nil => intro acc r _; simp
  | cons x p ih =>
    intro acc r h
    rw [List.cons_append, cutA, if_neg (by rw [h x (by simp)]; simp), ih fun c hc => h c (List.mem_cons_of_mem _ hc)]
    simp
def isNm (l : CL) : Prop := l ≠ [] ∧ l.length ≤ 7 ∧ ∀ c ∈ l, 97 ≤ c ∧ c ≤ 122
def isNum (l : CL) : Prop := l ≠ [] ∧ l.length ≤ 4 ∧ (l.head? = some 48 → l.length = 1) ∧ ∀ c ∈ l, 48 ≤ c ∧ c ≤ 57
/-- a step; its unknown is one of nm -/
def StepIn (nm : CL → Prop) (l : CL) : Prop := (∃ n, isNm n ∧ (l = 46 :: n ∨ l = 94 :: n)) ∨ ∃ n, l = 91 :: n ++ [93] ∧ ((isNm n ∧ nm n) ∨ isNum n)
/-- the parts of a spot -/
structure SpotIn (nm : CL → Prop) (ps : List CL) : Prop where
  ne : ps ≠ []
  len : ps.length ≤ 7
  root : ∀ r ss, ps = r :: ss → isNm r
  step : ∀ r ss, ps = r :: ss → ∀ s ∈ ss, StepIn nm s
theorem SpotIn.mk' {nm : CL → Prop} {r : CL} {ss : List CL} (h : isNm r) (l : ss.length ≤ 6) (h2 : ∀ s ∈ ss, StepIn nm s) : SpotIn nm (r :: ss) :=
  ⟨by simp, by simp; omega, fun _ _ e => by cases e; exact h, fun _ _ e => by cases e; exact h2⟩
theorem SpotIn.cases {nm : CL → Prop} {ps : List CL} (h : SpotIn nm ps) : ∃ r ss, ps = r :: ss ∧ isNm r ∧ ss.length ≤ 6 ∧ ∀ s ∈ ss, StepIn nm s := by
  cases ps with
  | nil => exact (h.ne rfl).elim
  | cons r ss => exact ⟨r, ss, rfl, h.root r ss rfl, by have := h.len; simp at this; omega, h.step r ss rfl⟩
theorem isNm.no {l : CL} (h : isNm l) : ∀ c ∈ l, begC c = false := fun c hc => by
  have := h.2.2 c hc
  simp [begC]; omega
theorem isNum.no {l : CL} (h : isNum l) : ∀ c ∈ l, begC c = false := fun c hc => by
  have := h.2.2.2 c hc
  simp [begC]; omega
/-- a step begins with a mark, has none behind it, is not alone -/
theorem StepIn.shape {nm : CL → Prop} {l : CL} (h : StepIn nm l) : ∃ c r, l = c :: r ∧ begC c = true ∧ (∀ x ∈ r, begC x = false) ∧ r ≠ [] ∧ l.length ≤ 9 := by
  rcases h with ⟨n, hn, rfl | rfl⟩ | ⟨n, rfl, ⟨hn, _⟩ | hn⟩
  · exact ⟨46, n, rfl, by decide, hn.no, hn.1, by have := hn.2.1; simp; omega⟩
  · exact ⟨94, n, rfl, by decide, hn.no, hn.1, by have := hn.2.1; simp; omega⟩
  · refine ⟨91, n ++ [93], rfl, by decide, fun x hx => ?_, by simp, by have := hn.2.1; simp; omega⟩
    rcases List.mem_append.mp hx with hx | hx
    · exact hn.no x hx
    · rw [List.mem_singleton.mp hx]; decide
  · refine ⟨91, n ++ [93], rfl, by decide, fun x hx => ?_, by simp, by have := hn.2.1; simp; omega⟩
    rcases List.mem_append.mp hx with hx | hx
    · exact hn.no x hx
    · rw [List.mem_singleton.mp hx]; decide
theorem cutA_steps {nm : CL → Prop} : ∀ {ss : List CL} {acc : CL}, (∀ s ∈ ss, StepIn nm s) → cutA acc ss.flatten = acc :: ss := by
  intro ss
  induction ss with
  | nil => intro acc _; rfl
  | cons s ss ih =>
    intro acc h
    obtain ⟨c, r, rfl, hc, hr, _⟩ := (h s (by simp)).shape
    rw [List.flatten_cons, List.cons_append, cutA, if_pos hc, cutA_no hr, ih fun s hs => h s (List.mem_cons_of_mem _ hs)]
    rfl
theorem SpotIn.cut {nm : CL → Prop} {ps : List CL} (h : SpotIn nm ps) : cutL ps.flatten = ps := by
  obtain ⟨r, ss, rfl, hr, _, hs⟩ := h.cases
  rw [List.flatten_cons]
  unfold cutL
  rw [cutA_no hr.no, List.nil_append]
  exact cutA_steps hs
theorem SpotIn.small {nm : CL → Prop} {ps : List CL} (h : SpotIn nm ps) : ps.flatten.length ≤ 61 := by
  obtain ⟨r, ss, rfl, hr, hl, hs⟩ := h.cases
  have : ∀ ss : List CL, (∀ s ∈ ss, StepIn nm s) → ss.flatten.length ≤ ss.length * 9 := by
    intro ss
    induction ss with
    | nil => simp
    | cons s ss ih =>
      intro h
      have := ih fun s hs => h s (List.mem_cons_of_mem _ hs)
      obtain ⟨_, _, _, _, _, _, h9⟩ := (h s (by simp)).shape
      simp only [List.flatten_cons, List.length_append, List.length_cons, Nat.add_mul]; omega
  have := this ss hs
  have := hr.2.1
  simp only [List.flatten_cons, List.length_append]; omega
theorem SpotIn.take {nm : CL → Prop} {ps : List CL} (h : SpotIn nm ps) {k : Nat} (hk : 0 < k) : SpotIn nm (ps.take k) := by
  obtain ⟨r, ss, rfl, hr, hl, hs⟩ := h.cases
  obtain ⟨k, rfl⟩ : ∃ j, k = j + 1 := ⟨k - 1, by omega⟩
  rw [List.take_succ_cons]
  exact .mk' hr (by rw [List.length_take]; omega) fun s h => hs s (List.mem_of_mem_take h)
theorem SpotIn.set {nm : CL → Prop} {ps : List CL} (h : SpotIn nm ps) {k : Nat} (hk : 0 < k) {s : CL} (hs : StepIn nm s) : SpotIn nm (ps.set k s) := by
  obtain ⟨r, ss, rfl, hr, hl, h2⟩ := h.cases
  obtain ⟨k, rfl⟩ : ∃ j, k = j + 1 := ⟨k - 1, by omega⟩
  rw [List.set_cons_succ]
  exact .mk' hr (by simpa using hl) fun x hx => by
    rcases List.mem_or_eq_of_mem_set hx with h | rfl
    · exact h2 x h
    · exact hs
theorem SpotIn.snoc {nm : CL → Prop} {ps : List CL} (h : SpotIn nm ps) (hl : ps.length < 7) {s : CL} (hs : StepIn nm s) : SpotIn nm (ps ++ [s]) := by
  obtain ⟨r, ss, rfl, hr, _, h2⟩ := h.cases
  exact .mk' hr (by simp at hl ⊢; omega) fun x hx => by
    rcases List.mem_append.mp hx with h | h
    · exact h2 x h
    · rw [List.mem_singleton.mp h]; exact hs
/-! cells -/
def isCel (l : CL) : Bool := l.head? == some 91
def numB (l : CL) : Bool := !l.isEmpty && decide (l.length ≤ 4) && (!(l.head? == some 48) || decide (l.length = 1)) && l.all fun c => decide (48 ≤ c ∧ c ≤ 57)
theorem numB_iff {l : CL} : numB l = true ↔ isNum l := by
  unfold numB isNum
  simp only [Bool.and_eq_true, List.all_eq_true, decide_eq_true_eq, Bool.or_eq_true, Bool.not_eq_true', List.isEmpty_eq_false_iff, beq_eq_false_iff_ne, ne_eq, and_assoc]
  constructor
  · rintro ⟨a, b, c, d⟩; exact ⟨a, b, fun h => c.resolve_left (fun n => n h), d⟩
  · rintro ⟨a, b, c, d⟩; exact ⟨a, b, by by_cases h : l.head? = some 48 <;> simp [h, c], d⟩
def innerC (l : CL) : CL := l.tail.dropLast
def isKn (l : CL) : Bool := isCel l && numB (innerC l)
theorem nm_not_num {l : CL} (h : isNm l) : ¬ isNum l := fun k => by
  cases l with
  | nil => exact h.1 rfl
  | cons x r => have := h.2.2 x (by simp); have := k.2.2.2 x (by simp); omega
/-- a cell is known by its first sign -/
theorem StepIn.kn {nm : CL → Prop} {l : CL} (h : StepIn nm l) (hc : isCel l = true) : ∃ n x r, l = 91 :: n ++ [93] ∧ n = x :: r ∧ isKn l = decide (48 ≤ x ∧ x ≤ 57) ∧ (isKn l = true ∨ isNm n ∧ nm n) := by
  rcases h with ⟨n, hn, rfl | rfl⟩ | ⟨n, rfl, hn⟩
  · simp [isCel] at hc
  · simp [isCel] at hc
  · have hin : innerC (91 :: n ++ [93]) = n := by simp [innerC]
    rcases hn with hn | hn
    · obtain ⟨x, r, rfl⟩ := List.exists_cons_of_ne_nil hn.1.1
      refine ⟨x :: r, x, r, rfl, rfl, ?_, .inr hn⟩
      have hx := hn.1.2.2 x (by simp)
      unfold isKn
      rw [hin, hc, Bool.true_and]
      have : numB (x :: r) = false := by rw [← Bool.not_eq_true, numB_iff]; exact nm_not_num hn.1
      rw [this]
      symm; rw [decide_eq_false_iff_not]; omega
    · obtain ⟨x, r, rfl⟩ := List.exists_cons_of_ne_nil hn.1
      have hx := hn.2.2.2 x (by simp)
      have hk : isKn (91 :: (x :: r) ++ [93]) = true := by
        unfold isKn; rw [hin, hc, Bool.true_and, numB_iff]; exact hn
      exact ⟨x :: r, x, r, rfl, rfl, by rw [hk]; symm; simp only [decide_eq_true_eq]; omega, .inl hk⟩
/-! the equations -/
abbrev Eqs := List (CL × CL)
def askE : List CL → List CL → Option Eqs
  | a :: r, b :: t => if a = b then askE r t else if isCel a = true ∧ isCel b = true ∧ ¬ (isKn a = true ∧ isKn b = true) then (askE r t).map ((a, b) :: ·) else none
  | _, _ => some []
/-- some numbers keep all of them -/
def SatE (E : Eqs) : Prop := ∃ v : CL → CL, (∀ s, isKn s = true → v s = s) ∧ ∀ p ∈ E, v p.1 = v p.2
theorem SatE.sub {E F : Eqs} (h : SatE E) (s : ∀ p ∈ F, p ∈ E) : SatE F := by
  obtain ⟨v, a, b⟩ := h
  exact ⟨v, a, fun p hp => b p (s p hp)⟩
theorem SatE.swap {E : Eqs} : SatE (E.map Prod.swap) ↔ SatE E := by
  constructor
  · rintro ⟨v, a, b⟩; exact ⟨v, a, fun p hp => (b p.swap (List.mem_map.mpr ⟨p, hp, rfl⟩)).symm⟩
  · rintro ⟨v, a, b⟩; exact ⟨v, a, fun p hp => by obtain ⟨q, hq, rfl⟩ := List.mem_map.mp hp; exact (b q hq).symm⟩
/-! the program's leaders -/
abbrev Lead := List (CL × CL)
def getL (L : Lead) (s : CL) : Option CL := (L.find? fun p => decide (p.1 = s)).map (·.2)
def setdL (L : Lead) (s : CL) : Lead := if (getL L s).isSome then L else L ++ [(s, s)]
def replL (L : Lead) (kept dropped : CL) : Lead := L.map fun p => if p.2 = dropped then (p.1, kept) else p
def stepL (L : Lead) (one other : CL) : Option Lead :=
  let L2 := setdL (setdL L one) other
  let first := (getL L one).getD one
  let second := (getL (setdL L one) other).getD other
  if first = second then some L2
  else if isKn first = true ∧ isKn second = true then none
  else some (replL L2 (if isKn first = true then first else second) (if isKn first = true then second else first))
def keepL : Lead → Eqs → Option Lead
  | L, [] => some L
  | L, p :: r => match stepL L p.1 p.2 with | some L' => keepL L' r | none => none
/-- L fits the equations so far -/
structure LeadOk (L : Lead) (E : Eqs) : Prop where
  snd : ∀ v : CL → CL, (∀ s, isKn s = true → v s = s) → (∀ p ∈ E, v p.1 = v p.2) → ∀ s t, getL L s = some t → v s = v t
  kn : ∀ s t, getL L s = some t → isKn s = true → t = s
  eqs : ∀ p ∈ E, ∃ t, getL L p.1 = some t ∧ getL L p.2 = some t
theorem getL_app {L : Lead} {s x y : CL} : getL (L ++ [(x, y)]) s = (match getL L s with | some t => some t | none => if x = s then some y else none) := by
  unfold getL
  rw [List.find?_append]
  cases h : L.find? fun p => decide (p.1 = s) with
  | some p => simp
  | none => by_cases e : x = s <;> simp [e]
theorem getL_setd {L : Lead} {s x : CL} : getL (setdL L x) s = (match getL L s with | some t => some t | none => if x = s then some x else none) := by
  unfold setdL
  split
  · next h =>
    cases e : getL L s with
    | some t => rfl
    | none =>
      have : x ≠ s := fun q => by subst q; rw [e] at h; cases h
      simp [this]
  · exact getL_app
theorem getL_repl {L : Lead} {s k d : CL} : getL (replL L k d) s = (getL L s).map fun t => if t = d then k else t := by
  unfold getL replL
  rw [List.find?_map]
  have e : (fun p : CL × CL => decide (p.1 = s)) ∘ (fun p : CL × CL => if p.2 = d then (p.1, k) else p) = fun p => decide (p.1 = s) := by
    funext p
    simp only [Function.comp]
    split <;> rfl
  rw [e]
  cases L.find? fun p => decide (p.1 = s) with
  | none => rfl
  | some p => simp; split <;> rfl
theorem LeadOk.setd {L : Lead} {E : Eqs} (h : LeadOk L E) (x : CL) : LeadOk (setdL L x) E := by
  refine ⟨fun v a b s t e => ?_, fun s t e k => ?_, fun p hp => ?_⟩
  · rw [getL_setd] at e
    split at e
    · next t' q => cases e; exact h.snd v a b s t q
    · split at e
      · next q => subst q; cases e; rfl
      · cases e
  · rw [getL_setd] at e
    split at e
    · next t' q => cases e; exact h.kn s t q k
    · split at e
      · next q => subst q; cases e; rfl
      · cases e
  · obtain ⟨t, a, b⟩ := h.eqs p hp
    exact ⟨t, by rw [getL_setd, a], by rw [getL_setd, b]⟩
theorem setd_same {L : Lead} {x : CL} : getL (setdL L x) x = some ((getL L x).getD x) := by
  rw [getL_setd]
  cases getL L x <;> simp
theorem stepL_ok {L : Lead} {E : Eqs} {one other : CL} (h : LeadOk L E) :
    (∀ L', stepL L one other = some L' → LeadOk L' (E ++ [(one, other)])) ∧ (stepL L one other = none → ¬ SatE (E ++ [(one, other)])) := by
  have h2 := (h.setd one).setd other
  have e1 : getL (setdL (setdL L one) other) one = some ((getL L one).getD one) := by rw [getL_setd, setd_same]
  have e2 : getL (setdL (setdL L one) other) other = some ((getL (setdL L one) other).getD other) := setd_same
  unfold stepL
  generalize hL2 : setdL (setdL L one) other = L2 at *
  generalize (getL L one).getD one = first at *
  generalize (getL (setdL L one) other).getD other = second at *
  have pre : ∀ v : CL → CL, (∀ p ∈ E ++ [(one, other)], v p.1 = v p.2) → ∀ p ∈ E, v p.1 = v p.2 := fun v b p hp => b p (List.mem_append_left _ hp)
  constructor
  · intro L' e
    dsimp only at e
    split at e
    · next q =>
      subst q
      cases e
      refine ⟨fun v a b => h2.snd v a (pre v b), h2.kn, fun p hp => ?_⟩
      rcases List.mem_append.mp hp with hp | hp
      · exact h2.eqs p hp
      · rw [List.mem_singleton.mp hp]; exact ⟨_, e1, e2⟩
    · next q =>
      split at e
      · cases e
      · next nk =>
        cases e
        have hd : isKn (if isKn first = true then second else first) = false := by
          by_cases k : isKn first = true
          · rw [if_pos k]
            cases hs : isKn second with
            | false => rfl
            | true => exact (nk ⟨k, hs⟩).elim
          · rw [if_neg k]; simpa using k
        refine ⟨fun v a b s t e => ?_, fun s t e k => ?_, fun p hp => ?_⟩
        · rw [getL_repl] at e
          cases q2 : getL L2 s with
          | none => rw [q2] at e; cases e
          | some u =>
            rw [q2] at e
            have hu := h2.snd v a (pre v b) s u q2
            have h1 := h2.snd v a (pre v b) one first e1
            have h3 := h2.snd v a (pre v b) other second e2
            have h4 := b (one, other) (by simp)
            simp only [Option.map_some, Option.some.injEq] at e
            rw [hu]
            simp only at h4
            by_cases k : isKn first = true
            · simp only [if_pos k] at e
              by_cases q3 : u = second
              · rw [if_pos q3] at e; rw [q3, ← e, ← h1, ← h3, h4]
              · rw [if_neg q3] at e; rw [e]
            · simp only [if_neg k] at e
              by_cases q3 : u = first
              · rw [if_pos q3] at e; rw [q3, ← e, ← h1, ← h3, h4]
              · rw [if_neg q3] at e; rw [e]
        · rw [getL_repl] at e
          cases q2 : getL L2 s with
          | none => rw [q2] at e; cases e
          | some u =>
            rw [q2] at e
            have hu := h2.kn s u q2 k
            subst hu
            simp only [Option.map_some, Option.some.injEq] at e
            by_cases k2 : isKn first = true
            · simp only [if_pos k2] at e hd
              by_cases q3 : u = second
              · rw [← q3, k] at hd; cases hd
              · rw [if_neg q3] at e; exact e.symm
            · simp only [if_neg k2] at e hd
              by_cases q3 : u = first
              · rw [← q3, k] at hd; cases hd
              · rw [if_neg q3] at e; exact e.symm
        · rcases List.mem_append.mp hp with hp | hp
          · obtain ⟨t, a, b⟩ := h2.eqs p hp
            exact ⟨_, by rw [getL_repl, a]; rfl, by rw [getL_repl, b]; rfl⟩
          · rw [List.mem_singleton.mp hp]
            refine ⟨if isKn first = true then first else second, ?_, ?_⟩
            · rw [getL_repl, e1]
              by_cases k : isKn first = true
              · simp [k]
              · simp [k]
            · rw [getL_repl, e2]
              by_cases k : isKn first = true
              · simp [k]
              · simp [k]
  · intro e
    dsimp only at e
    split at e
    · cases e
    · next q =>
      split at e
      · next nk =>
        rintro ⟨v, a, b⟩
        have h1 := h2.snd v a (pre v b) one first e1
        have h3 := h2.snd v a (pre v b) other second e2
        have h4 := b (one, other) (by simp)
        simp only at h4
        rw [h1, h3, a _ nk.1, a _ nk.2] at h4
        exact q h4
      · cases e
theorem keepL_ok : ∀ {F : Eqs} {L : Lead} {E : Eqs}, LeadOk L E → ((keepL L F).isSome = true ↔ SatE (E ++ F)) := by
  intro F
  induction F with
  | nil =>
    intro L E h
    simp only [keepL, Option.isSome_some, List.append_nil, true_iff]
    refine ⟨fun s => (getL L s).getD s, fun s k => ?_, fun p hp => ?_⟩
    · show (getL L s).getD s = s
      cases e : getL L s with
      | none => rfl
      | some t => exact h.kn s t e k
    · obtain ⟨t, a, b⟩ := h.eqs p hp
      show (getL L p.1).getD p.1 = (getL L p.2).getD p.2
      rw [a, b]; rfl
  | cons p r ih =>
    intro L E h
    obtain ⟨s1, s2⟩ := stepL_ok (one := p.1) (other := p.2) h
    unfold keepL
    have ea : E ++ p :: r = (E ++ [(p.1, p.2)]) ++ r := by simp
    split
    · next L' e => rw [ih (s1 L' e), ea]
    · next e =>
      simp only [Option.isSome_none, Bool.false_eq_true, false_iff]
      intro k
      exact s2 e (k.sub fun q hq => by rw [ea]; exact List.mem_append_left _ hq)
theorem keep_sat {E : Eqs} : (keepL [] E).isSome = true ↔ SatE E := by
  have := keepL_ok (F := E) (L := []) (E := []) ⟨by simp [getL], by simp [getL], by simp⟩
  simpa using this
/-! the law's owners -/
def ownF (O : Lead) (s : CL) : CL := O.foldl (fun s p => if s = p.1 then p.2 else s) s
def ownS (O : Lead) (one other : CL) : Option Lead :=
  let a := ownF O one
  let b := ownF O other
  if a = b then some O
  else if isKn a = true ∧ isKn b = true then none
  else if isKn a = true then some (O ++ [(b, a)]) else some (O ++ [(a, b)])
def ownL : Lead → Eqs → Option Lead
  | O, [] => some O
  | O, p :: r => match ownS O p.1 p.2 with | some O' => ownL O' r | none => none
structure OwnOk (O : Lead) (E : Eqs) : Prop where
  snd : ∀ v : CL → CL, (∀ s, isKn s = true → v s = s) → (∀ p ∈ E, v p.1 = v p.2) → ∀ s, v s = v (ownF O s)
  kn : ∀ s, isKn s = true → ownF O s = s
  eqs : ∀ p ∈ E, ownF O p.1 = ownF O p.2
theorem ownF_app {O : Lead} {s x y : CL} : ownF (O ++ [(x, y)]) s = if ownF O s = x then y else ownF O s := by
  unfold ownF
  rw [List.foldl_append]; rfl
theorem ownS_ok {O : Lead} {E : Eqs} {one other : CL} (h : OwnOk O E) :
    (∀ O', ownS O one other = some O' → OwnOk O' (E ++ [(one, other)])) ∧ (ownS O one other = none → ¬ SatE (E ++ [(one, other)])) := by
  have pre : ∀ v : CL → CL, (∀ p ∈ E ++ [(one, other)], v p.1 = v p.2) → ∀ p ∈ E, v p.1 = v p.2 := fun v b p hp => b p (List.mem_append_left _ hp)
  have add : ∀ x y : CL, isKn x = false → (x = ownF O one ∧ y = ownF O other ∨ x = ownF O other ∧ y = ownF O one) → OwnOk (O ++ [(x, y)]) (E ++ [(one, other)]) := by
    intro x y nk hxy
    refine ⟨fun v a b s => ?_, fun s k => ?_, fun p hp => ?_⟩
    · rw [ownF_app, h.snd v a (pre v b) s]
      split
      · next q =>
        have h1 := h.snd v a (pre v b) one
        have h3 := h.snd v a (pre v b) other
        have h4 := b (one, other) (by simp)
        simp only at h4
        rw [q]
        rcases hxy with ⟨rfl, rfl⟩ | ⟨rfl, rfl⟩
        · rw [← h1, ← h3, h4]
        · rw [← h1, ← h3, h4]
      · rfl
    · rw [ownF_app, h.kn s k]
      split
      · next q => rw [← q, k] at nk; cases nk
      · rfl
    · rcases List.mem_append.mp hp with hp | hp
      · rw [ownF_app, ownF_app, h.eqs p hp]
      · rw [List.mem_singleton.mp hp]
        simp only [ownF_app]
        rcases hxy with ⟨rfl, rfl⟩ | ⟨rfl, rfl⟩
        · simp only [if_true]; split <;> rfl
        · simp only [if_true]; split <;> rfl
  unfold ownS
  dsimp only
  constructor
  · intro O' e
    split at e
    · next q =>
      cases e
      refine ⟨fun v a b => h.snd v a (pre v b), h.kn, fun p hp => ?_⟩
      rcases List.mem_append.mp hp with hp | hp
      · exact h.eqs p hp
      · rw [List.mem_singleton.mp hp]; exact q
    · split at e
      · cases e
      · next nk =>
        split at e
        · next ka =>
          cases e
          refine add _ _ ?_ (.inr ⟨rfl, rfl⟩)
          cases hb : isKn (ownF O other) with
          | false => rfl
          | true => exact (nk ⟨ka, hb⟩).elim
        · next ka => cases e; exact add _ _ (by simpa using ka) (.inl ⟨rfl, rfl⟩)
  · intro e
    split at e
    · cases e
    · next q =>
      split at e
      · next nk =>
        rintro ⟨v, a, b⟩
        have h1 := h.snd v a (pre v b) one
        have h3 := h.snd v a (pre v b) other
        have h4 := b (one, other) (by simp)
        simp only at h4
        rw [h1, h3, a _ nk.1, a _ nk.2] at h4
        exact q h4
      · split at e <;> cases e
theorem ownL_ok : ∀ {F : Eqs} {O : Lead} {E : Eqs}, OwnOk O E → ((ownL O F).isSome = true ↔ SatE (E ++ F)) := by
  intro F
  induction F with
  | nil =>
    intro O E h
    simp only [ownL, Option.isSome_some, List.append_nil, true_iff]
    exact ⟨ownF O, h.kn, h.eqs⟩
  | cons p r ih =>
    intro O E h
    obtain ⟨s1, s2⟩ := ownS_ok (one := p.1) (other := p.2) h
    unfold ownL
    have ea : E ++ p :: r = (E ++ [(p.1, p.2)]) ++ r := by simp
    split
    · next O' e => rw [ih (s1 O' e), ea]
    · next e =>
      simp only [Option.isSome_none, Bool.false_eq_true, false_iff]
      intro k
      exact s2 e (k.sub fun q hq => by rw [ea]; exact List.mem_append_left _ hq)
theorem own_sat {E : Eqs} : (ownL [] E).isSome = true ↔ SatE E := by
  have := ownL_ok (F := E) (O := []) (E := []) ⟨by simp [ownF], by simp [ownF], by simp⟩
  simpa using this
theorem keep_own {E : Eqs} : (keepL [] E).isSome = (ownL [] E).isSome := by
  rw [Bool.eq_iff_iff, keep_sat, own_sat]
end DL

/-! The chances of two spots. -/
namespace DL
open PySem
def crossB (ss : List CL) : Bool := ss.any fun s => s.head? == some 94
def boxW (w : Str) (b : Bool) : Str := if b = true then w ++ "box" else w
def jointW (a b : List CL) : Str := if a.length = b.length then "same" else if b.length < a.length then boxW "over" (crossB (a.drop b.length)) else boxW "under" (crossB (b.drop a.length))
def chanceW : List CL → List CL → List Str
  | r :: a, t :: b => if r = t then (match askE a b with | none => ["apart"] | some E => if (keepL [] E).isSome = true then (if E = [] then [jointW a b] else [jointW a b, "apart"]) else ["apart"]) else ["apart"]
  | _, _ => ["apart"]
/-- the law's own walk along two rows of steps -/
def lawO : Lead × Bool → List CL → List CL → Option (Lead × Bool)
  | s, a :: r, b :: t => if a = b then lawO s r t else if isCel a = true ∧ isCel b = true then (match ownS s.1 a b with | some O => lawO (O, true) r t | none => none) else none
  | s, _, _ => some s
theorem lawO_ask : ∀ {a b : List CL} {O : Lead} {f : Bool} {E : Eqs}, OwnOk O E → lawO (O, f) a b = (match askE a b with | none => none | some F => (ownL O F).map fun O' => (O', f || !F.isEmpty))
  | [], b, O, f, E, h => by simp [lawO, askE, ownL]
  | a :: r, [], O, f, E, h => by simp [lawO, askE, ownL]
  | a :: r, b :: t, O, f, E, h => by
    unfold lawO askE
    by_cases e : a = b
    · rw [if_pos e, if_pos e]; exact lawO_ask h
    · rw [if_neg e, if_neg e]
      by_cases c : isCel a = true ∧ isCel b = true
      · rw [if_pos c]
        by_cases k : isKn a = true ∧ isKn b = true
        · rw [if_neg (fun x => x.2.2 k)]
          have : ownS O a b = none := by
            unfold ownS
            dsimp only
            rw [h.kn a k.1, h.kn b k.2, if_neg e, if_pos k]
          rw [this]
        · rw [if_pos ⟨c.1, c.2, k⟩]
          obtain ⟨s1, s2⟩ := ownS_ok (one := a) (other := b) h
          cases q : ownS O a b with
          | none =>
            dsimp only
            cases q2 : askE r t with
            | none => rfl
            | some F => simp [ownL, q]
          | some O' =>
            dsimp only
            rw [lawO_ask (s1 O' q)]
            cases q2 : askE r t with
            | none => rfl
            | some F => simp [ownL, q]
      · rw [if_neg c, if_neg (fun x => c ⟨x.1, x.2.1⟩)]
def lawW : List CL → List CL → List Str
  | r :: a, t :: b => if r = t then (match lawO ([], false) a b with | none => ["apart"] | some s => if s.2 = true then [jointW a b, "apart"] else [jointW a b]) else ["apart"]
  | _, _ => ["apart"]
theorem law_chance (ps qs : List CL) : lawW ps qs = chanceW ps qs := by
  cases ps with
  | nil => rfl
  | cons r a =>
    cases qs with
    | nil => rfl
    | cons t b =>
      simp only [lawW, chanceW]
      by_cases e : r = t
      · rw [if_pos e, if_pos e, lawO_ask (E := []) ⟨by simp [ownF], by simp [ownF], by simp⟩]
        cases askE a b with
        | none => rfl
        | some F =>
          simp only [keep_own]
          cases q : ownL [] F with
          | none => simp
          | some O => cases F <;> simp
      · rw [if_neg e, if_neg e]
/-! the other way round -/
def invS (w : Str) : Str := if w = "over" then "under" else if w = "overbox" then "underbox" else if w = "under" then "over" else if w = "underbox" then "overbox" else w
theorem joint_inv (a b : List CL) : jointW b a = invS (jointW a b) := by
  unfold jointW
  by_cases h : a.length = b.length
  · rw [if_pos h, if_pos h.symm]; decide +kernel
  · rw [if_neg h, if_neg (Ne.symm h)]
    by_cases k : b.length < a.length
    · rw [if_pos k, if_neg (by omega)]
      cases crossB (a.drop b.length) <;> decide +kernel
    · rw [if_neg k, if_pos (by omega)]
      cases crossB (b.drop a.length) <;> decide +kernel
theorem ask_swap : ∀ {a b : List CL}, askE b a = (askE a b).map fun E => E.map Prod.swap
  | [], b => by cases b <;> simp [askE]
  | a :: r, [] => by simp [askE]
  | a :: r, b :: t => by
    unfold askE
    by_cases e : a = b
    · rw [if_pos e, if_pos e.symm]; exact ask_swap
    · rw [if_neg e, if_neg (Ne.symm e)]
      by_cases c : isCel a = true ∧ isCel b = true ∧ ¬ (isKn a = true ∧ isKn b = true)
      · rw [if_pos c, if_pos ⟨c.2.1, c.1, fun x => c.2.2 ⟨x.2, x.1⟩⟩, ask_swap]
        cases askE r t <;> simp
      · rw [if_neg c, if_neg (fun x => c ⟨x.2.1, x.1, fun y => x.2.2 ⟨y.2, y.1⟩⟩)]; rfl
theorem keep_swap {E : Eqs} : (keepL [] (E.map Prod.swap)).isSome = (keepL [] E).isSome := by
  rw [Bool.eq_iff_iff, keep_sat, keep_sat, SatE.swap]
theorem chance_inv (ps qs : List CL) : chanceW qs ps = (chanceW ps qs).map invS := by
  have ap : invS "apart" = "apart" := by decide +kernel
  cases ps with
  | nil => cases qs <;> simp [chanceW, ap]
  | cons r a =>
    cases qs with
    | nil => simp [chanceW, ap]
    | cons t b =>
      simp only [chanceW]
      by_cases e : r = t
      · rw [if_pos e, if_pos e.symm, ask_swap]
        cases askE a b with
        | none => simp [ap]
        | some E =>
          simp only [Option.map_some]
          rw [keep_swap]
          split
          · cases E with
            | nil => simp [joint_inv a b]
            | cons p E => simp [joint_inv a b, ap]
          · simp [ap]
      · rw [if_neg e, if_neg (Ne.symm e)]; simp [ap]
def wordsJ : List Str := ["same", "over", "overbox", "under", "underbox"]
theorem joint_in (a b : List CL) : jointW a b ∈ wordsJ := by
  unfold jointW
  split
  · decide +kernel
  · split
    · cases crossB (a.drop b.length) <;> decide +kernel
    · cases crossB (b.drop a.length) <;> decide +kernel
theorem chance_form (ps qs : List CL) : chanceW ps qs = [("apart" : Str)] ∨ ∃ w ∈ wordsJ, chanceW ps qs = [w] ∨ chanceW ps qs = [w, ("apart" : Str)] := by
  cases ps with
  | nil => exact .inl rfl
  | cons r a =>
    cases qs with
    | nil => exact .inl rfl
    | cons t b =>
      simp only [chanceW]
      by_cases e : r = t
      · rw [if_pos e]
        cases askE a b with
        | none => exact .inl rfl
        | some E =>
          dsimp only
          by_cases k : (keepL [] E).isSome = true
          · rw [if_pos k]
            by_cases z : E = []
            · rw [if_pos z]; exact .inr ⟨_, joint_in a b, .inl rfl⟩
            · rw [if_neg z]; exact .inr ⟨_, joint_in a b, .inr rfl⟩
          · rw [if_neg k]; exact .inl rfl
      · rw [if_neg e]; exact .inl rfl
/-! written numbers -/
theorem num_head : ∀ n : Nat, 1 ≤ n → (TL.numL n).head? ≠ some 48 := by
  intro n
  induction n using Nat.strongRecOn with
  | _ n ih =>
    intro h
    by_cases k : n < 10
    · rw [TL.numL_lt k]; simp; omega
    · rw [TL.numL_step (by omega)]
      have := ih (n / 10) (by omega) (by omega)
      have hn := TL.numL_ne (n / 10)
      cases e : TL.numL (n / 10) with
      | nil => exact (hn e).elim
      | cons x r => rw [e] at this; simpa using this
theorem num_ok {n : Nat} (h : n < 10000) : isNum (TL.numL n) := by
  refine ⟨TL.numL_ne n, TL.numL_len (by decide) (by simpa using h), fun e => ?_, fun c hc => ?_⟩
  · by_cases k : n = 0
    · subst k; rw [TL.numL_lt (by decide)]; rfl
    · exact (num_head n (by omega) e).elim
  · have := TL.numL_digits n c hc; omega
theorem strI (n : Nat) : (Str.ofString (toString (n : Int))) = mk (TL.numL n) := by
  rw [← TL.tl_num n]
  exact (mk_of _).symm
theorem strR (n : Nat) : (Str.ofString (Int.repr (n : Int))) = mk (TL.numL n) := by rw [← Int.toString_eq_repr]; exact strI n
theorem lg20 {n : Nat} (h : n < 1000000) : n.log2 < 1920 := by
  by_cases k : n = 0
  · subst k; decide
  · have := (Nat.log2_lt k (k := 20)).mpr (by omega)
    omega
theorem StepIn.cell {nm : CL → Prop} {n : CL} (h : (isNm n ∧ nm n) ∨ isNum n) : StepIn nm (91 :: n ++ [93]) := .inr ⟨n, rfl, h⟩
theorem join_mk (ps : List CL) : Txt.join "" (ps.map mk) = mk ps.flatten := by
  rw [show ("" : Str) = mk [] by decide +kernel]; exact joinE ps
theorem iteI {c : Prop} [Decidable c] {A B : Prop} (h1 : c → A) (h2 : ¬ c → B) : if c then A else B := by
  split
  · next h => exact h1 h
  · next h => exact h2 h
def nameB (k : Nat) (l : CL) : Bool := !l.isEmpty && decide (l.length ≤ k) && l.all fun c => decide (97 ≤ c ∧ c ≤ 122)
theorem nameB_iff {l : CL} : nameB 7 l = true ↔ isNm l := by
  unfold nameB isNm
  simp only [Bool.and_eq_true, List.all_eq_true, decide_eq_true_eq, Bool.not_eq_true', List.isEmpty_eq_false_iff, ne_eq, and_assoc]
theorem nameB_cut {l : CL} : (nameB 8 l && decide (l.length ≤ 7)) = nameB 7 l := by
  unfold nameB
  rw [Bool.eq_iff_iff]
  simp only [Bool.and_eq_true, decide_eq_true_eq]
  constructor
  · rintro ⟨⟨⟨a, b⟩, c⟩, d⟩; exact ⟨⟨a, d⟩, c⟩
  · rintro ⟨⟨a, d⟩, c⟩; exact ⟨⟨⟨a, by omega⟩, c⟩, d⟩
theorem letter_in (z : Nat) : (z ∈ ("abcdefghijklmnopqrstuvwxyz" : Str).cps) = (97 ≤ z ∧ z ≤ 122) := by
  have h : ("abcdefghijklmnopqrstuvwxyz" : Str).cps.toList = List.range' 97 26 := by decide +kernel
  rw [Array.mem_def, h, List.mem_range'_1]
  apply propext; omega
theorem blsOf_all {α : Type} (ls : List α) (f : α → Bool) : blsOf (ls.map fun a => D.bl (f a)) = some (ls.map f) := by
  have := blsOf_map (ls.map f)
  rwa [List.map_map] at this
@[simp] theorem cut_mid {α : Type} {x y : α} {n : List α} : cutD (x :: (n ++ [y])) (some 1) (some (-1)) = n := by
  unfold cutD
  have e1 : HT.sIx (x :: (n ++ [y])).length 0 (some 1) = 1 := by
    unfold HT.sIx; simp
  have e2 : HT.sIx (x :: (n ++ [y])).length (x :: (n ++ [y])).length (some (-1)) = n.length + 1 := by
    unfold HT.sIx; simp
    omega
  rw [e1, e2]
  simp
@[simp] theorem at_last {α : Type} {x y : α} {n : List α} : L2.atI (x :: (n ++ [y])) (-1) = some y := L2.atI_last (x :: n) y
/-- where the next part begins -/
def endI (l : CL) (i : Nat) : Nat := i + ((l.drop i).takeWhile fun c => !begC c).length
theorem beg_in (z : Nat) : (z ∈ (".^[" : Str).cps) = (begC z = true) := by
  have : (".^[" : Str).cps = #[46, 94, 91] := by decide +kernel
  rw [this]; simp [begC, or_assoc]
theorem endI_le {l : CL} {i : Nat} (h : i ≤ l.length) : endI l i ≤ l.length := by
  unfold endI
  have := (List.takeWhile_sublist (fun c => !begC c) (l := l.drop i)).length_le
  rw [List.length_drop] at this
  omega
theorem endI_ge {l : CL} {i : Nat} : i ≤ endI l i := by unfold endI; omega
theorem endI_at {l : CL} {i : Nat} (h : i < l.length) (hb : begC l[i] = true) : endI l i = i := by
  unfold endI
  rw [List.drop_eq_getElem_cons h, List.takeWhile_cons_of_neg (by simp [hb])]
  rfl
theorem endI_no {l : CL} {i : Nat} (h : i < l.length) (hb : begC l[i] = false) : endI l i = endI l (i + 1) := by
  unfold endI
  rw [List.drop_eq_getElem_cons h, List.takeWhile_cons_of_pos (by simp [hb])]
  simp; omega
theorem endI_end {l : CL} : endI l l.length = l.length := by unfold endI; simp
/-- the parts from a mark on -/
theorem cutA_step {l acc : CL} {i : Nat} (h : i ≤ l.length) : cutA acc (l.drop i) = (acc ++ (l.drop i).take (endI l i - i)) :: (if endI l i < l.length then cutA (l.drop (endI l i) |>.take 1) (l.drop (endI l i + 1)) else []) := by
  induction hk : l.length - i generalizing i acc with
  | zero =>
    have : i = l.length := by omega
    subst this
    rw [List.drop_length, endI_end]
    simp [cutA]
  | succ k ih =>
    have hi : i < l.length := by omega
    by_cases hb : begC l[i] = true
    · rw [endI_at hi hb, if_pos hi]
      have e1 : (l.drop i).take 1 = [l[i]] := by rw [List.drop_eq_getElem_cons hi]; rfl
      rw [e1]
      conv => lhs; rw [List.drop_eq_getElem_cons hi, cutA, if_pos hb]
      simp
    · have hb' : begC l[i] = false := by simpa using hb
      rw [endI_no hi hb']
      conv => lhs; rw [List.drop_eq_getElem_cons hi, cutA, if_neg hb]
      rw [ih (i := i + 1) (by omega) (by omega)]
      have hg : i + 1 ≤ endI l (i + 1) := endI_ge
      congr 1
      rw [List.drop_eq_getElem_cons hi, show endI l (i + 1) - i = (endI l (i + 1) - (i + 1)) + 1 by omega, List.take_succ_cons]
      simp
theorem cutD_range {α : Type} (xs : List α) {a b : Nat} (h : b ≤ xs.length) (hab : a ≤ b) : cutD xs (some (a : Int)) (some (b : Int)) = (xs.drop a).take (b - a) := by
  unfold cutD
  rw [HT.sIx_nat, HT.sIx_nat, Nat.min_eq_left h, Nat.min_eq_left (Nat.le_trans hab h)]
def restP (l : CL) (e : Nat) : List CL := if e < l.length then cutA ((l.drop e).take 1) (l.drop (e + 1)) else []
theorem rest_start {l : CL} : cutL l = l.take (endI l 0) :: restP l (endI l 0) := by
  have := cutA_step (l := l) (acc := []) (i := 0) (Nat.zero_le _)
  simpa [restP, cutL] using this
theorem rest_step {l : CL} {e : Nat} (h : e < l.length) : restP l e = (l.drop e).take (endI l (e + 1) - e) :: restP l (endI l (e + 1)) := by
  have h1 := cutA_step (l := l) (acc := (l.drop e).take 1) (i := e + 1) (by omega)
  have hg : e + 1 ≤ endI l (e + 1) := endI_ge
  conv => lhs; unfold restP
  rw [if_pos h, h1]
  congr 1
  have e2 : (l.drop e).take 1 = [l[e]] := by rw [List.drop_eq_getElem_cons h]; rfl
  rw [e2, show endI l (e + 1) - e = (endI l (e + 1) - (e + 1)) + 1 by omega]
  conv => rhs; rw [List.drop_eq_getElem_cons h, List.take_succ_cons]
  rfl
theorem rest_end {l : CL} {e : Nat} (h : ¬ e < l.length) : restP l e = [] := if_neg h
end DL

/-! The law's owners as a dict. -/
namespace DL
open PySem
open L2 (Key)
def keysL (O : Lead) : List CL := O.map (·.1)
structure WfO (O : Lead) : Prop where
  wf : ∀ (i : Nat) (x y : CL), O[i]? = some (x, y) → x ∉ keysL (O.take i) ∧ y ∉ keysL (O.take (i + 1))
theorem WfO.nil : WfO [] := ⟨fun i x y h => by simp at h⟩
theorem WfO.snoc {O : Lead} (h : WfO O) {x y : CL} (hx : x ∉ keysL O) (hy : y ∉ keysL O) (hn : y ≠ x) : WfO (O ++ [(x, y)]) := ⟨fun i a b e => by
  by_cases k : i < O.length
  · rw [List.getElem?_append_left k] at e
    rw [List.take_append_of_le_length (by omega), List.take_append_of_le_length (by omega)]
    exact h.wf i a b e
  · rw [List.getElem?_append_right (by omega)] at e
    have : i - O.length = 0 := by
      cases q : i - O.length with
      | zero => rfl
      | succ n => rw [q] at e; simp at e
    rw [this] at e
    have hi : i = O.length := by omega
    subst hi
    cases e
    refine ⟨by rw [List.take_left']; exact hx; rfl, ?_⟩
    rw [List.take_of_length_le (by simp)]
    simp only [keysL, List.map_append, List.map_cons, List.map_nil, List.mem_append, List.mem_singleton, not_or]
    exact ⟨hy, hn⟩⟩
theorem ownF_no {O : Lead} {s : CL} (h : s ∉ keysL O) : ownF O s = s := by
  unfold ownF
  induction O with
  | nil => rfl
  | cons p r ih =>
    simp only [keysL, List.map_cons, List.mem_cons, not_or] at h
    rw [List.foldl_cons, if_neg h.1]
    exact ih h.2
theorem ownF_at {O : Lead} (h : WfO O) {i : Nat} {x y : CL} (e : O[i]? = some (x, y)) : ownF O x = ownF O y := by
  obtain ⟨h1, h2⟩ := h.wf i x y e
  have hi := (List.getElem?_eq_some_iff.mp e).1
  have ex : O[i] = (x, y) := (List.getElem?_eq_some_iff.mp e).2
  have sp : O = O.take i ++ (x, y) :: O.drop (i + 1) := by
    rw [← ex, List.getElem_cons_drop]; exact (List.take_append_drop i O).symm
  have a1 : ownF (O.take i) x = x := ownF_no h1
  have t1 : O.take (i + 1) = O.take i ++ [(x, y)] := by rw [List.take_succ_eq_append_getElem hi, ex]
  have a2 : ownF (O.take (i + 1)) y = y := ownF_no h2
  have c1 : ∀ s, ownF O s = ownF (O.drop (i + 1)) (ownF (O.take (i + 1)) s) := fun s => by
    unfold ownF
    rw [← List.foldl_append, List.take_append_drop]
  rw [c1, c1, a2, t1, ownF_app, a1, if_pos rfl]
theorem getL_at {O : Lead} (h : WfO O) {i : Nat} {x y : CL} (e : O[i]? = some (x, y)) : getL O x = some y := by
  obtain ⟨h1, h2⟩ := h.wf i x y e
  have hi := (List.getElem?_eq_some_iff.mp e).1
  have ex : O[i] = (x, y) := (List.getElem?_eq_some_iff.mp e).2
  have sp : O = O.take i ++ (x, y) :: O.drop (i + 1) := by
    rw [← ex, List.getElem_cons_drop]; exact (List.take_append_drop i O).symm
  rw [sp]
  unfold getL
  rw [List.find?_append]
  have : (O.take i).find? (fun p => decide (p.1 = x)) = none := by
    rw [List.find?_eq_none]
    intro p hp
    simp only [decide_eq_true_eq]
    intro q
    exact h1 (List.mem_map.mpr ⟨p, hp, q⟩)
  rw [this]
  simp
theorem getL_none {O : Lead} {s : CL} : getL O s = none ↔ s ∉ keysL O := by
  unfold getL keysL
  rw [Option.map_eq_none_iff, List.find?_eq_none]
  constructor
  · intro h hm
    obtain ⟨p, hp, e⟩ := List.mem_map.mp hm
    exact h p hp (by simpa using e)
  · intro h p hp
    simp only [decide_eq_true_eq]
    intro e
    exact h (List.mem_map.mpr ⟨p, hp, e⟩)
def goF (O : Lead) : Nat → CL → CL
  | 0, s => s
  | n + 1, s => goF O n ((getL O s).getD s)
theorem goF_fix {O : Lead} {s : CL} (h : getL O s = none) : ∀ n, goF O n s = s
  | 0 => rfl
  | n + 1 => by rw [goF, h]; exact goF_fix h n
/-- .. leads to a root -/
theorem root_all {O : Lead} (h : WfO O) : ∀ (k : Nat) (s : CL), s ∉ keysL (O.take (O.length - k)) → ownF O s ∉ keysL O ∧ ∀ n, k ≤ n → goF O n s = ownF O s := by
  intro k
  induction k using Nat.strongRecOn with
  | _ k ih =>
    intro s hs
    cases e : getL O s with
    | none =>
      have hn := getL_none.mp e
      rw [ownF_no hn]
      exact ⟨hn, fun n _ => goF_fix e n⟩
    | some y =>
      have hm : s ∈ keysL O := Decidable.byContradiction fun c => by rw [getL_none.mpr c] at e; cases e
      obtain ⟨p, hp, rfl⟩ := List.mem_map.mp hm
      obtain ⟨i, hi, q⟩ := List.mem_iff_getElem.mp hp
      obtain ⟨x, y'⟩ := p
      have ei : O[i]? = some (x, y') := by rw [List.getElem?_eq_getElem hi, q]
      rw [getL_at h ei] at e
      cases e
      have hik : O.length - k ≤ i := by
        apply Decidable.byContradiction
        intro c
        apply hs
        refine List.mem_map.mpr ⟨(x, y), ?_, rfl⟩
        rw [List.mem_take_iff_getElem]
        exact ⟨i, by omega, q⟩
      have hy := (h.wf i x y ei).2
      have := ih (O.length - (i + 1)) (by omega) y (by rw [show O.length - (O.length - (i + 1)) = i + 1 by omega]; exact hy)
      rw [ownF_at h ei]
      refine ⟨this.1, fun n hn => ?_⟩
      obtain ⟨n, rfl⟩ : ∃ m, n = m + 1 := ⟨n - 1, by omega⟩
      rw [goF, getL_at h ei]
      exact this.2 n (by omega)
theorem own_root {O : Lead} (h : WfO O) (s : CL) : ownF O s ∉ keysL O := (root_all h O.length s (by simp [keysL])).1
theorem go_root {O : Lead} (h : WfO O) (s : CL) {n : Nat} (hn : O.length ≤ n) : goF O n s = ownF O s := (root_all h O.length s (by simp [keysL])).2 n hn
theorem goF_succ {O : Lead} : ∀ (n : Nat) (s : CL), goF O (n + 1) s = (getL O (goF O n s)).getD (goF O n s)
  | 0, s => rfl
  | n + 1, s => by
    rw [goF, goF_succ n]; rfl
theorem ownS_wf {O O' : Lead} {a b : CL} (h : WfO O) (e : ownS O a b = some O') : WfO O' ∧ O'.length ≤ O.length + 1 := by
  unfold ownS at e
  dsimp only at e
  split at e
  · cases e; exact ⟨h, by omega⟩
  · next q =>
    split at e
    · cases e
    · split at e
      · cases e; exact ⟨h.snoc (own_root h _) (own_root h _) q, by simp⟩
      · cases e; exact ⟨h.snoc (own_root h _) (own_root h _) (Ne.symm q), by simp⟩
/-! a dict of texts -/
def dicL (L : Lead) : List (Key × D) := L.map fun p => (Sum.inr (mk p.1), .str (mk p.2))
theorem val_dicL {L : Lead} {s : CL} : valD (dicL L) (Sum.inr (mk s)) = (getL L s).map fun t => .str (mk t) := by
  unfold valD dicL getL
  rw [List.find?_map]
  have e : (fun kv : Key × D => decide (kv.1 = Sum.inr (mk s))) ∘ (fun p : CL × CL => (Sum.inr (mk p.1), D.str (mk p.2))) = fun p => decide (p.1 = s) := by
    funext p
    simp [mk_inj]
  rw [e]
  cases L.find? fun p => decide (p.1 = s) <;> rfl
theorem dicL_len {L : Lead} : (dicL L).length = L.length := by simp [dicL]
theorem put_dicL {L : Lead} {s t : CL} (h : getL L s = none) : putD (dicL L) (Sum.inr (mk s)) (.str (mk t)) = dicL (L ++ [(s, t)]) := by
  unfold putD
  have : ((dicL L).any fun kv => decide (kv.1 = Sum.inr (mk s))) = false := by
    rw [List.any_eq_false]
    intro kv hk
    obtain ⟨p, hp, rfl⟩ := List.mem_map.mp hk
    simp only [decide_eq_true_eq, Sum.inr.injEq, mk_inj]
    intro q
    exact getL_none.mp h (List.mem_map.mpr ⟨p, hp, q⟩)
  rw [this]
  simp [dicL]
def CelIn (nm : CL → Prop) (l : CL) : Prop := StepIn nm l ∧ isCel l = true
theorem own_cel {nm : CL → Prop} {O : Lead} (h : ∀ p ∈ O, CelIn nm p.2) {s : CL} (hs : CelIn nm s) : CelIn nm (ownF O s) := by
  unfold ownF
  induction O generalizing s with
  | nil => exact hs
  | cons p r ih =>
    rw [List.foldl_cons]
    refine ih (fun q hq => h q (List.mem_cons_of_mem _ hq)) ?_
    split
    · exact h p (by simp)
    · exact hs
theorem CelIn.second {nm : CL → Prop} {l : CL} (h : CelIn nm l) : ∃ x r, l = 91 :: x :: r ∧ isKn l = decide (48 ≤ x ∧ x ≤ 57) := by
  obtain ⟨n, x, r, e1, e2, e3, _⟩ := h.1.kn h.2
  subst e2
  exact ⟨x, r ++ [93], by simpa using e1, e3⟩
theorem ownS_cel {nm : CL → Prop} {O O' : Lead} {a b : CL} (h : ∀ p ∈ O, CelIn nm p.2) (ha : CelIn nm a) (hb : CelIn nm b) (e : ownS O a b = some O') : ∀ p ∈ O', CelIn nm p.2 := by
  unfold ownS at e
  dsimp only at e
  split at e
  · cases e; exact h
  · split at e
    · cases e
    · split at e
      · cases e
        intro p hp
        rcases List.mem_append.mp hp with hp | hp
        · exact h p hp
        · rw [List.mem_singleton.mp hp]; exact own_cel h ha
      · cases e
        intro p hp
        rcases List.mem_append.mp hp with hp | hp
        · exact h p hp
        · rw [List.mem_singleton.mp hp]; exact own_cel h hb
theorem isCel_iff {l : CL} : isCel l = true ↔ l.head? = some 91 := by simp [isCel]
theorem digit_in (z : Nat) : (z ∈ ("0123456789" : Str).cps) = (48 ≤ z ∧ z ≤ 57) := by
  have hdig : ("0123456789" : Str).cps = #[48, 49, 50, 51, 52, 53, 54, 55, 56, 57] := by decide +kernel
  rw [hdig, Array.mem_def]
  have : (#[48, 49, 50, 51, 52, 53, 54, 55, 56, 57] : Array Nat).toList = List.range' 48 10 := by decide +kernel
  rw [this, List.mem_range'_1]
  apply propext
  omega
theorem get_mid {A B : Lead} {x v : CL} (h : x ∉ keysL A) : getL (A ++ (x, v) :: B) x = some v := by
  unfold getL
  rw [List.find?_append]
  have : A.find? (fun p => decide (p.1 = x)) = none := by
    rw [List.find?_eq_none]
    intro p hp
    simp only [decide_eq_true_eq]
    intro q
    exact h (List.mem_map.mpr ⟨p, hp, q⟩)
  rw [this]; simp
theorem put_mid {A B : Lead} {x v t : CL} (h : x ∉ keysL A) (h2 : x ∉ keysL B) : putD (dicL (A ++ (x, v) :: B)) (Sum.inr (mk x)) (.str (mk t)) = dicL (A ++ (x, t) :: B) := by
  unfold putD
  have a1 : ((dicL (A ++ (x, v) :: B)).any fun kv => decide (kv.1 = Sum.inr (mk x))) = true := by
    rw [List.any_eq_true]
    exact ⟨(Sum.inr (mk x), .str (mk v)), by simp [dicL], by simp⟩
  rw [if_pos a1]
  have no : ∀ C : Lead, x ∉ keysL C → (dicL C).map (fun kv => if kv.1 = Sum.inr (mk x) then (kv.1, D.str (mk t)) else kv) = dicL C := by
    intro C hC
    conv => rhs; rw [← List.map_id (dicL C)]
    apply List.map_congr_left
    intro kv hk
    obtain ⟨p, hp, rfl⟩ := List.mem_map.mp hk
    have : ¬ (Sum.inr (mk p.1) : Key) = Sum.inr (mk x) := by
      simp only [Sum.inr.injEq, mk_inj]
      intro q
      exact hC (List.mem_map.mpr ⟨p, hp, q⟩)
    simp [this]
  have sp : ∀ C D' : Lead, dicL (C ++ D') = dicL C ++ dicL D' := fun C D' => by simp [dicL]
  rw [sp, List.map_append, no A h, sp]
  congr 1
  show _ :: _ = _ :: _
  rw [show (List.map (fun kv : Key × D => if kv.1 = Sum.inr (mk x) then (kv.1, D.str (mk t)) else kv) (List.map (fun p : CL × CL => ((Sum.inr (mk p.1) : Key), D.str (mk p.2))) B)) = dicL B from no B h2]
  simp [dicL]
theorem keys_setd {L : Lead} {x : CL} (h : (keysL L).Nodup) : (keysL (setdL L x)).Nodup := by
  unfold setdL
  split
  · exact h
  · next k =>
    have hx : x ∉ keysL L := getL_none.mp (by simpa using k)
    simp only [keysL, List.map_append, List.map_cons, List.map_nil]
    rw [List.nodup_append]
    exact ⟨h, by simp, fun a ha b hb e => by rw [List.mem_singleton.mp hb] at e; subst e; exact hx ha⟩
theorem keys_repl {L : Lead} {k d : CL} : keysL (replL L k d) = keysL L := by
  unfold keysL replL
  rw [List.map_map]
  apply List.map_congr_left
  intro p _
  simp only [Function.comp]
  split <;> rfl
def AllCel (nm : CL → Prop) (L : Lead) : Prop := ∀ p ∈ L, CelIn nm p.2
theorem AllCel.setd {nm : CL → Prop} {L : Lead} {x : CL} (h : AllCel nm L) (hx : CelIn nm x) : AllCel nm (setdL L x) := by
  unfold setdL
  split
  · exact h
  · intro p hp
    rcases List.mem_append.mp hp with hp | hp
    · exact h p hp
    · rw [List.mem_singleton.mp hp]; exact hx
theorem AllCel.repl {nm : CL → Prop} {L : Lead} {k d : CL} (h : AllCel nm L) (hk : CelIn nm k) : AllCel nm (replL L k d) := by
  intro p hp
  obtain ⟨q, hq, rfl⟩ := List.mem_map.mp hp
  split
  · exact hk
  · exact h q hq
theorem AllCel.get {nm : CL → Prop} {L : Lead} {x t : CL} (h : AllCel nm L) (e : getL L x = some t) : CelIn nm t := by
  unfold getL at e
  cases q : L.find? fun p => decide (p.1 = x) with
  | none => rw [q] at e; cases e
  | some p => rw [q] at e; cases e; exact h p (List.mem_of_find?_eq_some q)
theorem setd_len {L : Lead} {x : CL} : (setdL L x).length ≤ L.length + 1 := by
  unfold setdL; split <;> simp
theorem setd_some {L : Lead} {s v : CL} (h : getL L s = some v) : setdL L s = L := by unfold setdL; rw [if_pos (by rw [h]; rfl)]
theorem setd_none {L : Lead} {s : CL} (h : getL L s = none) : setdL L s = L ++ [(s, s)] := by unfold setdL; rw [if_neg (by rw [h]; simp)]
end DL

namespace K03
open PySem PySem.Spec PyProof.Rows L2 DL
open L2H (FnH RoomH HotC)
local macro_rules | `(tactic| walk_at "dl0") => `(tactic| simp only [startD, List.map_cons, List.map_nil, List.cons_append, List.nil_append, List.length_cons, List.length_nil, Nat.reduceAdd, Nat.reduceSub, Nat.zero_add, List.reduceReplicate])
local macro_rules | `(tactic| walk_at "dl_vw") => `(tactic| first | rfl | (with_unfolding_all rfl) | exact vw_of (by assumption) | exact vw_of mup_same | (simp [vw, mup_ne, *]; done))
local macro_rules | `(tactic| walk_at "dl_at") => `(tactic| first | exact atI_c0 | exact atI_c1 | exact atI_c2 | exact atI_c3 | exact atI_c4 | exact atI_m1a | exact atI_m1s | assumption | rfl | (simp [*]; done))
local macro_rules | `(tactic| walk_at "dl_mu") => `(tactic| first | assumption | exact mup_same | (simp [mup_ne, *]; done))
local macro_rules | `(tactic| walk_at "dl_sz") => `(tactic| first | omega | (simp; omega) | (simp [*]; omega))
local macro_rules | `(tactic| walk_at "dl_cz") => `(tactic| first | (show (0 : Int) < _; first | omega | decide) | (unfold CDiv; constructor <;> omega) | (unfold CMul; first | (right; decide) | (left; decide) | (right; omega)) | (unfold CPow; decide))
local macro_rules | `(tactic| walk_at "dl_fin") => `(tactic| first | assumption | (refine ⟨by first | walk_at "dl_cz" | walk_at "dl_sz", ?_⟩; walk_at "dl_fin"))
local macro_rules | `(tactic| walk_at "dl_ev") => `(tactic| (intro Q hQ; simp only [dVar, dC, dOp, dCB, dCons, dNil, dB, dAnd, dOr, dNot, dAndV, dOrV, dNotV, dNeg, dTru, truD, dIf, dSl, dNoPart, dPart, slW, dLst, dTup, mkL_f, dIsi, isiD, dKd, dFrz, frz,
    opAdd, opZ0, opZ, eqW, opIs, isNonD, inW, inSeq, opIx, cLen, cInt, cMin2, cMax2, dBM, isTyD, mStarts, mEnds, iLst, iTupD, iScr, iTxt, iRg1, iRg2,
    vw_int, vw_str, vw_bl, vw_non, vw_lst, vw_tup, vw_dic, vw_obj, vw_scr, vw_pd, atI_c0, atI_c1, atI_c2, atI_c3, atI_c4, atI_m1s, atI_m1a, mk_cps, mk_length, mk_append, mk_inj, cutS_mk, mup_same,
    List.getElem?_cons_zero, List.getElem?_cons_succ, List.length_cons, List.length_nil, Option.some.injEq, exists_eq_left', exists_eq_left, exists_eq', true_and, and_true, Bool.false_xor, Bool.true_xor, ite_Qb, ite_Qo, ite_Vb, ite_Vo, Bool.true_and, Bool.false_and, Bool.and_true, Bool.and_false, Bool.true_or, Bool.false_or, strsOf_cons, strsOf_nil, strsOf_map, intsOf_cons, intsOf_nil, Option.map_some, startswith_mk, if_true, reduceIte, Bool.false_eq_true, decide_true, decide_false, reduceCtorEq, *]; walk_at "dl_fin"))
local macro_rules | `(tactic| walk_at "dl") => `(tactic| first
  | (with_reducible refine i_seq ?_)
  | (refine v_asg (by walk_at "dl_ev") ?_)
  | (refine v_if (by walk_at "dl_ev") ?_)
  | (refine v_ret (by walk_at "dl_ev") ?_)
  | (refine v_drop (by walk_at "dl_ev") ?_)
  | (refine v_for (by walk_at "dl_ev") ?_)
  | (refine v_sub (by walk_at "dl_ev") (by walk_at "dl_ev") ?_)
  | with_reducible refine i_op ?_
  | with_reducible refine i_var rfl ?_
  | with_reducible refine i_c ?_
  | with_reducible refine i_cons ?_
  | with_reducible refine i_nil ?_
  | with_reducible refine i_seq ?_
  | (with_reducible refine i_ixL (by walk_at "dl_vw") (by walk_at "dl_at") ?_)
  | (with_reducible refine i_CB ?_)
  | (with_reducible refine i_z0 ?_)
  | (with_reducible refine i_B ?_)
  | (with_reducible refine i_ifS ?_)
  | (with_reducible refine i_asg ?_)
  | (with_reducible refine i_dgName ?_; (try dsimp only [List.set_cons_zero, List.set_cons_succ]))
  | with_reducible refine i_call ?_
  | (with_reducible refine i_addI ?_)
  | (with_reducible refine i_addS (by walk_at "dl_sz") ?_)
  | (with_reducible refine i_eqS ?_)
  | (with_reducible refine i_eqI ?_)
  | (with_reducible refine i_ret ?_)
  | (with_reducible refine i_z (by walk_at "dl_cz") ?_)
  | (with_reducible refine i_setDm (by first | exact ixN_c0 | exact ixN_c1 | exact ixN_c2 | exact ixN_c3 | (with_unfolding_all rfl) | exact ixN_m1 (by walk_at "dl_sz") | exact ixN_nat (by walk_at "dl_sz")) ?_; (try dsimp only [List.set_cons_zero, List.set_cons_succ]))
  | (with_reducible refine i_dgSub ?_)
  | (with_reducible refine iteT ?_)
  | (with_reducible refine iteF ?_)
  | (with_reducible refine ite_xd (fun hb => ?_) (fun hb => ?_))
  | (with_reducible refine ite_d (fun hb => ?_) (fun hb => ?_))
  | (with_reducible refine i_BM ?_)
  | (with_reducible refine i_retN ?_)
  | (with_reducible refine i_drop ?_)
  | (with_reducible refine i_next ?_)
  | (with_reducible refine i_and ?_)
  | (with_reducible refine i_or ?_)
  | (with_reducible refine i_not ?_)
  | (with_reducible refine i_andV ?_)
  | (with_reducible refine i_orV ?_)
  | (with_reducible refine i_notV ?_)
  | (with_reducible refine i_if ?_)
  | (with_reducible refine i_neg ?_)
  | (with_reducible refine i_tru ?_)
  | (with_reducible refine i_truB ?_)
  | (with_reducible refine i_frz ?_)
  | (with_reducible refine i_isi ?_)
  | (with_reducible refine i_kd ?_)
  | (with_reducible refine i_yes ?_)
  | (with_reducible refine i_lst ?_)
  | (with_reducible refine i_tup ?_)
  | (with_reducible refine i_few (by walk_at "dl_sz") ?_)
  | (with_reducible refine i_fewT (by walk_at "dl_sz") ?_)
  | (with_reducible refine i_mkF ?_)
  | (with_reducible refine i_sl ?_)
  | (with_reducible refine i_noPart ?_)
  | (with_reducible refine i_part ?_)
  | (with_reducible refine i_for ?_)
  | (with_reducible refine i_forK ?_)
  | (with_reducible refine i_iLst ?_)
  | (with_reducible refine i_iTup ?_)
  | (with_reducible refine i_iScr ?_)
  | (with_reducible refine i_iTxt ?_)
  | (with_reducible refine i_setD (by walk_at "dl_mu") (by first | exact ixN_c0 | exact ixN_c1 | exact ixN_c2 | exact ixN_c3 | (with_unfolding_all rfl) | exact ixN_m1 (by walk_at "dl_sz") | exact ixN_nat (by walk_at "dl_sz")) ?_; (try dsimp only [List.set_cons_zero, List.set_cons_succ]))
  | (with_reducible refine i_dgTup (by walk_at "dl_vw") rfl ?_)
  | (with_reducible refine i_dgCons ?_)
  | (with_reducible refine i_dgNil ?_)
  | (with_reducible refine i_aug rfl ?_)
  | (with_reducible refine i_rng1 ?_)
  | (with_reducible refine i_rng2 ?_)
  | (with_reducible refine i_eqB ?_)
  | (with_reducible refine i_isN ?_)
  | (with_reducible refine i_int ?_)
  | (with_reducible refine i_lenS (by walk_at "dl_sz") ?_)
  | (with_reducible refine i_lenL (by walk_at "dl_vw") ?_)
  | (with_reducible refine i_ixT (by walk_at "dl_vw") (by walk_at "dl_at") ?_)
  | (with_reducible refine i_appendm (by walk_at "dl_sz") ?_)
  | (with_reducible refine i_append (by walk_at "dl_mu") (by walk_at "dl_sz") ?_)
  | (with_reducible refine i_frzL (by walk_at "dl_mu") ?_)
  | (with_reducible refine i_endF (by walk_at "dl_mu") ?_)
  | (with_reducible refine i_slL (by walk_at "dl_vw") ?_)
  | (with_reducible refine i_slS (by walk_at "dl_sz") ?_)
  | (with_reducible refine i_listL (by walk_at "dl_vw") ?_)
  | (with_reducible refine i_listT (by walk_at "dl_vw") ?_)
  | (with_reducible refine i_lc ?_)
  | (with_reducible refine ite_xn (fun hb => ?_) (fun hb => ?_))
  | (with_reducible refine ite_nd (fun hb => ?_) (fun hb => ?_))
  | (with_reducible refine ite_b (fun hb => ?_) (fun hb => ?_))
  | (with_reducible refine ⟨True.intro, ?_⟩)
  | (dsimp only [vw_int, vw_str, vw_bl, vw_non, vw_lst, vw_tup, isTyD]))
set_option hygiene false
local macro_rules | `(tactic| walk_at "s") => `(tactic| (refine seq_hide ?_; intro N hN))
set_option hygiene true
def topS (i : Nat) : Stmt := PySem.Challenge.pw_fieldsandcalls_k03_whole_chances_of_two.main.body.getD i (.Pass ⟨0, 0, 0, 0⟩)
abbrev Glob_LETTERS (K : PySem.W.Frag) (w : World) (mg : Str → Option Value) : Prop := GlobS "abcdefghijklmnopqrstuvwxyz" "LETTERS" mg
abbrev Glob_MARKS (K : PySem.W.Frag) (w : World) (mg : Str → Option Value) : Prop := GlobS ".^" "MARKS" mg
abbrev Glob_MOST_LETTERS (K : PySem.W.Frag) (w : World) (mg : Str → Option Value) : Prop := GlobI 8 "MOST_LETTERS" mg
abbrev Glob_MOST_STEPS (K : PySem.W.Frag) (w : World) (mg : Str → Option Value) : Prop := GlobI 6 "MOST_STEPS" mg
def tb_INVERSES (s : Str) : Option Str := if s = "same" then some "same" else if s = "over" then some "under" else if s = "overbox" then some "underbox" else if s = "under" then some "over" else if s = "underbox" then some "overbox" else if s = "apart" then some "apart" else none
abbrev Glob_INVERSES (K : PySem.W.Frag) (w : World) (mg : Str → Option Value) : Prop := GlobD K w tb_INVERSES "INVERSES" mg
abbrev Glob_BEGINNINGS (K : PySem.W.Frag) (w : World) (mg : Str → Option Value) : Prop := GlobS ".^[" "BEGINNINGS" mg
abbrev Glob_FIGURES (K : PySem.W.Frag) (w : World) (mg : Str → Option Value) : Prop := GlobS "0123456789" "FIGURES" mg
abbrev Glob_MOST_SPOT_LETTERS (K : PySem.W.Frag) (w : World) (mg : Str → Option Value) : Prop := GlobI 7 "MOST_SPOT_LETTERS" mg
abbrev Glob_MOST_FIGURES (K : PySem.W.Frag) (w : World) (mg : Str → Option Value) : Prop := GlobI 4 "MOST_FIGURES" mg
def tb_STANDING_WORDS (s : Str) : Option Str := if s = "same" then some "same" else if s = "over" then some "around" else if s = "overbox" then some "around" else if s = "under" then some "within" else if s = "underbox" then some "within" else if s = "apart" then some "apart" else none
abbrev Glob_STANDING_WORDS (K : PySem.W.Frag) (w : World) (mg : Str → Option Value) : Prop := GlobD K w tb_STANDING_WORDS "STANDING_WORDS" mg
def sp_is_cell_step : DSp := fun ds μ Q _ => ∃ l : CL, ds = [.str (mk l)] ∧ l ≠ [] ∧ l.length ≤ 1000 ∧ Q (.bl (isCel l)) μ
theorem len_is_cell_step : ∀ ds μ Q E, sp_is_cell_step ds μ Q E → ds.length = 1 := by
  rintro ds μ Q E ⟨l, rfl, _⟩; rfl
@[simp ↓] theorem e_is_cell_step {l : CL} {μ : Mu} {Q : QD} {E : XDt} : sp_is_cell_step [.str (mk l)] μ Q E = (l ≠ [] ∧ l.length ≤ 1000 ∧ Q (.bl (isCel l)) μ) := propext ⟨fun ⟨m, e, h⟩ => by simp only [List.cons.injEq, D.str.injEq, mk_inj, and_true] at e; subst e; exact h, fun h => ⟨l, rfl, h⟩⟩
abbrev s_is_cell_step : Stmt := topS 24
theorem sc_is_cell_step : FnScope ["step"] ["step"] (defScope s_is_cell_step) := ⟨rfl, rfl, rfl, by decide +kernel, rfl, by decide +kernel, by decide +kernel⟩
set_option maxHeartbeats 1000000 in
theorem ok_is_cell_step {P : Program} {w : World} {K : PySem.W.Frag} {mg : Str → Option Value} {base : Heap} {f : Addr} {fd : FuncData}  (D0 : DefAt K mg "is_cell_step" s_is_cell_step ["step"] f fd)  : FnOk P w K mg base CX0 (1) f fd ["step"] (toSp K sp_is_cell_step) := by
  refine fn_ok D0.F sc_is_cell_step (len_is_cell_step) fun B cdv A outer s H E hr => ⟨_, _, dss_one (ds_ret (de_cmp (do_eq hr) (de_ix (dv 0) (de_int)) (de_str))), ?_⟩
  rintro ds μ Q EE ⟨l, rfl, h0, hl, q⟩
  obtain ⟨c, r, rfl⟩ := List.exists_cons_of_ne_nil h0
  have e91 : ("[" : Str) = mk [91] := by decide +kernel
  walk_at "dl0"
  simp [e91]
  simp at hl
  refine ⟨by rw [szl]; omega, ?_⟩
  have e : isCel (c :: r) = decide (c = 91) := by rw [Bool.eq_iff_iff]; simp [isCel]
  rw [e] at q
  exact q
def sp_is_cell_number : DSp := fun ds μ Q _ => ∃ l : CL, ds = [.str (mk l)] ∧ l.length ≤ 1000 ∧ Q (.bl (numB l)) μ
theorem len_is_cell_number : ∀ ds μ Q E, sp_is_cell_number ds μ Q E → ds.length = 1 := by
  rintro ds μ Q E ⟨l, rfl, _⟩; rfl
@[simp ↓] theorem e_is_cell_number {l : CL} {μ : Mu} {Q : QD} {E : XDt} : sp_is_cell_number [.str (mk l)] μ Q E = (l.length ≤ 1000 ∧ Q (.bl (numB l)) μ) := propext ⟨fun ⟨m, e, h⟩ => by simp only [List.cons.injEq, D.str.injEq, mk_inj, and_true] at e; subst e; exact h, fun h => ⟨l, rfl, h⟩⟩
abbrev s_is_cell_number : Stmt := topS 19
theorem sc_is_cell_number : FnScope ["text", "figure"] ["text"] (defScope s_is_cell_number) := ⟨rfl, rfl, rfl, by decide +kernel, rfl, by decide +kernel, by decide +kernel⟩
set_option maxHeartbeats 1000000 in
theorem ok_is_cell_number {P : Program} {w : World} {K : PySem.W.Frag} {mg : Str → Option Value} {base : Heap} {f : Addr} {fd : FuncData}  (D0 : DefAt K mg "is_cell_number" s_is_cell_number ["text"] f fd) (z_len : mg "len" = none) (z_all : mg "all" = none) (g_MOST_FIGURES : Glob_MOST_FIGURES K w mg) (g_FIGURES : Glob_FIGURES K w mg) : FnOk P w K mg base CX0 (1) f fd ["text"] (toSp K sp_is_cell_number) := by
  obtain ⟨t_MOST_FIGURES, m_MOST_FIGURES⟩ := g_MOST_FIGURES
  obtain ⟨t_FIGURES, m_FIGURES⟩ := g_FIGURES
  refine fn_ok D0.F sc_is_cell_number (len_is_cell_number) fun B cdv A outer s H E hr => ⟨_, _, dss_cons (ds_if (DW.dt (dw_or (dt_cmp (do_eq hr) (dv 0) (de_str)) (dw_or1 (dt_cmp do_gt (de_callB dc_len (by rfl) z_len (by decide +kernel) (da_cons (dv 0) (da_nil))) (de_glob (v := .int 4) (d := .int 4) (by rfl) m_MOST_FIGURES ⟨_, rfl⟩ (fun _ => .int _))))))
      (dss_one (ds_ret (de_bl)))
      (dss_nil))
    (dss_cons (ds_if (DW.dt (dw_and (dt_cmp (do_eq hr) (de_ix (dv 0) (de_int)) (de_str)) (dw_and1 (dt_cmp do_gt (de_callB dc_len (by rfl) z_len (by decide +kernel) (da_cons (dv 0) (da_nil))) (de_int)))))
      (dss_one (ds_ret (de_bl)))
      (dss_nil))
    (dss_one (ds_ret (de_callB (dc_all rfl) (by rfl) z_all (by decide +kernel) (da_cons (de_lcA false (own := [("figure", 1)]) rfl sc_is_cell_number.nd (di_str (dv 0)) (blkOk_by (N := ["text", "figure"]) (sc := defScope s_is_cell_number) (by decide +kernel)) (fun _ _ _ _ _ => dg_name 1 sc_is_cell_number.nd) (keep_name (by decide)) (fun _ _ _ _ _ => dts_nil) (fun _ _ _ _ _ => de_cmp do_in (dv 1) (de_glob (v := .str "0123456789") (d := .str "0123456789") (by rfl) m_FIGURES ⟨_, rfl⟩ (fun _ => .str _)) (by rfl))) (da_nil)))))), ?_⟩
  rintro ds μ Q EE ⟨l, rfl, hl, q⟩
  have e0 : ("" : Str) = mk [] := by decide +kernel
  have e1 : ("0" : Str) = mk [48] := by decide +kernel
  walk_at "dl0"
  walk_at "s"
  simp [e0]
  refine iteI (fun h => ?_) (fun h => ⟨sz_le (by omega), iteI (fun h8 => ?_) (fun h8 => ?_)⟩)
  · subst h; exact q
  · have : numB l = false := by unfold numB; rw [show decide (l.length ≤ 4) = false by simp; omega]; simp
    rw [this] at q; exact q
  · obtain ⟨x, r, rfl⟩ := List.exists_cons_of_ne_nil h
    subst hN
    walk_at "s"
    simp [e1]
    simp at hl h8
    have hn : numB (x :: r) = ((!(x == 48) || decide ((x :: r).length = 1)) && ((x :: r).map fun c => decide (48 ≤ c ∧ c ≤ 57)).all id) := by
      unfold numB
      rw [show decide ((x :: r).length ≤ 4) = true by simp; omega]
      simp [List.all_map, Function.comp_def]
    have rest : (x = 48 → r = []) → N [some (.str (mk (x :: r))), none] μ := by
      intro hx
      have e : (!(x == 48) || decide ((x :: r).length = 1)) = true := by
        by_cases k : x = 48
        · simp [hx k]
        · simp [k]
      rw [hn, e, Bool.true_and] at q
      have hzl : (x :: r).length ≤ 1000 := by simp; omega
      subst hN
      clear hn e hx h
      generalize x :: r = z at q hzl ⊢
      simp
      intro p hp
      refine comp_map (fun c : Nat => D.str (mk [c])) (fun c => .bl (decide (48 ≤ c ∧ c ≤ 57))) (by simp; omega) (fun c hc acc M ha hM => ?_) ?_
      · simp [digit_in]
        exact ⟨sz_lt ha, by simpa using hM⟩
      · simp only [mup_same, List.nil_append, blsOf_all, mdel_mup hp]
        simpa using q
    refine ⟨by rw [szl]; omega, iteI (fun h0 => ⟨by rw [szl]; omega, iteI (fun h1 => ?_) (fun h1 => ?_)⟩) (fun h0 => rest fun h => (h0 h).elim)⟩
    · have : numB (x :: r) = false := by
        rw [hn, h0]
        cases r with
        | nil => simp at h1
        | cons y r => simp
      rw [this] at q; exact q
    · refine rest fun _ => ?_
      cases r with
      | nil => rfl
      | cons y r => simp at h1; omega
def sp_is_known_cell : DSp := fun ds μ Q _ => ∃ (nm : CL → Prop) (l : CL), ds = [.str (mk l)] ∧ StepIn nm l ∧ Q (.bl (isKn l)) μ
theorem len_is_known_cell : ∀ ds μ Q E, sp_is_known_cell ds μ Q E → ds.length = 1 := by
  rintro ds μ Q E ⟨nm, l, rfl, _⟩; rfl
theorem e_is_known_cell {nm : CL → Prop} {l : CL} {μ : Mu} {Q : QD} {E : XDt} (h : StepIn nm l) (q : Q (.bl (isKn l)) μ) : sp_is_known_cell [.str (mk l)] μ Q E := ⟨nm, l, rfl, h, q⟩
abbrev s_is_known_cell : Stmt := topS 25
theorem sc_is_known_cell : FnScope ["step"] ["step"] (defScope s_is_known_cell) := ⟨rfl, rfl, rfl, by decide +kernel, rfl, by decide +kernel, by decide +kernel⟩
set_option maxHeartbeats 1000000 in
theorem ok_is_known_cell {P : Program} {w : World} {K : PySem.W.Frag} {mg : Str → Option Value} {base : Heap} {f : Addr} {fd : FuncData}  (D0 : DefAt K mg "is_known_cell" s_is_known_cell ["step"] f fd) (c_is_cell_number : Called P w K mg base 1 "is_cell_number" ["text"] sp_is_cell_number) (c_is_cell_step : Called P w K mg base 1 "is_cell_step" ["step"] sp_is_cell_step) : FnOk P w K mg base CX0 (2) f fd ["step"] (toSp K sp_is_known_cell) := by
  obtain ⟨f_is_cell_number, d_is_cell_number, m_is_cell_number, k_is_cell_number, b_is_cell_number, F_is_cell_number⟩ := c_is_cell_number
  obtain ⟨f_is_cell_step, d_is_cell_step, m_is_cell_step, k_is_cell_step, b_is_cell_step, F_is_cell_step⟩ := c_is_cell_step
  refine fn_ok D0.F sc_is_known_cell (len_is_known_cell) fun B cdv A outer s H E hr => ⟨_, _, dss_one (ds_ret (de_and (de_call F_is_cell_step (hr.mono (by decide)) m_is_cell_step k_is_cell_step b_is_cell_step (da_cons (dv 0) (da_nil))) (de_one (de_call F_is_cell_number (hr.mono (by decide)) m_is_cell_number k_is_cell_number b_is_cell_number (da_cons (de_sl false (dv 0) (do_some (de_int)) (do_some (de_neg (de_int)))) (da_nil)))))), ?_⟩
  rintro ds μ Q EE ⟨nm, l, rfl, hs, q⟩
  have hn : l ≠ [] := by obtain ⟨_, _, rfl, _⟩ := hs.shape; simp
  have h9 : l.length ≤ 9 := by obtain ⟨_, _, _, _, _, _, h⟩ := hs.shape; exact h
  walk_at "dl0"
  simp
  refine ⟨hn, by omega, ?_⟩
  unfold isKn at q
  cases hc : isCel l with
  | false => simpa [hc] using q
  | true =>
    obtain ⟨n, x, r, e1, e2, e3, e4⟩ := hs.kn hc
    subst e1
    rw [hc, Bool.true_and] at q
    simp [innerC] at q ⊢
    simp at h9
    exact ⟨by rw [szl]; omega, by omega, q⟩
def eqsD (E : Eqs) : D := .lst (E.map fun p => .tup [.str (mk p.1), .str (mk p.2)])
def sp_asked_equations : DSp := fun ds μ Q _ => ∃ (nm : CL → Prop) (a b : List CL), ds = [.lst (a.map fun p => .str (mk p)), .lst (b.map fun p => .str (mk p))] ∧ a.length ≤ 6 ∧ b.length ≤ 6 ∧ (∀ s ∈ a, StepIn nm s) ∧ (∀ s ∈ b, StepIn nm s) ∧ Q (match askE a b with | none => .non | some E => eqsD E) μ
theorem len_asked_equations : ∀ ds μ Q E, sp_asked_equations ds μ Q E → ds.length = 2 := by
  rintro ds μ Q E ⟨nm, a, b, rfl, _⟩; rfl
abbrev s_asked_equations : Stmt := topS 29
theorem sc_asked_equations : FnScope ["first", "second", "equations", "one", "other"] ["first", "second"] (defScope s_asked_equations) := ⟨rfl, rfl, rfl, by decide +kernel, rfl, by decide +kernel, by decide +kernel⟩
set_option maxHeartbeats 1000000 in
theorem ok_asked_equations {P : Program} {w : World} {K : PySem.W.Frag} {mg : Str → Option Value} {base : Heap} {f : Addr} {fd : FuncData}  (D0 : DefAt K mg "asked_equations" s_asked_equations ["first", "second"] f fd) (c_is_cell_step : Called P w K mg base 1 "is_cell_step" ["step"] sp_is_cell_step) (c_is_known_cell : Called P w K mg base 2 "is_known_cell" ["step"] sp_is_known_cell) (z_zip : mg "zip" = none) : FnOk P w K mg base CX0 (3) f fd ["first", "second"] (toSp K sp_asked_equations) := by
  obtain ⟨f_is_cell_step, d_is_cell_step, m_is_cell_step, k_is_cell_step, b_is_cell_step, F_is_cell_step⟩ := c_is_cell_step
  obtain ⟨f_is_known_cell, d_is_known_cell, m_is_known_cell, k_is_known_cell, b_is_known_cell, F_is_known_cell⟩ := c_is_known_cell
  refine fn_okF D0.F sc_asked_equations (len_asked_equations) fun B cdv A outer s H E hr => ⟨_, _, dss_cons (ds_set 2 sc_asked_equations.nd (de_lst true (da_nil)))
    (dss_cons (ds_for PassesOwn.never rfl (di_zip z_zip (da_cons (dv 0) (da_cons (dv 1) (da_nil)))) (dg_tup (n := 2) rfl (dgs_cons (dg_name 3 sc_asked_equations.nd) (dgs_cons (dg_name 4 sc_asked_equations.nd) (dgs_nil))))
      (dss_one (ds_if (dt_cmp (do_ne hr) (dv 3) (dv 4))
        (dss_cons (ds_if (DW.dt (dw_or (dt_not (dt_tru (de_call F_is_cell_step (hr.mono (by decide)) m_is_cell_step k_is_cell_step b_is_cell_step (da_cons (dv 3) (da_nil))))) (dw_or1 (dt_not (dt_tru (de_call F_is_cell_step (hr.mono (by decide)) m_is_cell_step k_is_cell_step b_is_cell_step (da_cons (dv 4) (da_nil))))))))
          (dss_one (ds_ret (de_non)))
          (dss_nil))
        (dss_cons (ds_if (DW.dt (dw_and (dt_tru (de_call F_is_known_cell (hr.mono (by decide)) m_is_known_cell k_is_known_cell b_is_known_cell (da_cons (dv 3) (da_nil)))) (dw_and1 (dt_tru (de_call F_is_known_cell (hr.mono (by decide)) m_is_known_cell k_is_known_cell b_is_known_cell (da_cons (dv 4) (da_nil)))))))
          (dss_one (ds_ret (de_non)))
          (dss_nil))
        (dss_one (ds_expr (de_bm PySem.F.plainAttrs_list PySem.F.slot_list_append PySem.F.type_list_append dm_append (dv 2) (da_cons (de_tup (da_cons (dv 3) (da_cons (dv 4) (da_nil)))) (da_nil)))))))
        (dss_nil))))
    (dss_one (ds_ret (de_frz (dv 2))))), ?_⟩
  rintro ds μ Q EE ⟨nm, a, b, rfl, ha, hb, hsa, hsb, q⟩
  walk_at "dl0"
  walk_at "s"
  simp
  intro p hp
  subst hN
  walk_at "s"
  refine for_hide fun L hL => ?_
  simp
  subst hL
  have fs : ∀ k, Sub μ (mup μ p k) := fun k => (Sub.refl μ).mup hp
  refine loop_it (fun xs ρ μ' => ∃ (E : Eqs) (a' b' : List CL) (e3 e4 : Option D), xs = List.zipWith (fun a b => D.tup [.str (mk a), .str (mk b)]) a' b' ∧ ρ = [some (.lst (a.map fun p => .str (mk p))), some (.lst (b.map fun p => .str (mk p))), some (.ptr p), e3, e4] ∧ μ' = mup μ p (.lst (E.map fun p => .tup [.str (mk p.1), .str (mk p.2)])) ∧ askE a b = (askE a' b').map (E ++ ·) ∧ E.length + a'.length ≤ a.length ∧ (∀ s ∈ a', StepIn nm s) ∧ (∀ s ∈ b', StepIn nm s)) ⟨[], a, b, none, none, rfl, rfl, rfl, by simp, by simp, hsa, hsb⟩ ?_ ?_
  · rintro ρ μ' ⟨E, a', b', e3, e4, e, rfl, rfl, hc, _⟩
    have h0 : askE a' b' = some [] := by
      cases a' with
      | nil => rfl
      | cons x r =>
        cases b' with
        | nil => rfl
        | cons y t => simp at e
    rw [hc, h0] at q
    show N _ _
    subst hN
    simp [mdel_mup hp]
    exact Fg.here (by simpa [eqsD] using q)
  · rintro x r ρ μ' M ⟨E, a', b', e3, e4, e, rfl, rfl, hc, hE, hsa', hsb'⟩ hM
    cases a' with
    | nil => simp at e
    | cons s a' =>
    cases b' with
    | nil => simp at e
    | cons t b' =>
    simp only [List.zipWith_cons_cons, List.cons.injEq] at e
    obtain ⟨rfl, rfl⟩ := e
    have hs := hsa' s (by simp)
    have ht := hsb' t (by simp)
    have hs' : ∀ u ∈ a', StepIn nm u := fun u h => hsa' u (List.mem_cons_of_mem _ h)
    have ht' : ∀ u ∈ b', StepIn nm u := fun u h => hsb' u (List.mem_cons_of_mem _ h)
    have hsn : s ≠ [] := by obtain ⟨_, _, rfl, _⟩ := hs.shape; simp
    have htn : t ≠ [] := by obtain ⟨_, _, rfl, _⟩ := ht.shape; simp
    have hs9 : s.length ≤ 9 := by obtain ⟨_, _, _, _, _, _, h⟩ := hs.shape; exact h
    have ht9 : t.length ≤ 9 := by obtain ⟨_, _, _, _, _, _, h⟩ := ht.shape; exact h
    simp only [List.length_cons] at hE
    have no : askE (s :: a') (t :: b') = none → Fg (Q .non) (mup μ p (.lst (E.map fun p => .tup [.str (mk p.1), .str (mk p.2)]))) := fun h => by
      rw [hc, h] at q
      exact Fg.to q (fs _)
    refine tg_hide fun N3 hN3 => ?_
    simp
    subst hN3
    refine if_hide fun N2 hN2 => ?_
    simp
    refine iteI (fun he => ?_) (fun hne => ?_)
    · subst he
      exact hM _ _ ⟨E, a', b', _, _, rfl, rfl, rfl, by rw [hc, askE, if_pos rfl], by omega, hs', ht'⟩
    · subst hN2
      walk_at "s"
      simp
      refine ⟨hsn, by omega, iteI (fun hcs => ⟨htn, by omega, iteI (fun hct => ?_) (fun hct => ?_)⟩) (fun hcs => ?_)⟩
      · subst hN
        walk_at "s"
        have last : ¬ (isKn s = true ∧ isKn t = true) → N [some (.lst (a.map fun p => .str (mk p))), some (.lst (b.map fun p => .str (mk p))), some (.ptr p), some (.str (mk s)), some (.str (mk t))] (mup μ p (.lst (E.map fun p => .tup [.str (mk p.1), .str (mk p.2)]))) := fun hk => by
          subst hN
          simp
          refine ⟨sz_le (by omega), sz_lt (by omega), hM _ _ ⟨E ++ [(s, t)], a', b', _, _, rfl, rfl, by simp, ?_, by simp; omega, hs', ht'⟩⟩
          rw [hc, askE, if_neg hne, if_pos ⟨hcs, hct, hk⟩]
          cases askE a' b' <;> simp
        simp
        refine e_is_known_cell hs ?_
        simp
        refine iteI (fun hk1 => ?_) (fun hk1 => last fun h => hk1 h.1)
        refine e_is_known_cell ht ?_
        simp
        refine iteI (fun hk2 => ?_) (fun hk2 => last fun h => hk2 h.2)
        exact no (by rw [askE, if_neg hne, if_neg (fun h => h.2.2 ⟨hk1, hk2⟩)])
      · exact no (by rw [askE, if_neg hne, if_neg (fun h => hct h.2.1)])
      · exact no (by rw [askE, if_neg hne, if_neg (fun h => hcs h.1)])
def sp_can_be_kept : DSp := fun ds μ Q _ => ∃ (nm : CL → Prop) (E : Eqs), ds = [eqsD E] ∧ E.length ≤ 6 ∧ (∀ p ∈ E, CelIn nm p.1 ∧ CelIn nm p.2) ∧ Q (.bl (keepL [] E).isSome) μ
theorem len_can_be_kept : ∀ ds μ Q E, sp_can_be_kept ds μ Q E → ds.length = 1 := by
  rintro ds μ Q E ⟨nm, E', rfl, _⟩; rfl
abbrev s_can_be_kept : Stmt := topS 30
theorem sc_can_be_kept : FnScope ["equations", "leaders", "one", "other", "first", "second", "kept", "dropped", "step"] ["equations"] (defScope s_can_be_kept) := ⟨rfl, rfl, rfl, by decide +kernel, rfl, by decide +kernel, by decide +kernel⟩
set_option maxHeartbeats 1000000 in
theorem ok_can_be_kept {P : Program} {w : World} {K : PySem.W.Frag} {mg : Str → Option Value} {base : Heap} {f : Addr} {fd : FuncData}  (D0 : DefAt K mg "can_be_kept" s_can_be_kept ["equations"] f fd) (c_is_known_cell : Called P w K mg base 2 "is_known_cell" ["step"] sp_is_known_cell) (z_list : mg "list" = none) : FnOk P w K mg base CX0 (3) f fd ["equations"] (toSp K sp_can_be_kept) := by
  obtain ⟨f_is_known_cell, d_is_known_cell, m_is_known_cell, k_is_known_cell, b_is_known_cell, F_is_known_cell⟩ := c_is_known_cell
  refine fn_okF D0.F sc_can_be_kept (len_can_be_kept) fun B cdv A outer s H E hr => ⟨_, _, dss_cons (ds_set 1 sc_can_be_kept.nd (de_dnew true))
    (dss_cons (ds_for PassesOwn.never rfl (di_list (dv 0)) (dg_tup (n := 2) rfl (dgs_cons (dg_name 2 sc_can_be_kept.nd) (dgs_cons (dg_name 3 sc_can_be_kept.nd) (dgs_nil))))
      (dss_cons (ds_set 4 sc_can_be_kept.nd (de_dsetd (dv 1) (dv 2) (dv 2)))
      (dss_cons (ds_set 5 sc_can_be_kept.nd (de_dsetd (dv 1) (dv 3) (dv 3)))
      (dss_one (ds_if (dt_cmp (do_ne hr) (dv 4) (dv 5))
        (dss_cons (ds_if (DW.dt (dw_and (dt_tru (de_call F_is_known_cell (hr.mono (by decide)) m_is_known_cell k_is_known_cell b_is_known_cell (da_cons (dv 4) (da_nil)))) (dw_and1 (dt_tru (de_call F_is_known_cell (hr.mono (by decide)) m_is_known_cell k_is_known_cell b_is_known_cell (da_cons (dv 5) (da_nil)))))))
          (dss_one (ds_ret (de_bl)))
          (dss_nil))
        (dss_cons (ds_set 6 sc_can_be_kept.nd (de_ifExp (dt_tru (de_call F_is_known_cell (hr.mono (by decide)) m_is_known_cell k_is_known_cell b_is_known_cell (da_cons (dv 4) (da_nil)))) (dv 4) (dv 5)))
        (dss_cons (ds_set 7 sc_can_be_kept.nd (de_ifExp (dt_tru (de_call F_is_known_cell (hr.mono (by decide)) m_is_known_cell k_is_known_cell b_is_known_cell (da_cons (dv 4) (da_nil)))) (dv 5) (dv 4)))
        (dss_one (ds_for PassesOwn.never rfl (di_list (de_callTy (dc_listK false) (by rfl) z_list (by decide +kernel) (da_cons (dv 1) (da_nil)))) (dg_name 8 sc_can_be_kept.nd)
          (dss_one (ds_if (dt_cmp (do_eq hr) (de_dget hr (dv 1) (dv 8)) (dv 7))
            (dss_one (ds_dput hr (dv 1) (dv 8) (dv 6)))
            (dss_nil))))))))
        (dss_nil))))))
    (dss_one (ds_ret (de_bl)))), ?_⟩
  rintro ds μ Q EE ⟨nm, E, rfl, hE, hc, q⟩
  unfold eqsD
  walk_at "dl0"
  walk_at "s"
  simp
  intro a ha
  subst hN
  walk_at "s"
  refine for_hide fun L hL => ?_
  simp
  subst hL
  have fs : ∀ k, Sub μ (mup μ a k) := fun k => (Sub.refl μ).mup ha
  have D0_ : dicL [] = [] := rfl
  refine loop_it (fun xs ρ μ' => ∃ (F : Eqs) (L : Lead) (e2 e3 e4 e5 e6 e7 e8 : Option D), xs = F.map (fun p => D.tup [.str (mk p.1), .str (mk p.2)]) ∧ ρ = [some (.lst (E.map fun p => .tup [.str (mk p.1), .str (mk p.2)])), some (.ptr a), e2, e3, e4, e5, e6, e7, e8] ∧ μ' = mup μ a (.dic (dicL L)) ∧ keepL [] E = keepL L F ∧ (keysL L).Nodup ∧ AllCel nm L ∧ L.length + 2 * F.length ≤ 12 ∧ (∀ p ∈ F, CelIn nm p.1 ∧ CelIn nm p.2)) ⟨E, [], none, none, none, none, none, none, none, rfl, rfl, rfl, rfl, by simp [keysL], by intro p hp; simp at hp, by simp; omega, hc⟩ ?_ ?_
  · rintro ρ μ' ⟨F, L, e2, e3, e4, e5, e6, e7, e8, e, rfl, rfl, hk, _⟩
    have : F = [] := by simpa using e.symm
    subst this
    rw [hk] at q
    show N _ _
    subst hN
    simp
    exact Fg.to q (fs _)
  · rintro x r ρ μ' M ⟨F, L, e2, e3, e4, e5, e6, e7, e8, e, rfl, rfl, hk, hnd, hal, hlen, hF⟩ hM
    cases F with
    | nil => simp at e
    | cons pq F =>
    obtain ⟨s, t⟩ := pq
    simp only [List.map_cons, List.cons.injEq] at e
    obtain ⟨rfl, rfl⟩ := e
    obtain ⟨hs, ht⟩ := hF (s, t) (by simp)
    have hF' : ∀ p ∈ F, CelIn nm p.1 ∧ CelIn nm p.2 := fun p hp => hF p (List.mem_cons_of_mem _ hp)
    simp only [List.length_cons] at hlen
    have l1 := setd_len (L := L) (x := s)
    have l2 := setd_len (L := setdL L s) (x := t)
    refine tg_hide fun N3 hN3 => ?_
    simp
    subst hN3
    walk_at "s"
    simp [keyD_str, val_dicL, dicL_len]
    have H1 : ∀ v : CL, v = (getL L s).getD s → N [some (.lst (E.map fun p => .tup [.str (mk p.1), .str (mk p.2)])), some (.ptr a), some (.str (mk s)), some (.str (mk t)), some (.str (mk v)), e5, e6, e7, e8] (mup μ a (.dic (dicL (setdL L s)))) := by
      intro first hf
      subst hN
      walk_at "s"
      simp [keyD_str, val_dicL, dicL_len]
      have H2 : ∀ v : CL, v = (getL (setdL L s) t).getD t → N [some (.lst (E.map fun p => .tup [.str (mk p.1), .str (mk p.2)])), some (.ptr a), some (.str (mk s)), some (.str (mk t)), some (.str (mk first)), some (.str (mk v)), e6, e7, e8] (mup μ a (.dic (dicL (setdL (setdL L s) t)))) := by
        intro second hg
        have cf : CelIn nm first := by
          rw [hf]
          cases h : getL L s with
          | none => exact hs
          | some v => exact hal.get h
        have al1 := hal.setd hs
        have cg : CelIn nm second := by
          rw [hg]
          cases h : getL (setdL L s) t with
          | none => exact ht
          | some v => exact al1.get h
        have al2 := al1.setd ht
        have nd2 := keys_setd (x := t) (keys_setd (x := s) hnd)
        have hst : stepL L s t = if first = second then some (setdL (setdL L s) t) else if isKn first = true ∧ isKn second = true then none else some (replL (setdL (setdL L s) t) (if isKn first = true then first else second) (if isKn first = true then second else first)) := by
          unfold stepL; rw [← hf, ← hg]
        rw [keepL, hst] at hk
        clear hst hf hg hnd hal al1
        generalize setdL (setdL L s) t = L2 at *
        subst hN
        refine if_hide fun N4 hN4 => ?_
        simp
        refine iteI (fun he => ?_) (fun hne => ?_)
        · rw [if_pos he] at hk
          exact hM _ _ ⟨F, L2, _, _, _, _, e6, e7, e8, rfl, rfl, rfl, hk, nd2, al2, by omega, hF'⟩
        · rw [if_neg hne] at hk
          subst hN4
          walk_at "s"
          have H3 : ¬ (isKn first = true ∧ isKn second = true) → N [some (.lst (E.map fun p => .tup [.str (mk p.1), .str (mk p.2)])), some (.ptr a), some (.str (mk s)), some (.str (mk t)), some (.str (mk first)), some (.str (mk second)), e6, e7, e8] (mup μ a (.dic (dicL L2))) := by
            intro hnk
            rw [if_neg hnk] at hk
            simp only at hk
            subst hN
            walk_at "s"
            simp
            refine e_is_known_cell cf.1 ?_
            simp
            have ck : CelIn nm (if isKn first = true then first else second) := by
              split
              · exact cf
              · exact cg
            suffices H4 : ∀ kept : CL, kept = (if isKn first = true then first else second) → N [some (.lst (E.map fun p => .tup [.str (mk p.1), .str (mk p.2)])), some (.ptr a), some (.str (mk s)), some (.str (mk t)), some (.str (mk first)), some (.str (mk second)), some (.str (mk kept)), e7, e8] (mup μ a (.dic (dicL L2))) from iteI (fun h => H4 _ (by rw [if_pos h])) (fun h => H4 _ (by rw [if_neg h]))
            intro kept hkept
            rw [← hkept] at hk ck
            subst hN
            walk_at "s"
            simp
            refine e_is_known_cell cf.1 ?_
            simp
            suffices H5 : ∀ dropped : CL, dropped = (if isKn first = true then second else first) → N [some (.lst (E.map fun p => .tup [.str (mk p.1), .str (mk p.2)])), some (.ptr a), some (.str (mk s)), some (.str (mk t)), some (.str (mk first)), some (.str (mk second)), some (.str (mk kept)), some (.str (mk dropped)), e8] (mup μ a (.dic (dicL L2))) from iteI (fun h => H5 _ (by rw [if_pos h])) (fun h => H5 _ (by rw [if_neg h]))
            intro dropped hdr
            rw [← hdr] at hk
            subst hN
            refine for_hide fun L hL => ?_
            simp
            subst hL
            rw [show (dicL L2).map (fun kv => unkey kv.1) = L2.map fun p => D.str (mk p.1) by simp [dicL, unkey]]
            refine loop_it (fun xs ρ μ' => ∃ (A B : Lead) (e8 : Option D), L2 = A ++ B ∧ xs = B.map (fun p => D.str (mk p.1)) ∧ ρ = [some (.lst (E.map fun p => .tup [.str (mk p.1), .str (mk p.2)])), some (.ptr a), some (.str (mk s)), some (.str (mk t)), some (.str (mk first)), some (.str (mk second)), some (.str (mk kept)), some (.str (mk dropped)), e8] ∧ μ' = mup μ a (.dic (dicL (replL A kept dropped ++ B)))) ⟨[], L2, e8, rfl, rfl, rfl, rfl⟩ ?_ ?_
            · rintro ρ μ' ⟨A, B, e8, eAB, e, rfl, rfl⟩
              have : B = [] := by simpa using e.symm
              subst this
              rw [List.append_nil] at eAB
              rw [List.append_nil]
              subst eAB
              exact hM _ _ ⟨F, replL L2 kept dropped, _, _, _, _, _, _, _, rfl, rfl, rfl, hk, by rw [keys_repl]; exact nd2, al2.repl ck, by unfold replL; rw [List.length_map]; omega, hF'⟩
            · rintro x r ρ μ' M2 ⟨A, B, e8, eAB, e, rfl, rfl⟩ hM2
              cases B with
              | nil => simp at e
              | cons p B =>
              obtain ⟨u, v⟩ := p
              simp only [List.map_cons, List.cons.injEq] at e
              obtain ⟨rfl, rfl⟩ := e
              rw [eAB] at nd2
              simp only [keysL, List.map_append, List.map_cons] at nd2
              rw [List.nodup_append] at nd2
              have n1 : u ∉ keysL (replL A kept dropped) := by
                rw [keys_repl]
                intro h
                exact nd2.2.2 u h u (by simp) rfl
              have n2 : u ∉ keysL B := (List.nodup_cons.mp nd2.2.1).1
              simp [keyD_str, val_dicL, get_mid n1, put_mid n1 n2, dicL_len]
              have hl2 : L2.length = A.length + (B.length + 1) := by rw [eAB]; simp
              have ra : replL (A ++ [(u, v)]) kept dropped = replL A kept dropped ++ [if v = dropped then (u, kept) else (u, v)] := by simp [replL]
              refine iteI (fun hv => ?_) (fun hv => ?_)
              · refine ⟨by unfold replL; rw [szl]; simp; omega, hM2 _ _ ⟨A ++ [(u, v)], B, _, by simp [eAB], rfl, rfl, ?_⟩⟩
                rw [ra, if_pos hv]; simp
              · refine hM2 _ _ ⟨A ++ [(u, v)], B, _, by simp [eAB], rfl, rfl, ?_⟩
                rw [ra, if_neg hv]; simp
          simp
          refine e_is_known_cell cf.1 ?_
          simp
          refine iteI (fun hk1 => ?_) (fun hk1 => H3 fun h => hk1 h.1)
          refine e_is_known_cell cg.1 ?_
          simp
          refine iteI (fun hk2 => ?_) (fun hk2 => H3 fun h => hk2 h.2)
          rw [if_pos ⟨hk1, hk2⟩] at hk
          rw [hk] at q
          exact Fg.to q (fs _)
      refine ⟨by rw [szl]; omega, ?_⟩
      cases h : getL (setdL L s) t with
      | some v =>
        have z := H2 v (by rw [h]; rfl)
        rw [setd_some h] at z
        exact z
      | none =>
        have z := H2 t (by rw [h]; rfl)
        rw [setd_none h] at z
        show N _ _
        rw [put_dicL h]
        exact z
    refine ⟨by rw [szl]; omega, ?_⟩
    cases h : getL L s with
    | some v =>
      have z := H1 v (by rw [h]; rfl)
      rw [setd_some h] at z
      exact z
    | none =>
      have z := H1 s (by rw [h]; rfl)
      rw [setd_none h] at z
      show N _ _
      rw [put_dicL h]
      exact z
def sp_through : DSp := fun ds μ Q _ => ∃ t, ds = [.str (mk t)] ∧ t.length ≤ 100000 ∧ Q (.str (if 94 ∈ t then "box" else "")) μ
theorem len_through : ∀ ds μ Q E, sp_through ds μ Q E → ds.length = 1 := by
  rintro ds μ Q E ⟨a, rfl, _⟩; rfl
@[simp ↓] theorem e_through {s : Str} {μ : Mu} {Q : QD} {E : XDt} : sp_through [.str s] μ Q E = (s.length ≤ 100000 ∧ Q (.str (if 94 ∈ s.cps.toList then "box" else "")) μ) := by
  simp only [sp_through, List.cons.injEq, D.str.injEq, and_true, and_assoc, exists_and_left, exS]; rfl
abbrev s_through : Stmt := topS 11
theorem sc_through : FnScope ["tail"] ["tail"] (defScope s_through) := ⟨rfl, rfl, rfl, by decide +kernel, rfl, by decide +kernel, by decide +kernel⟩
set_option maxHeartbeats 1000000 in
theorem ok_through {P : Program} {w : World} {K : PySem.W.Frag} {mg : Str → Option Value} {base : Heap} {f : Addr} {fd : FuncData}  (D0 : DefAt K mg "through" s_through ["tail"] f fd)  : FnOk P w K mg base CX0 (1) f fd ["tail"] (toSp K sp_through) := by
  refine fn_ok D0.F sc_through (len_through) fun B cdv A outer s H E hr => ⟨_, _, dss_cons (ds_if (dt_cmp do_in (de_str) (dv 0) (by rfl))
      (dss_one (ds_ret (de_str)))
      (dss_nil))
    (dss_one (ds_ret (de_str))), ?_⟩
  rintro ds μ Q EE ⟨t, rfl, lt, q⟩
  by_cases h : 94 ∈ t <;> simp [h, ofString_mk] at q ⊢ <;> exact q
def sp_joint_word : DSp := fun ds μ Q _ => ∃ (nm : CL → Prop) (a b : List CL), ds = [.lst (a.map fun p => .str (mk p)), .lst (b.map fun p => .str (mk p))] ∧ a.length ≤ 6 ∧ b.length ≤ 6 ∧ (∀ s ∈ a, StepIn nm s) ∧ (∀ s ∈ b, StepIn nm s) ∧ Q (.str (jointW a b)) μ
theorem len_joint_word : ∀ ds μ Q E, sp_joint_word ds μ Q E → ds.length = 2 := by
  rintro ds μ Q E ⟨nm, a, b, rfl, _⟩; rfl
abbrev s_joint_word : Stmt := topS 31
theorem sc_joint_word : FnScope ["first", "second"] ["first", "second"] (defScope s_joint_word) := ⟨rfl, rfl, rfl, by decide +kernel, rfl, by decide +kernel, by decide +kernel⟩
set_option maxHeartbeats 1000000 in
theorem ok_joint_word {P : Program} {w : World} {K : PySem.W.Frag} {mg : Str → Option Value} {base : Heap} {f : Addr} {fd : FuncData}  (D0 : DefAt K mg "joint_word" s_joint_word ["first", "second"] f fd) (c_through : Called P w K mg base 1 "through" ["tail"] sp_through) (z_len : mg "len" = none) : FnOk P w K mg base CX0 (2) f fd ["first", "second"] (toSp K sp_joint_word) := by
  obtain ⟨f_through, d_through, m_through, k_through, b_through, F_through⟩ := c_through
  refine fn_ok D0.F sc_joint_word (len_joint_word) fun B cdv A outer s H E hr => ⟨_, _, dss_cons (ds_if (dt_cmp (do_eq hr) (de_callB dc_len (by rfl) z_len (by decide +kernel) (da_cons (dv 0) (da_nil))) (de_callB dc_len (by rfl) z_len (by decide +kernel) (da_cons (dv 1) (da_nil))))
      (dss_one (ds_ret (de_str)))
      (dss_nil))
    (dss_cons (ds_if (dt_cmp do_gt (de_callB dc_len (by rfl) z_len (by decide +kernel) (da_cons (dv 0) (da_nil))) (de_callB dc_len (by rfl) z_len (by decide +kernel) (da_cons (dv 1) (da_nil))))
      (dss_one (ds_ret (de_op do_add (de_str) (de_call F_through (hr.mono (by decide)) m_through k_through b_through (da_cons (de_bm PySem.F.plainAttrs_str PySem.F.slot_str_join PySem.F.type_str_join dm_join (de_str) (da_cons (de_sl false (dv 0) (do_some (de_callB dc_len (by rfl) z_len (by decide +kernel) (da_cons (dv 1) (da_nil)))) (do_none)) (da_nil))) (da_nil))))))
      (dss_nil))
    (dss_one (ds_ret (de_op do_add (de_str) (de_call F_through (hr.mono (by decide)) m_through k_through b_through (da_cons (de_bm PySem.F.plainAttrs_str PySem.F.slot_str_join PySem.F.type_str_join dm_join (de_str) (da_cons (de_sl false (dv 1) (do_some (de_callB dc_len (by rfl) z_len (by decide +kernel) (da_cons (dv 0) (da_nil)))) (do_none)) (da_nil))) (da_nil))))))), ?_⟩
  rintro ds μ Q EE ⟨nm, a, b, rfl, ha, hb, hsa, hsb, q⟩
  walk_at "dl0"
  walk_at "s"
  simp
  unfold jointW at q
  refine iteI (fun h => ?_) (fun h => ?_)
  · rw [if_pos (by omega)] at q; exact q
  rw [if_neg (by omega)] at q
  have cut : ∀ (us : List CL) (n : Nat), DL.cutD (us.map fun p => D.str (mk p)) (some (n : Int)) none = (us.drop n).map fun p => D.str (mk p) := by
    intro us n
    rw [cutD_from, List.map_drop]
  have hcr : ∀ us : List CL, (∀ s ∈ us, StepIn nm s) → us.length ≤ 6 → (94 ∈ us.flatten ↔ crossB us = true) ∧ us.flatten.length ≤ 54 := by
    intro us hs hl
    refine ⟨?_, ?_⟩
    · unfold crossB
      rw [List.any_eq_true]
      constructor
      · intro h
        obtain ⟨s, hs1, h1⟩ := List.mem_flatten.mp h
        refine ⟨s, hs1, ?_⟩
        obtain ⟨c, r, rfl, hc, hr, _⟩ := (hs s hs1).shape
        rcases List.mem_cons.mp h1 with h1 | h1
        · rw [← h1]; rfl
        · have := hr 94 h1; simp [begC] at this
      · rintro ⟨s, hs1, h1⟩
        obtain ⟨c, r, rfl, _⟩ := (hs s hs1).shape
        exact List.mem_flatten.mpr ⟨_, hs1, by simp at h1; simp [h1]⟩
    · have : ∀ ss : List CL, (∀ s ∈ ss, StepIn nm s) → ss.flatten.length ≤ ss.length * 9 := by
        intro ss
        induction ss with
        | nil => simp
        | cons s ss ih =>
          intro h
          have := ih fun s hs => h s (List.mem_cons_of_mem _ hs)
          obtain ⟨_, _, _, _, _, _, h9⟩ := (h s (by simp)).shape
          simp only [List.flatten_cons, List.length_append, List.length_cons, Nat.add_mul]; omega
      have := this us hs
      omega
  have hc0 : ("" : Str).length = 0 := by decide +kernel
  have ho : ("over" : Str).length ≤ 10 := by decide +kernel
  have hu : ("under" : Str).length ≤ 10 := by decide +kernel
  have hbx : ("box" : Str).length ≤ 10 := by decide +kernel
  have app0 : ∀ s : Str, (s ++ "" : Str) = s := fun s => by rw [show ("" : Str) = mk [] by decide +kernel, ← mk_of s, mk_append]; simp
  have go : ∀ (w : Str) (us : List CL), w.length ≤ 10 → (94 ∈ us.flatten ↔ crossB us = true) → us.flatten.length ≤ 54 → Q (.str (boxW w (crossB us))) μ →
      ((us.map mk).map fun x => x.length).sum + (us.map mk).length * ("" : Str).length ≤ 16777216 ∧ (Txt.join "" (us.map mk)).length ≤ 100000 ∧ w.length + (if 94 ∈ (Txt.join "" (us.map mk)).cps then ("box" : Str) else "").length ≤ sizeLine ∧ Q (.str (w ++ if 94 ∈ (Txt.join "" (us.map mk)).cps then ("box" : Str) else "")) μ := by
    intro w us hw h1 h2 q
    rw [sum_mk, hc0, join_mk]
    have e : (94 ∈ (mk us.flatten).cps) = (crossB us = true) := propext (by rw [← h1]; show 94 ∈ us.flatten.toArray ↔ _; simp)
    simp only [e, mk_length]
    refine ⟨by omega, by omega, ?_⟩
    cases hc : crossB us with
    | true => rw [hc] at q; simp [boxW] at q ⊢; exact ⟨by rw [szl]; omega, q⟩
    | false => rw [hc] at q; simp [boxW, app0, hc0] at q ⊢; exact ⟨by rw [szl]; omega, q⟩
  subst hN
  walk_at "s"
  simp
  refine iteI (fun h2 => ?_) (fun h2 => ?_)
  · rw [if_pos (by omega)] at q
    obtain ⟨c1, c2⟩ := hcr (a.drop b.length) (fun s h => hsa s (List.mem_of_mem_drop h)) (by simp; omega)
    rw [cut, strsOf_mk]
    exact go _ _ ho c1 c2 q
  · rw [if_neg (by omega)] at q
    obtain ⟨c1, c2⟩ := hcr (b.drop a.length) (fun s h => hsb s (List.mem_of_mem_drop h)) (by simp; omega)
    subst hN
    simp
    rw [cut, strsOf_mk]
    exact go _ _ hu c1 c2 q
def sp_chance_words : DSp := fun ds μ Q _ => ∃ (nm : CL → Prop) (ps qs : List CL), ds = [.lst (ps.map fun p => .str (mk p)), .lst (qs.map fun p => .str (mk p))] ∧ SpotIn nm ps ∧ SpotIn nm qs ∧ Q (.lst ((chanceW ps qs).map .str)) μ
theorem len_chance_words : ∀ ds μ Q E, sp_chance_words ds μ Q E → ds.length = 2 := by
  rintro ds μ Q E ⟨nm, ps, qs, rfl, _⟩; rfl
theorem ask_small {nm : CL → Prop} : ∀ {a b : List CL} {E : Eqs}, (∀ s ∈ a, StepIn nm s) → (∀ s ∈ b, StepIn nm s) → askE a b = some E → E.length ≤ a.length ∧ ∀ p ∈ E, CelIn nm p.1 ∧ CelIn nm p.2
  | [], b, E, _, _, h => by cases h; simp
  | a :: r, [], E, _, _, h => by cases h; simp
  | a :: r, b :: t, E, ha, hb, h => by
    have ha' : ∀ s ∈ r, StepIn nm s := fun s hs => ha s (List.mem_cons_of_mem _ hs)
    have hb' : ∀ s ∈ t, StepIn nm s := fun s hs => hb s (List.mem_cons_of_mem _ hs)
    unfold askE at h
    split at h
    · have := ask_small ha' hb' h
      exact ⟨by simp; omega, this.2⟩
    · split at h
      · next k =>
        cases e : askE r t with
        | none => rw [e] at h; cases h
        | some F =>
          rw [e] at h
          cases h
          have := ask_small ha' hb' e
          refine ⟨by simp; omega, fun p hp => ?_⟩
          rcases List.mem_cons.mp hp with rfl | hp
          · exact ⟨⟨ha a (by simp), k.1⟩, ⟨hb b (by simp), k.2.1⟩⟩
          · exact this.2 p hp
      · cases h
abbrev s_chance_words : Stmt := topS 32
theorem sc_chance_words : FnScope ["one", "other", "equations", "word"] ["one", "other"] (defScope s_chance_words) := ⟨rfl, rfl, rfl, by decide +kernel, rfl, by decide +kernel, by decide +kernel⟩
set_option maxHeartbeats 1000000 in
theorem ok_chance_words {P : Program} {w : World} {K : PySem.W.Frag} {mg : Str → Option Value} {base : Heap} {f : Addr} {fd : FuncData}  (D0 : DefAt K mg "chance_words" s_chance_words ["one", "other"] f fd) (c_asked_equations : Called P w K mg base 3 "asked_equations" ["first", "second"] sp_asked_equations) (c_can_be_kept : Called P w K mg base 3 "can_be_kept" ["equations"] sp_can_be_kept) (c_joint_word : Called P w K mg base 2 "joint_word" ["first", "second"] sp_joint_word) : FnOk P w K mg base CX0 (4) f fd ["one", "other"] (toSp K sp_chance_words) := by
  obtain ⟨f_asked_equations, d_asked_equations, m_asked_equations, k_asked_equations, b_asked_equations, F_asked_equations⟩ := c_asked_equations
  obtain ⟨f_can_be_kept, d_can_be_kept, m_can_be_kept, k_can_be_kept, b_can_be_kept, F_can_be_kept⟩ := c_can_be_kept
  obtain ⟨f_joint_word, d_joint_word, m_joint_word, k_joint_word, b_joint_word, F_joint_word⟩ := c_joint_word
  refine fn_ok D0.F sc_chance_words (len_chance_words) fun B cdv A outer s H E hr => ⟨_, _, dss_cons (ds_if (dt_cmp (do_ne hr) (de_ix (dv 0) (de_int)) (de_ix (dv 1) (de_int)))
      (dss_one (ds_ret (de_lst false (da_cons (de_str) (da_nil)))))
      (dss_nil))
    (dss_cons (ds_set 2 sc_chance_words.nd (de_call F_asked_equations (hr.mono (by decide)) m_asked_equations k_asked_equations b_asked_equations (da_cons (de_sl false (dv 0) (do_some (de_int)) (do_none)) (da_cons (de_sl false (dv 1) (do_some (de_int)) (do_none)) (da_nil)))))
    (dss_cons (ds_if (DW.dt (dw_or (dt_cmp do_is (dv 2) (de_non)) (dw_or1 (dt_not (dt_tru (de_call F_can_be_kept (hr.mono (by decide)) m_can_be_kept k_can_be_kept b_can_be_kept (da_cons (dv 2) (da_nil))))))))
      (dss_one (ds_ret (de_lst false (da_cons (de_str) (da_nil)))))
      (dss_nil))
    (dss_cons (ds_set 3 sc_chance_words.nd (de_call F_joint_word (hr.mono (by decide)) m_joint_word k_joint_word b_joint_word (da_cons (de_sl false (dv 0) (do_some (de_int)) (do_none)) (da_cons (de_sl false (dv 1) (do_some (de_int)) (do_none)) (da_nil)))))
    (dss_cons (ds_if (dt_tru (dv 2))
      (dss_one (ds_ret (de_lst false (da_cons (dv 3) (da_cons (de_str) (da_nil))))))
      (dss_nil))
    (dss_one (ds_ret (de_lst false (da_cons (dv 3) (da_nil))))))))), ?_⟩
  rintro ds μ Q EE ⟨nm, ps, qs, rfl, hp, hq, q⟩
  obtain ⟨r, as, rfl, hr, hal, has⟩ := hp.cases
  obtain ⟨t, bs, rfl, ht, hbl, hbs⟩ := hq.cases
  simp only [chanceW] at q
  have h1 : 1 ≤ sizeLine := sz_le (by omega)
  have h2 : 2 ≤ sizeLine := sz_le (by omega)
  walk_at "dl0"
  walk_at "s"
  simp
  refine iteI (fun he => ?_) (fun hne => ?_)
  · rw [if_pos he] at q
    subst hN
    walk_at "s"
    simp [cutD_behind]
    refine ⟨nm, as, bs, rfl, hal, hbl, has, hbs, ?_⟩
    subst hN
    walk_at "s"
    cases hask : askE as bs with
    | none =>
      rw [hask] at q
      simp
      exact ⟨h1, q⟩
    | some E =>
      rw [hask] at q
      obtain ⟨hE, hEc⟩ := ask_small has hbs hask
      dsimp only at q ⊢
      have H1 : ∀ k : Bool, k = (keepL [] E).isSome → k = true → N [some (.lst (D.str (mk r) :: as.map fun p => .str (mk p))), some (.lst (D.str (mk t) :: bs.map fun p => .str (mk p))), some (eqsD E), none] μ := by
        intro k hk hkt
        rw [← hk, if_pos hkt] at q
        subst hN
        walk_at "s"
        simp [cutD_behind]
        refine ⟨nm, as, bs, rfl, hal, hbl, has, hbs, ?_⟩
        subst hN
        unfold eqsD
        cases E with
        | nil => simp at q ⊢; exact ⟨h1, q⟩
        | cons p E => simp at q ⊢; exact ⟨h2, q⟩
      have hn : isNonD (eqsD E) = false := rfl
      simp [hn]
      refine ⟨nm, E, rfl, by omega, hEc, ?_⟩
      simp
      refine iteI (fun h => H1 _ rfl h) (fun h => ⟨h1, ?_⟩)
      rw [if_neg h] at q
      exact q
  · rw [if_neg hne] at q
    exact ⟨h1, q⟩
def sp_end_of_spot_part : DSp := fun ds μ Q _ => ∃ (l : CL) (i : Nat), ds = [.str (mk l), .int i] ∧ l.length ≤ 1000 ∧ i ≤ l.length ∧ Q (.int (endI l i)) μ
theorem len_end_of_spot_part : ∀ ds μ Q E, sp_end_of_spot_part ds μ Q E → ds.length = 2 := by
  rintro ds μ Q E ⟨l, i, rfl, _⟩; rfl
theorem e_end_of_spot_part {l : CL} {i : Nat} {μ : Mu} {Q : QD} {E : XDt} (hl : l.length ≤ 1000) (hi : i ≤ l.length) (q : Q (.int (endI l i)) μ) : sp_end_of_spot_part [.str (mk l), .int i] μ Q E := ⟨l, i, rfl, hl, hi, q⟩
abbrev s_end_of_spot_part : Stmt := topS 21
theorem sc_end_of_spot_part : FnScope ["text", "start", "at"] ["text", "start"] (defScope s_end_of_spot_part) := ⟨rfl, rfl, rfl, by decide +kernel, rfl, by decide +kernel, by decide +kernel⟩
set_option maxHeartbeats 1000000 in
theorem ok_end_of_spot_part {P : Program} {w : World} {K : PySem.W.Frag} {mg : Str → Option Value} {base : Heap} {f : Addr} {fd : FuncData}  (D0 : DefAt K mg "end_of_spot_part" s_end_of_spot_part ["text", "start"] f fd) (z_range : mg "range" = none) (z_len : mg "len" = none) (g_BEGINNINGS : Glob_BEGINNINGS K w mg) : FnOk P w K mg base CX0 (1) f fd ["text", "start"] (toSp K sp_end_of_spot_part) := by
  obtain ⟨t_BEGINNINGS, m_BEGINNINGS⟩ := g_BEGINNINGS
  refine fn_ok D0.F sc_end_of_spot_part (len_end_of_spot_part) fun B cdv A outer s H E hr => ⟨_, _, dss_cons (ds_for PassesOwn.never rfl (di_range2 (by rfl) z_range (da_cons (dv 1) (da_cons (de_callB dc_len (by rfl) z_len (by decide +kernel) (da_cons (dv 0) (da_nil))) (da_nil)))) (dg_name 2 sc_end_of_spot_part.nd)
      (dss_one (ds_if (dt_cmp do_in (de_ix (dv 0) (dv 2)) (de_glob (v := .str ".^[") (d := .str ".^[") (by rfl) m_BEGINNINGS ⟨_, rfl⟩ (fun _ => .str _)) (by rfl))
        (dss_one (ds_ret (dv 2)))
        (dss_nil))))
    (dss_one (ds_ret (de_callB dc_len (by rfl) z_len (by decide +kernel) (da_cons (dv 0) (da_nil))))), ?_⟩
  rintro ds μ Q EE ⟨l, i, rfl, hl, hi, q⟩
  walk_at "dl0"
  walk_at "s"
  refine for_hide fun L hL => ?_
  simp
  subst hL
  refine ⟨by rw [szl]; omega, by omega, loop_rng (fun j ρ μ' => ∃ (k : Option D) (m : Nat), ρ = [some (.str (mk l)), some (.int i), k] ∧ μ' = μ ∧ j = m ∧ i ≤ m ∧ m ≤ l.length ∧ endI l m = endI l i) (by omega) ⟨none, i, rfl, rfl, rfl, Nat.le_refl _, hi, rfl⟩ ?_ ?_⟩
  · rintro ρ μ' ⟨k, m, rfl, rfl, hj, hm1, hm2, he⟩
    have : m = l.length := by omega
    subst this
    show N _ _
    subst hN
    simp
    rw [endI_end] at he
    rw [← he] at q
    exact ⟨by rw [szl]; omega, q⟩
  · rintro j ρ μ' M j0 j1 ⟨k, m, rfl, rfl, rfl, hm1, hm2, he⟩ hM
    have hml : m < l.length := by omega
    have ha : atI l (m : Int) = some l[m] := by rw [atI_int (by omega)]; simp [hml]
    simp [ha, beg_in]
    refine ⟨by rw [szl]; omega, iteI (fun hb => ?_) (fun hb => ?_)⟩
    · rw [← he, endI_at hml hb] at q
      exact q
    · exact hM _ _ ⟨_, m + 1, rfl, rfl, by omega, by omega, by omega, by rw [← he]; exact (endI_no hml (by simpa using hb)).symm⟩
def sp_cut_spot : DSp := fun ds μ Q _ => ∃ l : CL, ds = [.str (mk l)] ∧ l.length ≤ 1000 ∧ Q (.lst ((cutL l).map fun p => .str (mk p))) μ
theorem len_cut_spot : ∀ ds μ Q E, sp_cut_spot ds μ Q E → ds.length = 1 := by
  rintro ds μ Q E ⟨l, rfl, _⟩; rfl
@[simp ↓] theorem e_cut_spot {l : CL} {μ : Mu} {Q : QD} {E : XDt} : sp_cut_spot [.str (mk l)] μ Q E = (l.length ≤ 1000 ∧ Q (.lst ((cutL l).map fun p => .str (mk p))) μ) := propext ⟨fun ⟨m, e, h⟩ => by simp only [List.cons.injEq, D.str.injEq, mk_inj, and_true] at e; subst e; exact h, fun h => ⟨l, rfl, h⟩⟩
abbrev s_cut_spot : Stmt := topS 22
theorem sc_cut_spot : FnScope ["text", "end", "parts", "start"] ["text"] (defScope s_cut_spot) := ⟨rfl, rfl, rfl, by decide +kernel, rfl, by decide +kernel, by decide +kernel⟩
set_option maxHeartbeats 1000000 in
theorem ok_cut_spot {P : Program} {w : World} {K : PySem.W.Frag} {mg : Str → Option Value} {base : Heap} {f : Addr} {fd : FuncData}  (D0 : DefAt K mg "cut_spot" s_cut_spot ["text"] f fd) (c_end_of_spot_part : Called P w K mg base 1 "end_of_spot_part" ["text", "start"] sp_end_of_spot_part) (z_len : mg "len" = none) : FnOk P w K mg base CX0 (2) f fd ["text"] (toSp K sp_cut_spot) := by
  obtain ⟨f_end_of_spot_part, d_end_of_spot_part, m_end_of_spot_part, k_end_of_spot_part, b_end_of_spot_part, F_end_of_spot_part⟩ := c_end_of_spot_part
  refine fn_ok D0.F sc_cut_spot (len_cut_spot) fun B cdv A outer s H E hr => ⟨_, _, dss_cons (ds_set 1 sc_cut_spot.nd (de_call F_end_of_spot_part (hr.mono (by decide)) m_end_of_spot_part k_end_of_spot_part b_end_of_spot_part (da_cons (dv 0) (da_cons (de_int) (da_nil)))))
    (dss_cons (ds_set 2 sc_cut_spot.nd (de_lst true (da_cons (de_sl false (dv 0) (do_none) (do_some (dv 1))) (da_nil))))
    (dss_cons (ds_while PassesOwn.never (dt_cmp do_lt (dv 1) (de_callB dc_len (by rfl) z_len (by decide +kernel) (da_cons (dv 0) (da_nil))))
      (dss_cons (ds_set 3 sc_cut_spot.nd (dv 1))
      (dss_cons (ds_set 1 sc_cut_spot.nd (de_call F_end_of_spot_part (hr.mono (by decide)) m_end_of_spot_part k_end_of_spot_part b_end_of_spot_part (da_cons (dv 0) (da_cons (de_op do_add (dv 3) (de_int)) (da_nil)))))
      (dss_one (ds_expr (de_bm PySem.F.plainAttrs_list PySem.F.slot_list_append PySem.F.type_list_append dm_append (dv 2) (da_cons (de_sl false (dv 0) (do_some (dv 3)) (do_some (dv 1))) (da_nil))))))))
    (dss_one (ds_ret (de_frz (dv 2)))))), ?_⟩
  rintro ds μ Q EE ⟨l, rfl, hl, q⟩
  walk_at "dl0"
  walk_at "s"
  simp
  refine e_end_of_spot_part hl (Nat.zero_le _) ?_
  subst hN
  walk_at "s"
  simp
  have he0 := endI_le (l := l) (Nat.zero_le _)
  refine ⟨by rw [szl]; omega, sz_le (by omega), fun a ha => ?_⟩
  rw [show DL.cutD l none (some ((endI l 0 : Nat) : Int)) = l.take (endI l 0) from cutD_to l _]
  subst hN
  walk_at "s"
  refine ⟨fun m ρ μ' => ∃ (e : Nat) (done : List CL) (k : Option D), m = l.length - e ∧ ρ = [some (.str (mk l)), some (.int e), some (.ptr a), k] ∧ μ' = mup μ a (.lst (done.map fun p => .str (mk p))) ∧ e ≤ l.length ∧ done.length ≤ e + 1 ∧ cutL l = done ++ restP l e, ⟨_, endI l 0, [l.take (endI l 0)], none, rfl, rfl, rfl, he0, by simp, by rw [rest_start]; rfl⟩, ?_⟩
  rintro m ρ μ' ⟨e, done, k, rfl, rfl, rfl, he, hd, hc⟩
  simp
  refine ⟨by rw [szl]; omega, iteI (fun h => ?_) (fun h => ?_)⟩
  · have hg : e + 1 ≤ endI l (e + 1) := endI_ge
    have hle := endI_le (l := l) (i := e + 1) (by omega)
    refine ⟨l, e + 1, rfl, hl, by omega, ?_⟩
    simp
    rw [cutD_range l hle (by omega)]
    refine ⟨by rw [szl]; omega, by rw [szl]; omega, _, by omega, endI l (e + 1), rfl, rfl, done ++ [(l.drop e).take (endI l (e + 1) - e)], by simp, hle, by simp; omega, ?_⟩
    rw [hc, rest_step h]
    simp
  · subst hN
    simp [mdel_mup ha]
    rw [hc, rest_end h, List.append_nil] at q
    exact q
def sp_is_name : DSp := fun ds μ Q _ => ∃ l : CL, ds = [.str (mk l)] ∧ l.length ≤ 1000 ∧ Q (.bl (nameB 8 l)) μ
theorem len_is_name : ∀ ds μ Q E, sp_is_name ds μ Q E → ds.length = 1 := by
  rintro ds μ Q E ⟨l, rfl, _⟩; rfl
@[simp ↓] theorem e_is_name {l : CL} {μ : Mu} {Q : QD} {E : XDt} : sp_is_name [.str (mk l)] μ Q E = (l.length ≤ 1000 ∧ Q (.bl (nameB 8 l)) μ) := propext ⟨fun ⟨m, e, h⟩ => by simp only [List.cons.injEq, D.str.injEq, mk_inj, and_true] at e; subst e; exact h, fun h => ⟨l, rfl, h⟩⟩
abbrev s_is_name : Stmt := topS 10
theorem sc_is_name : FnScope ["text", "letter"] ["text"] (defScope s_is_name) := ⟨rfl, rfl, rfl, by decide +kernel, rfl, by decide +kernel, by decide +kernel⟩
set_option maxHeartbeats 1000000 in
theorem ok_is_name {P : Program} {w : World} {K : PySem.W.Frag} {mg : Str → Option Value} {base : Heap} {f : Addr} {fd : FuncData}  (D0 : DefAt K mg "is_name" s_is_name ["text"] f fd) (z_len : mg "len" = none) (z_all : mg "all" = none) (g_MOST_LETTERS : Glob_MOST_LETTERS K w mg) (g_LETTERS : Glob_LETTERS K w mg) : FnOk P w K mg base CX0 (1) f fd ["text"] (toSp K sp_is_name) := by
  obtain ⟨t_MOST_LETTERS, m_MOST_LETTERS⟩ := g_MOST_LETTERS
  obtain ⟨t_LETTERS, m_LETTERS⟩ := g_LETTERS
  refine fn_ok D0.F sc_is_name (len_is_name) fun B cdv A outer s H E hr => ⟨_, _, dss_cons (ds_if (DW.dt (dw_or (dt_cmp (do_eq hr) (dv 0) (de_str)) (dw_or1 (dt_cmp do_gt (de_callB dc_len (by rfl) z_len (by decide +kernel) (da_cons (dv 0) (da_nil))) (de_glob (v := .int 8) (d := .int 8) (by rfl) m_MOST_LETTERS ⟨_, rfl⟩ (fun _ => .int _))))))
      (dss_one (ds_ret (de_bl)))
      (dss_nil))
    (dss_one (ds_ret (de_callB (dc_all rfl) (by rfl) z_all (by decide +kernel) (da_cons (de_lcA false (own := [("letter", 1)]) rfl sc_is_name.nd (di_str (dv 0)) (blkOk_by (N := ["text", "letter"]) (sc := defScope s_is_name) (by decide +kernel)) (fun _ _ _ _ _ => dg_name 1 sc_is_name.nd) (keep_name (by decide)) (fun _ _ _ _ _ => dts_nil) (fun _ _ _ _ _ => de_cmp do_in (dv 1) (de_glob (v := .str "abcdefghijklmnopqrstuvwxyz") (d := .str "abcdefghijklmnopqrstuvwxyz") (by rfl) m_LETTERS ⟨_, rfl⟩ (fun _ => .str _)) (by rfl))) (da_nil))))), ?_⟩
  rintro ds μ Q EE ⟨l, rfl, hl, q⟩
  have e0 : ("" : Str) = mk [] := by decide +kernel
  walk_at "dl0"
  walk_at "s"
  simp [e0]
  refine iteI (fun h => ?_) (fun h => ⟨sz_le (by omega), iteI (fun h8 => ?_) (fun h8 => ?_)⟩)
  · subst h; exact q
  · have : nameB 8 l = false := by unfold nameB; rw [show decide (l.length ≤ 8) = false by simp; omega]; simp
    rw [this] at q; exact q
  · have hn : nameB 8 l = (l.map fun c => decide (97 ≤ c ∧ c ≤ 122)).all id := by
      unfold nameB
      rw [show decide (l.length ≤ 8) = true by simp; omega, show l.isEmpty = false by simpa using h]
      simp [List.all_map, Function.comp_def]
    rw [hn] at q
    subst hN
    simp
    intro p hp
    refine comp_map (fun c : Nat => D.str (mk [c])) (fun c => .bl (decide (97 ≤ c ∧ c ≤ 122))) (by simp; omega) (fun c hc acc M ha hM => ?_) ?_
    · simp [letter_in]
      exact ⟨sz_lt ha, by simpa using hM⟩
    · simp only [mup_same, List.nil_append, blsOf_all, mdel_mup hp]
      simpa using q
def sp_is_spot_name : DSp := fun ds μ Q _ => ∃ l : CL, ds = [.str (mk l)] ∧ l.length ≤ 1000 ∧ Q (.bl (nameB 7 l)) μ
theorem len_is_spot_name : ∀ ds μ Q E, sp_is_spot_name ds μ Q E → ds.length = 1 := by
  rintro ds μ Q E ⟨l, rfl, _⟩; rfl
@[simp ↓] theorem e_is_spot_name {l : CL} {μ : Mu} {Q : QD} {E : XDt} : sp_is_spot_name [.str (mk l)] μ Q E = (l.length ≤ 1000 ∧ Q (.bl (nameB 7 l)) μ) := propext ⟨fun ⟨m, e, h⟩ => by simp only [List.cons.injEq, D.str.injEq, mk_inj, and_true] at e; subst e; exact h, fun h => ⟨l, rfl, h⟩⟩
abbrev s_is_spot_name : Stmt := topS 18
theorem sc_is_spot_name : FnScope ["text"] ["text"] (defScope s_is_spot_name) := ⟨rfl, rfl, rfl, by decide +kernel, rfl, by decide +kernel, by decide +kernel⟩
set_option maxHeartbeats 1000000 in
theorem ok_is_spot_name {P : Program} {w : World} {K : PySem.W.Frag} {mg : Str → Option Value} {base : Heap} {f : Addr} {fd : FuncData}  (D0 : DefAt K mg "is_spot_name" s_is_spot_name ["text"] f fd) (c_is_name : Called P w K mg base 1 "is_name" ["text"] sp_is_name) (z_len : mg "len" = none) (g_MOST_SPOT_LETTERS : Glob_MOST_SPOT_LETTERS K w mg) : FnOk P w K mg base CX0 (2) f fd ["text"] (toSp K sp_is_spot_name) := by
  obtain ⟨f_is_name, d_is_name, m_is_name, k_is_name, b_is_name, F_is_name⟩ := c_is_name
  obtain ⟨t_MOST_SPOT_LETTERS, m_MOST_SPOT_LETTERS⟩ := g_MOST_SPOT_LETTERS
  refine fn_ok D0.F sc_is_spot_name (len_is_spot_name) fun B cdv A outer s H E hr => ⟨_, _, dss_one (ds_ret (de_and (de_call F_is_name (hr.mono (by decide)) m_is_name k_is_name b_is_name (da_cons (dv 0) (da_nil))) (de_one (de_cmp do_le (de_callB dc_len (by rfl) z_len (by decide +kernel) (da_cons (dv 0) (da_nil))) (de_glob (v := .int 7) (d := .int 7) (by rfl) m_MOST_SPOT_LETTERS ⟨_, rfl⟩ (fun _ => .int _)))))), ?_⟩
  rintro ds μ Q EE ⟨l, rfl, hl, q⟩
  walk_at "dl0"
  simp
  rw [← nameB_cut] at q
  refine ⟨hl, ?_⟩
  cases h : nameB 8 l <;> simp [h] at q ⊢
  · exact q
  · have e : decide ((l.length : Int) ≤ 7) = decide (l.length ≤ 7) := decide_eq_decide.mpr (by omega)
    rw [e]
    exact ⟨sz_le (by omega), q⟩
def sp_is_spot_step : DSp := fun ds μ Q _ => ∃ (nm : CL → Prop) (l : CL), ds = [.str (mk l)] ∧ StepIn nm l ∧ Q (.bl true) μ
theorem len_is_spot_step : ∀ ds μ Q E, sp_is_spot_step ds μ Q E → ds.length = 1 := by
  rintro ds μ Q E ⟨nm, l, rfl, _⟩; rfl
abbrev s_is_spot_step : Stmt := topS 20
theorem sc_is_spot_step : FnScope ["step"] ["step"] (defScope s_is_spot_step) := ⟨rfl, rfl, rfl, by decide +kernel, rfl, by decide +kernel, by decide +kernel⟩
set_option maxHeartbeats 1000000 in
theorem ok_is_spot_step {P : Program} {w : World} {K : PySem.W.Frag} {mg : Str → Option Value} {base : Heap} {f : Addr} {fd : FuncData}  (D0 : DefAt K mg "is_spot_step" s_is_spot_step ["step"] f fd) (c_is_spot_name : Called P w K mg base 2 "is_spot_name" ["text"] sp_is_spot_name) (c_is_cell_number : Called P w K mg base 1 "is_cell_number" ["text"] sp_is_cell_number) (g_MARKS : Glob_MARKS K w mg) : FnOk P w K mg base CX0 (3) f fd ["step"] (toSp K sp_is_spot_step) := by
  obtain ⟨f_is_spot_name, d_is_spot_name, m_is_spot_name, k_is_spot_name, b_is_spot_name, F_is_spot_name⟩ := c_is_spot_name
  obtain ⟨f_is_cell_number, d_is_cell_number, m_is_cell_number, k_is_cell_number, b_is_cell_number, F_is_cell_number⟩ := c_is_cell_number
  obtain ⟨t_MARKS, m_MARKS⟩ := g_MARKS
  refine fn_ok D0.F sc_is_spot_step (len_is_spot_step) fun B cdv A outer s H E hr => ⟨_, _, dss_cons (ds_if (dt_cmp do_in (de_ix (dv 0) (de_int)) (de_glob (v := .str ".^") (d := .str ".^") (by rfl) m_MARKS ⟨_, rfl⟩ (fun _ => .str _)) (by rfl))
      (dss_one (ds_ret (de_call F_is_spot_name (hr.mono (by decide)) m_is_spot_name k_is_spot_name b_is_spot_name (da_cons (de_sl false (dv 0) (do_some (de_int)) (do_none)) (da_nil)))))
      (dss_nil))
    (dss_cons (ds_if (dt_cmp (do_ne hr) (de_ix (dv 0) (de_neg (de_int))) (de_str))
      (dss_one (ds_ret (de_bl)))
      (dss_nil))
    (dss_one (ds_ret (de_or (de_call F_is_spot_name (hr.mono (by decide)) m_is_spot_name k_is_spot_name b_is_spot_name (da_cons (de_sl false (dv 0) (do_some (de_int)) (do_some (de_neg (de_int)))) (da_nil))) (de_one (de_call F_is_cell_number (hr.mono (by decide)) m_is_cell_number k_is_cell_number b_is_cell_number (da_cons (de_sl false (dv 0) (do_some (de_int)) (do_some (de_neg (de_int)))) (da_nil)))))))), ?_⟩
  rintro ds μ Q EE ⟨nm, l, rfl, hs, q⟩
  have em : (".^" : Str).cps = #[46, 94] := by decide +kernel
  have e93 : ("]" : Str) = mk [93] := by decide +kernel
  rcases hs with ⟨n, hn, rfl | rfl⟩ | ⟨n, rfl, hn⟩
  · have hl := hn.2.1
    walk_at "dl0"
    walk_at "s"
    simp [em, cutD_behind, nameB_iff.mpr hn]
    exact ⟨by rw [szl]; omega, by omega, q⟩
  · have hl := hn.2.1
    walk_at "dl0"
    walk_at "s"
    simp [em, cutD_behind, nameB_iff.mpr hn]
    exact ⟨by rw [szl]; omega, by omega, q⟩
  · walk_at "dl0"
    walk_at "s"
    simp [em]
    have hl : n.length ≤ 7 := by
      rcases hn with ⟨h, _⟩ | h
      · exact h.2.1
      · have := h.2.1; omega
    refine ⟨by rw [szl]; omega, ?_⟩
    subst hN
    walk_at "s"
    simp [e93]
    refine ⟨by rw [szl]; omega, ?_⟩
    subst hN
    simp
    have hq : nameB 7 n = true ∨ nameB 7 n = false ∧ numB n = true := by
      rcases hn with ⟨h, _⟩ | h
      · exact .inl (nameB_iff.mpr h)
      · cases e : nameB 7 n with
        | true => exact .inl rfl
        | false => exact .inr ⟨rfl, numB_iff.mpr h⟩
    refine ⟨by rw [szl]; omega, by omega, ?_⟩
    rcases hq with h | ⟨h1, h2⟩
    · rw [if_pos h]; exact q
    · rw [h1, h2]; exact ⟨by rw [szl]; omega, by omega, q⟩
def sp_parts_of_spot : DSp := fun ds μ Q _ => ∃ (nm : CL → Prop) (ps : List CL), ds = [.str (mk ps.flatten)] ∧ SpotIn nm ps ∧ Q (.lst (ps.map fun p => .str (mk p))) μ
theorem len_parts_of_spot : ∀ ds μ Q E, sp_parts_of_spot ds μ Q E → ds.length = 1 := by
  rintro ds μ Q E ⟨nm, ps, rfl, _⟩; rfl
abbrev s_parts_of_spot : Stmt := topS 23
theorem sc_parts_of_spot : FnScope ["text", "parts", "step"] ["text"] (defScope s_parts_of_spot) := ⟨rfl, rfl, rfl, by decide +kernel, rfl, by decide +kernel, by decide +kernel⟩
set_option maxHeartbeats 1000000 in
theorem ok_parts_of_spot {P : Program} {w : World} {K : PySem.W.Frag} {mg : Str → Option Value} {base : Heap} {f : Addr} {fd : FuncData}  (D0 : DefAt K mg "parts_of_spot" s_parts_of_spot ["text"] f fd) (c_cut_spot : Called P w K mg base 2 "cut_spot" ["text"] sp_cut_spot) (c_is_spot_name : Called P w K mg base 2 "is_spot_name" ["text"] sp_is_spot_name) (c_is_spot_step : Called P w K mg base 3 "is_spot_step" ["step"] sp_is_spot_step) (z_len : mg "len" = none) (z_all : mg "all" = none) (g_MOST_STEPS : Glob_MOST_STEPS K w mg) : FnOk P w K mg base CX0 (4) f fd ["text"] (toSp K sp_parts_of_spot) := by
  obtain ⟨f_cut_spot, d_cut_spot, m_cut_spot, k_cut_spot, b_cut_spot, F_cut_spot⟩ := c_cut_spot
  obtain ⟨f_is_spot_name, d_is_spot_name, m_is_spot_name, k_is_spot_name, b_is_spot_name, F_is_spot_name⟩ := c_is_spot_name
  obtain ⟨f_is_spot_step, d_is_spot_step, m_is_spot_step, k_is_spot_step, b_is_spot_step, F_is_spot_step⟩ := c_is_spot_step
  obtain ⟨t_MOST_STEPS, m_MOST_STEPS⟩ := g_MOST_STEPS
  refine fn_ok D0.F sc_parts_of_spot (len_parts_of_spot) fun B cdv A outer s H E hr => ⟨_, _, dss_cons (ds_set 1 sc_parts_of_spot.nd (de_call F_cut_spot (hr.mono (by decide)) m_cut_spot k_cut_spot b_cut_spot (da_cons (dv 0) (da_nil))))
    (dss_cons (ds_if (DW.dt (dw_or (dt_not (dt_tru (de_call F_is_spot_name (hr.mono (by decide)) m_is_spot_name k_is_spot_name b_is_spot_name (da_cons (de_ix (dv 1) (de_int)) (da_nil))))) (dw_or1 (dt_cmp do_gt (de_callB dc_len (by rfl) z_len (by decide +kernel) (da_cons (dv 1) (da_nil))) (de_op do_add (de_glob (v := .int 6) (d := .int 6) (by rfl) m_MOST_STEPS ⟨_, rfl⟩ (fun _ => .int _)) (de_int))))))
      (dss_one (ds_ret (de_non)))
      (dss_nil))
    (dss_cons (ds_if (dt_not (dt_tru (de_callB (dc_all rfl) (by rfl) z_all (by decide +kernel) (da_cons (de_lcA false (own := [("step", 2)]) rfl sc_parts_of_spot.nd (di_list (de_sl false (dv 1) (do_some (de_int)) (do_none))) (blkOk_by (N := ["text", "parts", "step"]) (sc := defScope s_parts_of_spot) (by decide +kernel)) (fun _ _ _ _ _ => dg_name 2 sc_parts_of_spot.nd) (keep_name (by decide)) (fun _ _ _ _ _ => dts_nil) (fun _ _ _ _ _ => de_call F_is_spot_step (hr.mono (by decide)) m_is_spot_step k_is_spot_step b_is_spot_step (da_cons (dv 2) (da_nil)))) (da_nil)))))
      (dss_one (ds_ret (de_non)))
      (dss_nil))
    (dss_one (ds_ret (dv 1))))), ?_⟩
  rintro ds μ Q EE ⟨nm, ps, rfl, hp, q⟩
  have h6 := hp.small
  walk_at "dl0"
  walk_at "s"
  simp
  rw [← List.length_flatten, hp.cut]
  refine ⟨by omega, ?_⟩
  obtain ⟨r, ss, rfl, hr, hl, hs⟩ := hp.cases
  have hr7 := hr.2.1
  subst hN
  walk_at "s"
  simp [nameB_iff.mpr hr]
  refine ⟨by omega, ?_⟩
  rw [if_neg (by omega)]
  subst hN
  walk_at "s"
  simp [cutD_behind]
  intro p hp2
  refine comp_map (fun p => D.str (mk p)) (fun _ => .bl true) (by simp; omega) (fun s h acc M ha hM => ?_) ?_
  · simp
    exact ⟨nm, s, rfl, hs s h, by simp; exact ⟨sz_lt ha, hM⟩⟩
  · have ha : (ss.map fun _ => true).all id = true := by simp
    simp only [mup_same, List.nil_append, blsOf_all, mdel_mup hp2, ha]
    subst hN
    simpa using q
def spotC (C : Addr) (ps : List CL) : Cell := .ins C [("_text", .str (mk ps.flatten)), ("_root", .str (mk (ps.head?.getD []))), ("_steps", .lst (ps.tail.map fun p => .str (mk p)))]
theorem vw_spot {C : Addr} {ps : List CL} {μ : Mu} {x : Addr} (h : μ x = some (spotC C ps)) : vw μ (.ptr x) = .obj C [("_text", .str (mk ps.flatten)), ("_root", .str (mk (ps.head?.getD []))), ("_steps", .lst (ps.tail.map fun p => .str (mk p)))] := by rw [vw_pd, h]; rfl
theorem oF_sp {C x : Addr} {ps : List CL} {μ : Mu} {P : List (Str × D) → Prop} (h : μ x = some (spotC C ps)) (q : P [("_text", .str (mk ps.flatten)), ("_root", .str (mk (ps.head?.getD []))), ("_steps", .lst (ps.tail.map fun p => .str (mk p)))]) : oF C (vw μ (.ptr x)) P := by rw [vw_spot h]; exact ⟨rfl, q⟩
def sp_Spot___init__ (C : Addr) : DSp := fun ds μ Q _ => ∃ x nm ps, ds = [.ptr x, .str (mk ps.flatten)] ∧ μ x = some (.ins C []) ∧ SpotIn nm ps ∧ Q .non (mup μ x (spotC C ps))
theorem len_Spot___init__ (C : Addr) : ∀ ds μ Q E, sp_Spot___init__ C ds μ Q E → ds.length = 2 := by
  rintro ds μ Q E ⟨a, x, ps, rfl, _⟩; rfl
abbrev s_Spot___init__ : Stmt := inClass (topS 26) 1
theorem sc_Spot___init__ : FnScope ["self", "text", "parts"] ["self", "text"] (defScope s_Spot___init__) := ⟨rfl, rfl, rfl, by decide +kernel, rfl, by decide +kernel, by decide +kernel⟩
set_option maxHeartbeats 1000000 in
theorem ok_Spot___init__ {P : Program} {w : World} {K : PySem.W.Frag} {mg : Str → Option Value} {base : Heap} {f : Addr} {fd : FuncData} {C_Spot : Addr} (D0 : MethAt K C_Spot "__init__" "Spot.__init__" s_Spot___init__ ["self", "text"] f fd) (c_parts_of_spot : Called P w K mg base 4 "parts_of_spot" ["text"] sp_parts_of_spot) (K_Spot : Klass K mg C_Spot "Spot" ["_text", "_root", "_steps"]) : FnOk P w K mg base CX0 (5) f fd ["self", "text"] (toSp K (sp_Spot___init__ C_Spot)) := by
  obtain ⟨f_parts_of_spot, d_parts_of_spot, m_parts_of_spot, k_parts_of_spot, b_parts_of_spot, F_parts_of_spot⟩ := c_parts_of_spot
  refine fn_ok D0.F sc_Spot___init__ (len_Spot___init__ _) fun B cdv A outer s H E hr => ⟨_, _, dss_cons (ds_set 2 sc_Spot___init__.nd (de_call F_parts_of_spot (hr.mono (by decide)) m_parts_of_spot k_parts_of_spot b_parts_of_spot (da_cons (dv 1) (da_nil))))
    (dss_cons (ds_if (dt_cmp do_is (dv 2) (de_non))
      (dss_one (ds_never))
      (dss_nil))
    (dss_cons (ds_fld K_Spot.cl (K_Spot.na 0 _ rfl) (dv 0) (dv 1))
    (dss_cons (ds_fld K_Spot.cl (K_Spot.na 1 _ rfl) (dv 0) (de_ix (dv 2) (de_int)))
    (dss_one (ds_fld K_Spot.cl (K_Spot.na 2 _ rfl) (dv 0) (de_sl false (dv 2) (do_some (de_int)) (do_none))))))), ?_⟩
  rintro ds μ Q EE ⟨x, nm, ps, rfl, hx, hp, q⟩
  walk_at "dl0"
  walk_at "s"
  simp
  refine ⟨nm, ps, rfl, hp, ?_⟩
  obtain ⟨r, ss, rfl, hr, hl, hs⟩ := hp.cases
  subst hN
  walk_at "s"
  simp
  subst hN
  walk_at "s"
  simp [hx]
  subst hN
  walk_at "s"
  simp
  subst hN
  simp [cutD_behind, fput]
  simpa [spotC] using q
def sp_Spot_root (C : Addr) : DSp := fun ds μ Q _ => ∃ x ps, ds = [.ptr x] ∧ μ x = some (spotC C ps) ∧ Q (.str (mk (ps.head?.getD []))) μ
theorem len_Spot_root (C : Addr) : ∀ ds μ Q E, sp_Spot_root C ds μ Q E → ds.length = 1 := by
  rintro ds μ Q E ⟨a, x, rfl, _⟩; rfl
abbrev s_Spot_root : Stmt := inClass (topS 26) 3
theorem sc_Spot_root : FnScope ["self"] ["self"] (defScope s_Spot_root) := ⟨rfl, rfl, rfl, by decide +kernel, rfl, by decide +kernel, by decide +kernel⟩
set_option maxHeartbeats 1000000 in
theorem ok_Spot_root {P : Program} {w : World} {K : PySem.W.Frag} {mg : Str → Option Value} {base : Heap} {f : Addr} {fd : FuncData} {C_Spot : Addr} (D0 : PropAt K C_Spot "root" "Spot.root" s_Spot_root ["self"] f fd) (K_Spot : Klass K mg C_Spot "Spot" ["_text", "_root", "_steps"]) : FnOk P w K mg base CX0 (1) f fd ["self"] (toSp K (sp_Spot_root C_Spot)) := by
  refine fn_ok D0.F sc_Spot_root (len_Spot_root _) fun B cdv A outer s H E hr => ⟨_, _, dss_one (ds_ret (de_fld K_Spot.cl (K_Spot.na 1 _ rfl) (dv 0))), ?_⟩
  rintro ds μ Q EE ⟨x, ps, rfl, hx, q⟩
  walk_at "dl0"
  simp [vw_spot hx, fget]
  exact q
abbrev sp_Spot___len__ (C : Addr) : DSp := sp_lenF C "_steps"
abbrev s_Spot___len__ : Stmt := inClass (topS 26) 8
theorem sc_Spot___len__ : FnScope ["self"] ["self"] (defScope s_Spot___len__) := ⟨rfl, rfl, rfl, by decide +kernel, rfl, by decide +kernel, by decide +kernel⟩
set_option maxHeartbeats 1000000 in
theorem ok_Spot___len__ {P : Program} {w : World} {K : PySem.W.Frag} {mg : Str → Option Value} {base : Heap} {f : Addr} {fd : FuncData} {C_Spot : Addr} (D0 : MethAt K C_Spot "__len__" "Spot.__len__" s_Spot___len__ ["self"] f fd) (K_Spot : Klass K mg C_Spot "Spot" ["_text", "_root", "_steps"]) (z_len : mg "len" = none) : FnOk P w K mg base CX0 (1) f fd ["self"] (spLenF K C_Spot "_steps") := by
  refine D0.F.ok sc_Spot___len__ (fun vs H Q E h => ?_) fun cdv A outer s H vs Q E hr h => ?_
  · obtain ⟨_, _, _, _, _, rfl, _⟩ := h; rfl
  · obtain ⟨a, dx, fs, l, xs, rfl, ha, hf, hl, q⟩ := h
    refine ⟨_, (show DSs _ (g0 H) _ _ _ from dss_one (ds_ret (de_callB dc_len (by rfl) z_len (by decide +kernel) (da_cons (de_fld K_Spot.cl (K_Spot.na 2 _ rfl) (dv 0)) (da_nil))))).pss, ?_⟩
    exact fld_at K_Spot.cl (K_Spot.na 2 _ rfl) rfl ha hf ⟨_, _, rfl, .inl ⟨xs, hl, rfl⟩, q⟩

abbrev s_Spot___iter__ : Stmt := inClass (topS 26) 9
theorem sc_Spot___iter__ : FnScope ["self"] ["self"] (defScope s_Spot___iter__) := ⟨rfl, rfl, rfl, by decide +kernel, rfl, by decide +kernel, by decide +kernel⟩
set_option maxHeartbeats 1000000 in
theorem ok_Spot___iter__ {P : Program} {w : World} {K : PySem.W.Frag} {mg : Str → Option Value} {base : Heap} {f : Addr} {fd : FuncData} {C_Spot : Addr} (D0 : MethAt K C_Spot "__iter__" "Spot.__iter__" s_Spot___iter__ ["self"] f fd) (K_Spot : Klass K mg C_Spot "Spot" ["_text", "_root", "_steps"]) (z_iter : mg "iter" = none) : FnOk P w K mg base CX0 (1) f fd ["self"] (spIterF K C_Spot "_steps") := by
  refine D0.F.ok sc_Spot___iter__ (fun vs H Q E h => ?_) fun cdv A outer s H vs Q E hr h => ?_
  · obtain ⟨_, _, _, _, _, rfl, _⟩ := h; rfl
  · obtain ⟨a, dx, fs, l, xs, rfl, ha, hf, hl, q⟩ := h
    refine ⟨_, (show DSs _ (g0 H) _ _ _ from dss_one (ds_ret (de_callB dc_iter (by rfl) z_iter (by decide +kernel) (da_cons (de_fld K_Spot.cl (K_Spot.na 2 _ rfl) (dv 0)) (da_nil))))).pss, ?_⟩
    exact fld_at K_Spot.cl (K_Spot.na 2 _ rfl) rfl ha hf ⟨l, xs, rfl, hl, q⟩
def sp_chances : DSp := fun ds μ Q _ => ∃ (nm : CL → Prop) (ps qs : List CL), ds = [.str (mk ps.flatten), .str (mk qs.flatten)] ∧ SpotIn nm ps ∧ SpotIn nm qs ∧ Q (.lst ((chanceW ps qs).map .str)) μ
theorem len_chances : ∀ ds μ Q E, sp_chances ds μ Q E → ds.length = 2 := by
  rintro ds μ Q E ⟨nm, ps, qs, rfl, _⟩; rfl
abbrev s_chances : Stmt := topS 33
theorem sc_chances : FnScope ["first", "second", "one", "other", "mine", "theirs"] ["first", "second"] (defScope s_chances) := ⟨rfl, rfl, rfl, by decide +kernel, rfl, by decide +kernel, by decide +kernel⟩
set_option maxHeartbeats 1000000 in
theorem ok_chances {P : Program} {w : World} {K : PySem.W.Frag} {mg : Str → Option Value} {base : Heap} {f : Addr} {fd : FuncData} {C_Spot : Addr} (D0 : DefAt K mg "chances" s_chances ["first", "second"] f fd) (c_Spot___init__ : Made P w K mg base 5 C_Spot ["self", "text"] (sp_Spot___init__ C_Spot)) (c_chance_words : Called P w K mg base 4 "chance_words" ["one", "other"] sp_chance_words) (c_Spot_root : Got P w K mg base 1 C_Spot "root" ["self"] (sp_Spot_root C_Spot)) (K_Spot : Klass K mg C_Spot "Spot" ["_text", "_root", "_steps"]) (l_Spot : ListOf P w K mg base 1 C_Spot "_steps") (z_list : mg "list" = none) : FnOk P w K mg base CX0 (7) f fd ["first", "second"] (toSp K sp_chances) := by
  obtain ⟨f_Spot___init__, d_Spot___init__, k_Spot___init__, b_Spot___init__, F_Spot___init__⟩ := c_Spot___init__
  obtain ⟨f_chance_words, d_chance_words, m_chance_words, k_chance_words, b_chance_words, F_chance_words⟩ := c_chance_words
  obtain ⟨r_Spot_root, f_Spot_root, d_Spot_root, p_Spot_root, b_Spot_root, F_Spot_root⟩ := c_Spot_root
  obtain ⟨gl_Spot, gi_Spot, ol_Spot, oi_Spot, fl_Spot, fi_Spot⟩ := l_Spot
  refine fn_okF D0.F sc_chances (len_chances) fun B cdv A outer s H E hr => ⟨_, _, dss_cons (ds_set 2 sc_chances.nd (de_make k_Spot___init__ F_Spot___init__ (hr.mono (by decide)) b_Spot___init__ K_Spot.m (da_cons (dv 0) (da_nil))))
    (dss_cons (ds_set 3 sc_chances.nd (de_make k_Spot___init__ F_Spot___init__ (hr.mono (by decide)) b_Spot___init__ K_Spot.m (da_cons (dv 1) (da_nil))))
    (dss_cons (ds_set 4 sc_chances.nd (de_callTy (dc_listO false ol_Spot oi_Spot fl_Spot fi_Spot (hr.mono (by decide))) (by rfl) z_list (by decide +kernel) (da_cons (dv 2) (da_nil))))
    (dss_cons (ds_set 5 sc_chances.nd (de_callTy (dc_listO false ol_Spot oi_Spot fl_Spot fi_Spot (hr.mono (by decide))) (by rfl) z_list (by decide +kernel) (da_cons (dv 3) (da_nil))))
    (dss_one (ds_ret (de_call F_chance_words (hr.mono (by decide)) m_chance_words k_chance_words b_chance_words (da_cons (de_lst false (da_cons (de_prop K_Spot.cl p_Spot_root F_Spot_root (hr.mono (by decide)) b_Spot_root (dv 2)) (da_star (dv 4) (da_nil)))) (da_cons (de_lst false (da_cons (de_prop K_Spot.cl p_Spot_root F_Spot_root (hr.mono (by decide)) b_Spot_root (dv 3)) (da_star (dv 5) (da_nil)))) (da_nil))))))))), ?_⟩
  rintro ds μ Q EE ⟨nm, ps, qs, rfl, hp, hq, q⟩
  walk_at "dl0"
  walk_at "s"
  simp
  have hpl := hp.len
  have hql := hq.len
  intro x hx
  refine ⟨x, nm, ps, rfl, mup_same, hp, rfl, ?_⟩
  rw [mup_mup]
  have hS1 := (Sub.refl μ).mup (c := spotC C_Spot ps) hx
  have K1 := (Kn.nil (μ := μ)).add (c := spotC C_Spot ps) hx
  generalize mup μ x (spotC C_Spot ps) = μ1 at *
  subst hN
  walk_at "s"
  simp
  intro y hy
  refine ⟨y, nm, qs, rfl, mup_same, hq, rfl, ?_⟩
  rw [mup_mup]
  have hS2 := hS1.mup (c := spotC C_Spot qs) (hS1.none hy)
  have K2 := K1.add (c := spotC C_Spot qs) hy
  generalize mup μ1 y (spotC C_Spot qs) = μ2 at *
  clear K1 hS1 hx hy
  obtain ⟨r, as, rfl, hr, hal, has⟩ := hp.cases
  obtain ⟨t, bs, rfl, ht, hbl, hbs⟩ := hq.cases
  subst hN
  walk_at "s"
  simp [vw_spot (K2.g 1)]
  refine ⟨by omega, ?_⟩
  subst hN
  walk_at "s"
  simp [vw_spot (K2.g 0)]
  refine ⟨by omega, ?_⟩
  subst hN
  simp [vw_spot (K2.g 1), vw_spot (K2.g 0)]
  refine ⟨x, r :: as, rfl, K2.g 1, ?_⟩
  refine ⟨by rw [szl]; omega, oF_sp (K2.g 0) ?_⟩
  refine ⟨y, t :: bs, rfl, K2.g 0, ?_⟩
  exact ⟨by rw [szl]; omega, nm, r :: as, t :: bs, rfl, hp, hq, Fg.to q hS2⟩
def standW (ws : List Str) : Str := match ws with
  | [w] => if w = "same" then "same" else if w = "over" ∨ w = "overbox" then "around" else if w = "under" ∨ w = "underbox" then "within" else "apart"
  | _ => "perhaps"
def sp_stand_of : DSp := fun ds μ Q _ => ∃ (nm : CL → Prop) (ps qs : List CL), ds = [.str (mk ps.flatten), .str (mk qs.flatten)] ∧ SpotIn nm ps ∧ SpotIn nm qs ∧ Q (.str (standW (chanceW ps qs))) μ
theorem len_stand_of : ∀ ds μ Q E, sp_stand_of ds μ Q E → ds.length = 2 := by
  rintro ds μ Q E ⟨nm, ps, qs, rfl, _⟩; rfl
abbrev s_stand_of : Stmt := topS 34
theorem sc_stand_of : FnScope ["first", "second", "words"] ["first", "second"] (defScope s_stand_of) := ⟨rfl, rfl, rfl, by decide +kernel, rfl, by decide +kernel, by decide +kernel⟩
set_option maxHeartbeats 1000000 in
theorem ok_stand_of {P : Program} {w : World} {K : PySem.W.Frag} {mg : Str → Option Value} {base : Heap} {f : Addr} {fd : FuncData}  (D0 : DefAt K mg "stand_of" s_stand_of ["first", "second"] f fd) (c_chances : Called P w K mg base 7 "chances" ["first", "second"] sp_chances) (z_len : mg "len" = none) (g_STANDING_WORDS : Glob_STANDING_WORDS K w mg) : FnOk P w K mg base CX0 (8) f fd ["first", "second"] (toSp K sp_stand_of) := by
  obtain ⟨f_chances, d_chances, m_chances, k_chances, b_chances, F_chances⟩ := c_chances
  obtain ⟨a_STANDING_WORDS, m_STANDING_WORDS, k_STANDING_WORDS⟩ := g_STANDING_WORDS
  refine fn_ok D0.F sc_stand_of (len_stand_of) fun B cdv A outer s H E hr => ⟨_, _, dss_cons (ds_set 2 sc_stand_of.nd (de_call F_chances (hr.mono (by decide)) m_chances k_chances b_chances (da_cons (dv 0) (da_cons (dv 1) (da_nil)))))
    (dss_cons (ds_if (dt_cmp do_gt (de_callB dc_len (by rfl) z_len (by decide +kernel) (da_cons (dv 2) (da_nil))) (de_int))
      (dss_one (ds_ret (de_str)))
      (dss_nil))
    (dss_one (ds_ret (de_kd tb_STANDING_WORDS m_STANDING_WORDS k_STANDING_WORDS (de_ix (dv 2) (de_int)))))), ?_⟩
  rintro ds μ Q EE ⟨nm, ps, qs, rfl, hp, hq, q⟩
  walk_at "dl0"
  walk_at "s"
  simp
  refine ⟨nm, ps, qs, rfl, hp, hq, ?_⟩
  have tb : ∀ w ∈ ("apart" : Str) :: wordsJ, tb_STANDING_WORDS w = some (standW [w]) := by decide +kernel
  rcases chance_form ps qs with h | ⟨w, hw, h | h⟩
  · rw [h] at q ⊢
    subst hN
    simp
    rw [tb _ (by simp)]
    exact q
  · rw [h] at q ⊢
    subst hN
    simp
    rw [tb _ (List.mem_cons_of_mem _ hw)]
    exact q
  · rw [h] at q ⊢
    subst hN
    simp
    exact q
def sp__law_cut : DSp := fun ds μ Q _ => ∃ l : CL, ds = [.str (mk l)] ∧ l.length ≤ 1000 ∧ Q (.lst ((cutL l).map fun p => .str (mk p))) μ
theorem len__law_cut : ∀ ds μ Q E, sp__law_cut ds μ Q E → ds.length = 1 := by
  rintro ds μ Q E ⟨l, rfl, _⟩; rfl
@[simp ↓] theorem e__law_cut {l : CL} {μ : Mu} {Q : QD} {E : XDt} : sp__law_cut [.str (mk l)] μ Q E = (l.length ≤ 1000 ∧ Q (.lst ((cutL l).map fun p => .str (mk p))) μ) := propext ⟨fun ⟨m, e, h⟩ => by simp only [List.cons.injEq, D.str.injEq, mk_inj, and_true] at e; subst e; exact h, fun h => ⟨l, rfl, h⟩⟩
abbrev s__law_cut : Stmt := topS 41
theorem sc__law_cut : FnScope ["spot", "parts", "sign"] ["spot"] (defScope s__law_cut) := ⟨rfl, rfl, rfl, by decide +kernel, rfl, by decide +kernel, by decide +kernel⟩
set_option maxHeartbeats 1000000 in
theorem ok__law_cut {P : Program} {w : World} {K : PySem.W.Frag} {mg : Str → Option Value} {base : Heap} {f : Addr} {fd : FuncData}  (D0 : DefAt K mg "_law_cut" s__law_cut ["spot"] f fd)  : FnOk P w K mg base CX0 (1) f fd ["spot"] (toSp K sp__law_cut) := by
  refine fn_ok D0.F sc__law_cut (len__law_cut) fun B cdv A outer s H E hr => ⟨_, _, dss_cons (ds_set 1 sc__law_cut.nd (de_lst true (da_cons (de_str) (da_nil))))
    (dss_cons (ds_for PassesOwn.never rfl (di_str (dv 0)) (dg_name 2 sc__law_cut.nd)
      (dss_one (ds_if (dt_cmp do_in (dv 2) (de_str) (by rfl))
        (dss_one (ds_expr (de_bm PySem.F.plainAttrs_list PySem.F.slot_list_append PySem.F.type_list_append dm_append (dv 1) (da_cons (dv 2) (da_nil)))))
        (dss_one (ds_asg (de_op do_add (de_ix (dv 1) (de_neg (de_int))) (dv 2)) (dg_sub (dv 1) (de_neg (de_int))))))))
    (dss_one (ds_ret (de_frz (dv 1))))), ?_⟩
  rintro ds μ Q EE ⟨l, rfl, hl, q⟩
  walk_at "dl0"
  walk_at "s"
  simp
  refine ⟨sz_le (by omega), fun p hp => ?_⟩
  subst hN
  walk_at "s"
  refine for_hide fun L hL => ?_
  simp
  subst hL
  refine loop_it (fun xs ρ μ' => ∃ (done : List CL) (acc rest : CL) (k : Option D), xs = rest.map (fun c => .str (mk [c])) ∧ ρ = [some (.str (mk l)), some (.ptr p), k] ∧ μ' = mup μ p (.lst ((done ++ [acc]).map fun p => .str (mk p))) ∧ cutL l = done ++ cutA acc rest ∧ done.length + rest.length ≤ l.length ∧ acc.length + rest.length ≤ l.length) ⟨[], [], l, none, rfl, rfl, rfl, rfl, by simp, by simp⟩ ?_ ?_
  · rintro ρ μ' ⟨done, acc, rest, k, e, rfl, rfl, hc, _⟩
    have : rest = [] := by simpa using e.symm
    subst this
    show N _ _
    subst hN
    simp [mdel_mup hp]
    rw [hc] at q
    simpa [cutA] using q
  · rintro x r ρ μ' M ⟨done, acc, rest, k, e, rfl, rfl, hc, h1, h2⟩ hM
    cases rest with
    | nil => simp at e
    | cons c rest =>
    simp only [List.map_cons, List.cons.injEq] at e
    obtain ⟨rfl, rfl⟩ := e
    have hb : (c ∈ (".^[" : Str).cps) = (begC c = true) := by
      have : (".^[" : Str).cps = #[46, 94, 91] := by decide +kernel
      rw [this]; simp [begC, or_assoc]
    simp only [List.length_cons] at h1 h2
    simp
    simp only [hb]
    split
    · next h =>
      refine ⟨sz_lt (by omega), hM _ _ ⟨done ++ [acc], [c], rest, _, rfl, rfl, by simp, by rw [hc, cutA, if_pos h]; simp, by simp; omega, by simp; omega⟩⟩
    · next h =>
      rw [ixN_m1 (by omega)]
      refine ⟨sz_le (by omega), hM _ _ ⟨done, acc ++ [c], rest, _, rfl, rfl, ?_, by rw [hc, cutA, if_neg h], by omega, by simp; omega⟩⟩
      have : done.length + 1 - 1 = (List.map (fun p => D.str (mk p)) done).length := by simp
      rw [this, List.set_append_right _ _ (Nat.le_refl _)]
      simp
def sp__law_end_of : DSp := fun ds μ Q _ => ∃ (x : D) (O : Lead) (s : CL), ds = [x, .str (mk s)] ∧ vw μ x = .dic (dicL O) ∧ WfO O ∧ O.length ≤ 20 ∧ Q (.str (mk (ownF O s))) μ
theorem len__law_end_of : ∀ ds μ Q E, sp__law_end_of ds μ Q E → ds.length = 2 := by
  rintro ds μ Q E ⟨x, O, s, rfl, _⟩; rfl
theorem e__law_end_of {x : D} {O : Lead} {s : CL} {μ : Mu} {Q : QD} {E : XDt} (hx : vw μ x = .dic (dicL O)) (hw : WfO O) (hl : O.length ≤ 20) (q : Q (.str (mk (ownF O s))) μ) : sp__law_end_of [x, .str (mk s)] μ Q E := ⟨x, O, s, rfl, hx, hw, hl, q⟩
abbrev s__law_end_of : Stmt := topS 47
theorem sc__law_end_of : FnScope ["owner", "step", "k"] ["owner", "step"] (defScope s__law_end_of) := ⟨rfl, rfl, rfl, by decide +kernel, rfl, by decide +kernel, by decide +kernel⟩
set_option maxHeartbeats 1000000 in
theorem ok__law_end_of {P : Program} {w : World} {K : PySem.W.Frag} {mg : Str → Option Value} {base : Heap} {f : Addr} {fd : FuncData}  (D0 : DefAt K mg "_law_end_of" s__law_end_of ["owner", "step"] f fd) (z_range : mg "range" = none) : FnOk P w K mg base CX0 (1) f fd ["owner", "step"] (toSp K sp__law_end_of) := by
  refine fn_ok D0.F sc__law_end_of (len__law_end_of) fun B cdv A outer s H E hr => ⟨_, _, dss_cons (ds_for PassesOwn.never rfl (di_range1 (by rfl) z_range (da_cons (de_int) (da_nil))) (dg_name 2 sc__law_end_of.nd)
      (dss_one (ds_if (dt_din hr (dv 1) (dv 0))
        (dss_one (ds_set 1 sc__law_end_of.nd (de_dget hr (dv 0) (dv 1))))
        (dss_nil))))
    (dss_one (ds_ret (dv 1))), ?_⟩
  rintro ds μ Q EE ⟨x, O, s, rfl, hx, hw, hl, q⟩
  walk_at "dl0"
  walk_at "s"
  refine for_rng (fun j ρ μ' => ∃ k : Option D, ρ = [some x, some (.str (mk (goF O j.toNat s))), k] ∧ μ' = μ) (by omega) (by omega) ⟨none, rfl, rfl⟩ ?_ ?_
  · rintro ρ μ' ⟨k, rfl, rfl⟩
    show N _ _
    subst hN
    simp
    rw [go_root hw s (by omega)]
    exact q
  · rintro j ρ μ' M j0 j1 ⟨k, rfl, rfl⟩ hM
    simp [hx, keyD, val_dicL]
    have e : (j + 1).toNat = j.toNat + 1 := by omega
    cases h : getL O (goF O j.toNat s) with
    | some t => simpa [e, goF_succ, h] using hM _ _ ⟨some (.int j), rfl, rfl⟩
    | none => simpa [e, goF_succ, h] using hM _ _ ⟨some (.int j), rfl, rfl⟩
def sp__law_possible : DSp := fun ds μ Q _ => ∃ (nm : CL → Prop) (ps qs : List CL), ds = [.str (mk ps.flatten), .str (mk qs.flatten)] ∧ SpotIn nm ps ∧ SpotIn nm qs ∧ Q (.lst ((chanceW ps qs).map .str)) μ
theorem len__law_possible : ∀ ds μ Q E, sp__law_possible ds μ Q E → ds.length = 2 := by
  rintro ds μ Q E ⟨nm, ps, qs, rfl, _⟩; rfl
abbrev s__law_possible : Stmt := topS 48
theorem sc__law_possible : FnScope ["first", "second", "mine", "theirs", "owner", "asked", "k", "one", "other", "word", "rest", "step"] ["first", "second"] (defScope s__law_possible) := ⟨rfl, rfl, rfl, by decide +kernel, rfl, by decide +kernel, by decide +kernel⟩
set_option maxHeartbeats 1000000 in
theorem ok__law_possible {P : Program} {w : World} {K : PySem.W.Frag} {mg : Str → Option Value} {base : Heap} {f : Addr} {fd : FuncData}  (D0 : DefAt K mg "_law_possible" s__law_possible ["first", "second"] f fd) (c__law_cut : Called P w K mg base 1 "_law_cut" ["spot"] sp__law_cut) (c__law_end_of : Called P w K mg base 1 "_law_end_of" ["owner", "step"] sp__law_end_of) (z_range : mg "range" = none) (z_min : mg "min" = none) (z_len : mg "len" = none) (z_any : mg "any" = none) : FnOk P w K mg base CX0 (2) f fd ["first", "second"] (toSp K sp__law_possible) := by
  obtain ⟨f__law_cut, d__law_cut, m__law_cut, k__law_cut, b__law_cut, F__law_cut⟩ := c__law_cut
  obtain ⟨f__law_end_of, d__law_end_of, m__law_end_of, k__law_end_of, b__law_end_of, F__law_end_of⟩ := c__law_end_of
  refine fn_okF D0.F sc__law_possible (len__law_possible) fun B cdv A outer s H E hr => ⟨_, _, dss_cons (ds_set 2 sc__law_possible.nd (de_call F__law_cut (hr.mono (by decide)) m__law_cut k__law_cut b__law_cut (da_cons (dv 0) (da_nil))))
    (dss_cons (ds_set 3 sc__law_possible.nd (de_call F__law_cut (hr.mono (by decide)) m__law_cut k__law_cut b__law_cut (da_cons (dv 1) (da_nil))))
    (dss_cons (ds_set 4 sc__law_possible.nd (de_dnew true))
    (dss_cons (ds_set 5 sc__law_possible.nd (de_bl))
    (dss_cons (ds_for PassesOwn.never rfl (di_range1 (by rfl) z_range (da_cons (de_callB (dc_min2 rfl) (by rfl) z_min (by decide +kernel) (da_cons (de_callB dc_len (by rfl) z_len (by decide +kernel) (da_cons (dv 2) (da_nil))) (da_cons (de_callB dc_len (by rfl) z_len (by decide +kernel) (da_cons (dv 3) (da_nil))) (da_nil)))) (da_nil))) (dg_name 6 sc__law_possible.nd)
      (dss_one (ds_if (dt_cmp (do_ne hr) (de_ix (dv 2) (dv 6)) (de_ix (dv 3) (dv 6)))
        (dss_cons (ds_if (DW.dt (dw_or (dt_cmp (do_eq hr) (dv 6) (de_int)) (dw_or (dt_cmp (do_ne hr) (de_ix (de_ix (dv 2) (dv 6)) (de_int)) (de_str)) (dw_or1 (dt_cmp (do_ne hr) (de_ix (de_ix (dv 3) (dv 6)) (de_int)) (de_str))))))
          (dss_one (ds_ret (de_lst false (da_cons (de_str) (da_nil)))))
          (dss_nil))
        (dss_cons (ds_set 7 sc__law_possible.nd (de_call F__law_end_of (hr.mono (by decide)) m__law_end_of k__law_end_of b__law_end_of (da_cons (dv 4) (da_cons (de_ix (dv 2) (dv 6)) (da_nil)))))
        (dss_cons (ds_set 8 sc__law_possible.nd (de_call F__law_end_of (hr.mono (by decide)) m__law_end_of k__law_end_of b__law_end_of (da_cons (dv 4) (da_cons (de_ix (dv 3) (dv 6)) (da_nil)))))
        (dss_cons (ds_set 5 sc__law_possible.nd (de_bl))
        (dss_cons (ds_if (DW.dt (dw_and (dt_cmp (do_ne hr) (dv 7) (dv 8)) (dw_and (dt_cmp do_in (de_ix (dv 7) (de_int)) (de_str) (by rfl)) (dw_and1 (dt_cmp do_in (de_ix (dv 8) (de_int)) (de_str) (by rfl))))))
          (dss_one (ds_ret (de_lst false (da_cons (de_str) (da_nil)))))
          (dss_nil))
        (dss_one (ds_if (DW.dt (dw_and (dt_cmp (do_ne hr) (dv 7) (dv 8)) (dw_and1 (dt_cmp do_in (de_ix (dv 7) (de_int)) (de_str) (by rfl)))))
          (dss_one (ds_dput hr (dv 4) (dv 8) (dv 7)))
          (dss_one (ds_if (dt_cmp (do_ne hr) (dv 7) (dv 8))
            (dss_one (ds_dput hr (dv 4) (dv 7) (dv 8)))
            (dss_nil))))))))))
        (dss_nil))))
    (dss_cons (ds_set 9 sc__law_possible.nd (de_str))
    (dss_cons (ds_set 10 sc__law_possible.nd (de_sl false (dv 3) (do_some (de_callB dc_len (by rfl) z_len (by decide +kernel) (da_cons (dv 2) (da_nil)))) (do_none)))
    (dss_cons (ds_if (dt_cmp do_lt (de_callB dc_len (by rfl) z_len (by decide +kernel) (da_cons (dv 2) (da_nil))) (de_callB dc_len (by rfl) z_len (by decide +kernel) (da_cons (dv 3) (da_nil))))
      (dss_one (ds_set 9 sc__law_possible.nd (de_str)))
      (dss_nil))
    (dss_cons (ds_if (dt_cmp do_gt (de_callB dc_len (by rfl) z_len (by decide +kernel) (da_cons (dv 2) (da_nil))) (de_callB dc_len (by rfl) z_len (by decide +kernel) (da_cons (dv 3) (da_nil))))
      (dss_cons (ds_set 9 sc__law_possible.nd (de_str))
      (dss_one (ds_set 10 sc__law_possible.nd (de_sl false (dv 2) (do_some (de_callB dc_len (by rfl) z_len (by decide +kernel) (da_cons (dv 3) (da_nil)))) (do_none)))))
      (dss_nil))
    (dss_cons (ds_if (dt_tru (de_callB (dc_any rfl) (by rfl) z_any (by decide +kernel) (da_cons (de_lcA false (own := [("step", 11)]) rfl sc__law_possible.nd (di_list (dv 10)) (blkOk_by (N := ["first", "second", "mine", "theirs", "owner", "asked", "k", "one", "other", "word", "rest", "step"]) (sc := defScope s__law_possible) (by decide +kernel)) (fun _ _ _ _ _ => dg_name 11 sc__law_possible.nd) (keep_name (by decide)) (fun _ _ _ _ _ => dts_nil) (fun _ _ _ _ _ => de_cmp (do_eq hr) (de_ix (dv 11) (de_int)) (de_str))) (da_nil))))
      (dss_one (ds_set 9 sc__law_possible.nd (de_op do_add (dv 9) (de_str))))
      (dss_nil))
    (dss_cons (ds_if (dt_tru (dv 5))
      (dss_one (ds_ret (de_lst false (da_cons (dv 9) (da_cons (de_str) (da_nil))))))
      (dss_nil))
    (dss_one (ds_ret (de_lst false (da_cons (dv 9) (da_nil))))))))))))))), ?_⟩
  rintro ds μ Q EE ⟨nm, ps, qs, rfl, hp, hq, q⟩
  walk_at "dl0"
  walk_at "s"
  simp
  have hp6 := hp.small
  have hq6 := hq.small
  rw [← List.length_flatten, hp.cut]
  refine ⟨by omega, ?_⟩
  subst hN
  walk_at "s"
  simp
  rw [← List.length_flatten, hq.cut]
  refine ⟨by omega, ?_⟩
  subst hN
  walk_at "s"
  simp
  intro a ha
  subst hN
  walk_at "s"
  simp
  subst hN
  walk_at "s"
  refine for_hide fun L hL => ?_
  simp
  subst hL
  obtain ⟨r, as, rfl, hr, hal, has⟩ := hp.cases
  obtain ⟨t, bs, rfl, ht, hbl, hbs⟩ := hq.cases
  have hm : (if (t :: bs).length < (r :: as).length then ((t :: bs).length : Int) else ((r :: as).length : Int)) = (min as.length bs.length : Nat) + 1 := by
    simp only [List.length_cons]; split <;> omega
  rw [hm]
  rw [← law_chance] at q
  refine ⟨by omega, loop_rng (fun j ρ μ' => ∃ (O : Lead) (f : Bool) (e6 e7 e8 : Option D), ρ = [some (.str (mk (r :: as).flatten)), some (.str (mk (t :: bs).flatten)), some (.lst ((r :: as).map fun p => .str (mk p))), some (.lst ((t :: bs).map fun p => .str (mk p))), some (.ptr a), some (.bl f), e6, e7, e8, none, none, none] ∧ μ' = mup μ a (.dic (dicL O)) ∧ WfO O ∧ (O.length : Int) ≤ j ∧ (∀ p ∈ O, CelIn nm p.2) ∧ (j = 0 → O = [] ∧ f = false) ∧ (0 < j → r = t ∧ lawO (O, f) (as.drop (j - 1).toNat) (bs.drop (j - 1).toNat) = lawO ([], false) as bs)) (by omega) ⟨[], false, none, none, none, rfl, rfl, WfO.nil, by simp, by simp, fun _ => ⟨rfl, rfl⟩, fun h => by omega⟩ ?_ ?_⟩
  · rintro ρ μ' ⟨O, f, e6, e7, e8, rfl, rfl, hw, hol, hoc, h0, h1⟩
    obtain ⟨rfl, h9⟩ := h1 (by omega)
    clear h1 h0
    have hend : lawO ([], false) as bs = some (O, f) := by
      rw [← h9, show (((min as.length bs.length : Nat) : Int) + 1 - 1).toNat = min as.length bs.length by omega]
      by_cases k : as.length ≤ bs.length
      · rw [List.drop_of_length_le (by omega)]; cases bs.drop (min as.length bs.length) <;> rfl
      · rw [List.drop_of_length_le (l := bs) (by omega)]; cases as.drop (min as.length bs.length) <;> rfl
    simp only [lawW, hend, if_true] at q
    show N _ _
    subst hN
    walk_at "s"
    simp
    have fs : Sub μ (mup μ a (.dic (dicL O))) := (Sub.refl μ).mup ha
    subst hN
    walk_at "s"
    simp
    have hdr : ∀ (x : CL) (us : List CL) (n : Nat), DL.cutD (D.str (mk x) :: us.map fun p => D.str (mk p)) (some ((n : Int) + 1)) none = (us.drop n).map fun p => D.str (mk p) := by
      intro x us n
      rw [cutD_behind _ (by omega), show ((n : Int) + 1).toNat = n + 1 by omega, List.drop_succ_cons, List.map_drop]
    rw [hdr]
    have hsame : ("same" : Str).length ≤ 10 := by decide +kernel
    subst hN
    walk_at "s"
    simp
    suffices G : ∀ w : Str, w = (if as.length < bs.length then "under" else "same") → N [some (.str (mk (r ++ as.flatten))), some (.str (mk (r ++ bs.flatten))), some (.lst (D.str (mk r) :: as.map fun p => .str (mk p))), some (.lst (D.str (mk r) :: bs.map fun p => .str (mk p))), some (.ptr a), some (.bl f), e6, e7, e8, some (.str w), some (.lst (List.drop as.length (bs.map fun p => .str (mk p)))), none] (mup μ a (.dic (dicL O))) by
      refine iteI (fun h => G _ (by rw [if_pos h])) (fun h => G _ (by rw [if_neg h]))
    intro w hw
    subst hN
    walk_at "s"
    have fin : ∀ (w : Str) (rest : List CL), (∀ s ∈ rest, StepIn nm s) → rest.length ≤ 6 → w.length ≤ 10 → jointW as bs = boxW w (crossB rest) → N [some (.str (mk (r ++ as.flatten))), some (.str (mk (r ++ bs.flatten))), some (.lst (D.str (mk r) :: as.map fun p => .str (mk p))), some (.lst (D.str (mk r) :: bs.map fun p => .str (mk p))), some (.ptr a), some (.bl f), e6, e7, e8, some (.str w), some (.lst (rest.map fun p => .str (mk p))), none] (mup μ a (.dic (dicL O))) := by
      intro w rest hr6 hl6 hw10 hj
      subst hN
      walk_at "s"
      have hbx : ("box" : Str).length ≤ 10 := by decide +kernel
      have e94 : ("^" : Str) = mk [94] := by decide +kernel
      have rt : ∀ (u : Str) (μ' : Mu), Sub μ μ' → jointW as bs = u → N [some (.str (mk (r ++ as.flatten))), some (.str (mk (r ++ bs.flatten))), some (.lst (D.str (mk r) :: as.map fun p => .str (mk p))), some (.lst (D.str (mk r) :: bs.map fun p => .str (mk p))), some (.ptr a), some (.bl f), e6, e7, e8, some (.str u), some (.lst (rest.map fun p => .str (mk p))), none] μ' := by
        intro u μ' hs hu
        rw [hu] at q
        subst hN
        cases f with
        | true => simp at q ⊢; exact ⟨sz_le (by omega), Fg.to q hs⟩
        | false => simp at q ⊢; exact ⟨sz_le (by omega), Fg.to q hs⟩
      refine if_hide fun N2 hN2 => ?_
      simp
      intro p2 hp2
      refine comp_map (fun p => D.str (mk p)) (fun s => .bl (s.head? == some 94)) (by simp; omega) (fun s hs acc N3 ha3 hN3 => ?_) ?_
      · obtain ⟨c, sr, rfl, _, _, _, l9⟩ := (hr6 s hs).shape
        simp at hN3 ⊢
        rw [e94]
        simp
        simp at l9
        exact ⟨by rw [szl]; omega, sz_lt ha3, hN3⟩
      · have hb : blsOf (rest.map fun s => D.bl (s.head? == some 94)) = some (rest.map fun s => s.head? == some 94) := by
          have := blsOf_map (rest.map fun s : CL => s.head? == some 94)
          rwa [List.map_map] at this
        simp only [mup_same, List.nil_append, hb, mdel_mup hp2]
        have fs2 := fs
        refine iteI (fun h => ?_) (fun h => ?_)
        · have hc : crossB rest = true := by unfold crossB; rw [List.any_eq_true]; simpa using h
          rw [hc, boxW, if_pos rfl] at hj
          subst hN2
          simp
          exact ⟨by rw [szl]; omega, rt _ _ fs hj⟩
        · have hc : crossB rest = false := by unfold crossB; rw [← Bool.not_eq_true, List.any_eq_true]; simpa using h
          rw [hc, boxW, if_neg (by simp)] at hj
          exact rt _ _ fs hj
    simp
    rw [hdr]
    unfold jointW at fin
    by_cases h1 : as.length < bs.length
    · rw [if_pos h1] at hw
      subst hw
      rw [if_neg (by omega)]
      simpa only [List.map_drop] using fin "under" (bs.drop as.length) (fun s h => hbs s (List.mem_of_mem_drop h)) (by simp; omega) (by decide +kernel) (by rw [if_neg (by omega), if_neg (by omega)])
    · rw [if_neg h1] at hw
      subst hw
      refine iteI (fun h2 => ?_) (fun h2 => ?_)
      · simpa only [List.map_drop] using fin "over" (as.drop bs.length) (fun s h => has s (List.mem_of_mem_drop h)) (by simp; omega) (by decide +kernel) (by rw [if_neg (by omega), if_pos (by omega)])
      · have he : as.length = bs.length := by omega
        have := fin "same" [] (by simp) (by simp) hsame (by rw [if_pos he]; rfl)
        rw [he]
        have e0 : List.drop bs.length (bs.map fun p => D.str (mk p)) = [] := List.drop_of_length_le (by simp)
        rw [e0]
        exact this
  · rintro j ρ μ' M j0 j1 ⟨O, f, e6, e7, e8, rfl, rfl, hw, hol, hoc, h0, h1⟩ hM
    by_cases hj : j = 0
    · subst hj
      obtain ⟨rfl, rfl⟩ := h0 rfl
      simp
      refine iteI (fun hrt => ?_) (fun hrt => ?_)
      · exact hM _ _ ⟨[], false, some (.int 0), e7, e8, by simp, rfl, WfO.nil, by simp, by simp, fun h => by omega, fun _ => ⟨hrt, by simp⟩⟩
      · simp only [lawW, if_neg hrt] at q
        exact ⟨sz_le (by omega), Fg.to q ((Sub.refl μ).mup ha)⟩
    · obtain ⟨rfl, h9⟩ := h1 (by omega)
      clear h1 h0
      obtain ⟨i, rfl⟩ : ∃ i : Nat, j = i + 1 := ⟨(j - 1).toNat, by omega⟩
      have hi1 : i < as.length := by omega
      have hi2 : i < bs.length := by omega
      rw [show ((i : Int) + 1 - 1).toNat = i by omega, List.drop_eq_getElem_cons hi1, List.drop_eq_getElem_cons hi2] at h9
      have hx := has _ (List.getElem_mem hi1)
      have hy := hbs _ (List.getElem_mem hi2)
      have ha1 : atI (D.str (mk r) :: as.map fun p => D.str (mk p)) ((i : Int) + 1) = some (.str (mk as[i])) := by
        rw [atI_int (by omega), show ((i : Int) + 1).toNat = i + 1 by omega]; simp [hi1]
      have hb1 : atI (D.str (mk r) :: bs.map fun p => D.str (mk p)) ((i : Int) + 1) = some (.str (mk bs[i])) := by
        rw [atI_int (by omega), show ((i : Int) + 1).toNat = i + 1 by omega]; simp [hi2]
      have next : ∀ (O' : Lead) (f' : Bool) (e6 e7 e8 : Option D), lawO (O', f') (as.drop (i + 1)) (bs.drop (i + 1)) = lawO ([], false) as bs → WfO O' → O'.length ≤ i + 2 → (∀ p ∈ O', CelIn nm p.2) → M [some (.str (mk (r :: as).flatten)), some (.str (mk (r :: bs).flatten)), some (.lst ((r :: as).map fun p => .str (mk p))), some (.lst ((r :: bs).map fun p => .str (mk p))), some (.ptr a), some (.bl f'), e6, e7, e8, none, none, none] (mup μ a (.dic (dicL O'))) := fun O' f' e6 e7 e8 hl hw hn hc => hM _ _ ⟨O', f', e6, e7, e8, rfl, rfl, hw, by omega, hc, fun h => by omega, fun _ => ⟨rfl, by rw [show ((i : Int) + 1 + 1 - 1).toNat = i + 1 by omega]; exact hl⟩⟩
      clear hM
      generalize as[i] = x at *
      generalize bs[i] = y at *
      obtain ⟨c, xr, rfl, _⟩ := hx.shape
      obtain ⟨d, yr, rfl, _⟩ := hy.shape
      have e91 : ("[" : Str) = mk [91] := by decide +kernel
      have fs : Sub μ (mup μ a (.dic (dicL O))) := (Sub.refl μ).mup ha
      refine if_hide fun N hN => ?_
      simp [ha1, hb1, e91]
      refine iteI (fun hne => ?_) (fun he => ?_)
      · have hxy : ¬ (c :: xr = d :: yr) := fun e => by cases e; simp at hne
        rw [lawO, if_neg hxy] at h9
        obtain ⟨_, _, e1, _, _, _, l1⟩ := hx.shape
        obtain ⟨_, _, e2, _, _, _, l2⟩ := hy.shape
        simp only [List.length_cons] at l1 l2
        have bad : (¬ (isCel (c :: xr) = true ∧ isCel (d :: yr) = true)) → Fg (Q (.lst [.str "apart"])) (mup μ a (.dic (dicL O))) := fun hb => by
          rw [if_neg hb] at h9
          simp only [lawW, ← h9, if_true] at q
          exact Fg.to q fs
        subst hN
        walk_at "s"
        simp [ha1, hb1, e91]
        rw [if_neg (by omega)]
        refine ⟨by rw [szl]; omega, iteI (fun hc => ⟨by rw [szl]; omega, iteI (fun hd => ?_) (fun hd => ⟨sz_le (by omega), bad (by simp [isCel]; omega)⟩)⟩) (fun hc => ⟨sz_le (by omega), bad (by simp [isCel]; omega)⟩)⟩
        subst hc hd
        rw [if_pos ⟨rfl, rfl⟩] at h9
        have cx : CelIn nm (91 :: xr) := ⟨hx, rfl⟩
        have cy : CelIn nm (91 :: yr) := ⟨hy, rfl⟩
        have vwO : vw (mup μ a (.dic (dicL O))) (.ptr a) = .dic (dicL O) := by simp
        have rx := own_root hw (91 :: xr)
        have ry := own_root hw (91 :: yr)
        have gx := own_cel hoc cx
        have gy := own_cel hoc cy
        obtain ⟨cu, ur, eu, ku⟩ := gx.second
        obtain ⟨cv, vr, ev, kv⟩ := gy.second
        have hO : ∀ O', ownS O (91 :: xr) (91 :: yr) = some O' → WfO O' ∧ O'.length ≤ i + 2 ∧ (∀ p ∈ O', CelIn nm p.2) ∧ lawO (O', true) (as.drop (i + 1)) (bs.drop (i + 1)) = lawO ([], false) as bs := fun O' e => by
          have := ownS_wf hw e
          rw [e] at h9
          exact ⟨this.1, by omega, ownS_cel hoc cx cy e, h9⟩
        have hNo : ownS O (91 :: xr) (91 :: yr) = none → Fg (Q (.lst [.str "apart"])) (mup μ a (.dic (dicL O))) := fun e => by
          rw [e] at h9
          simp only [lawW, ← h9, if_true] at q
          exact Fg.to q fs
        clear h9 bad
        unfold ownS at hO hNo
        dsimp only at hO hNo
        rw [eu, ev] at hO hNo
        rw [eu] at ku gx rx
        rw [ev] at kv gy ry
        rw [ku, kv] at hO hNo
        simp only [decide_eq_true_eq] at hO hNo
        obtain ⟨_, _, _, _, _, _, l3⟩ := gx.1.shape
        obtain ⟨_, _, _, _, _, _, l4⟩ := gy.1.shape
        simp only [List.length_cons] at l3 l4
        have dl : (dicL O).length < sizeLine := by rw [dicL_len, szl]; omega
        subst hN
        walk_at "s"
        simp [ha1]
        refine e__law_end_of vwO hw (by omega) ?_
        rw [eu]
        subst hN
        walk_at "s"
        simp [hb1]
        refine e__law_end_of vwO hw (by omega) ?_
        rw [ev]
        clear eu ev
        subst hN
        walk_at "s"
        simp
        subst hN
        walk_at "s"
        simp [digit_in]
        have mup2 : ∀ O' : Lead, mup (mup μ a (.dic (dicL O))) a (.dic (dicL O')) = mup μ a (.dic (dicL O')) := fun O' => mup_mup
        have last : ∀ (O' : Lead), lawO (O', true) (as.drop (i + 1)) (bs.drop (i + 1)) = lawO ([], false) as bs → WfO O' → O'.length ≤ i + 2 → (∀ p ∈ O', CelIn nm p.2) → M [some (.str (mk (r ++ as.flatten))), some (.str (mk (r ++ bs.flatten))), some (.lst (D.str (mk r) :: as.map fun p => .str (mk p))), some (.lst (D.str (mk r) :: bs.map fun p => .str (mk p))), some (.ptr a), some (.bl true), some (.int ((i : Int) + 1)), some (.str (mk (91 :: cu :: ur))), some (.str (mk (91 :: cv :: vr))), none, none, none] (mup μ a (.dic (dicL O'))) := fun O' a1 a2 a3 a4 => by
          have z := next O' true (some (.int ((i : Int) + 1))) (some (.str (mk (91 :: cu :: ur)))) (some (.str (mk (91 :: cv :: vr)))) a1 a2 a3 a4
          simp only [List.flatten_cons, List.map_cons] at z
          exact z
        clear next
        by_cases k1 : 91 :: cu :: ur = 91 :: cv :: vr
        · obtain ⟨w, l, cc, g⟩ := hO O (by rw [if_pos k1])
          cases k1
          try simp
          subst hN
          try simp [digit_in]
          exact last O g w l cc
        · have k1' : ¬ (cu = cv ∧ ur = vr) := fun h => k1 (by rw [h.1, h.2])
          have k1'' : ¬cu = cv ∨ ¬ur = vr := by
            by_cases h : cu = cv
            · exact .inr fun h2 => k1' ⟨h, h2⟩
            · exact .inl h
          rw [if_pos k1'']
          by_cases k2 : 48 ≤ cu ∧ cu ≤ 57
          · simp only [if_pos k2]
            by_cases k3 : 48 ≤ cv ∧ cv ≤ 57
            · simp only [if_pos k3]
              exact ⟨by rw [szl]; omega, by rw [szl]; omega, sz_le (by omega), hNo (by rw [if_neg k1, if_pos ⟨k2, k3⟩])⟩
            · simp only [if_neg k3]
              obtain ⟨w, l, cc, g⟩ := hO _ (by rw [if_neg k1, if_neg (fun h => k3 h.2), if_pos k2])
              refine ⟨by rw [szl]; omega, by rw [szl]; omega, ?_⟩
              subst hN
              simp [digit_in]
              rw [if_pos k1'', if_pos k2]
              rw [put_dicL (getL_none.mpr ry)]
              exact ⟨by rw [szl]; omega, dl, last _ g w l cc⟩
          · simp only [if_neg k2]
            obtain ⟨w, l, cc, g⟩ := hO _ (by rw [if_neg k1, if_neg (fun h => k2 h.1), if_neg k2])
            refine ⟨by rw [szl]; omega, ?_⟩
            subst hN
            simp [digit_in]
            rw [if_pos k1'', if_neg k2, if_pos k1'']
            rw [put_dicL (getL_none.mpr rx)]
            exact ⟨by rw [szl]; omega, dl, last _ g w l cc⟩
      · obtain ⟨rfl, rfl⟩ : c = d ∧ xr = yr := ⟨Decidable.byContradiction fun c => he (.inl c), Decidable.byContradiction fun c => he (.inr c)⟩
        rw [lawO, if_pos rfl] at h9
        have z := next O f (some (.int ((i : Int) + 1))) e7 e8 h9 hw (by omega) hoc
        simp only [List.flatten_cons, List.map_cons] at z
        exact z
abbrev sp__law_draw : DSp := sp_draw
abbrev sp__law_draw_p : DSp := sp_draw_p
theorem len__law_draw : ∀ ds μ Q E, sp_draw_p ds μ Q E → ds.length = 2 := by
  rintro ds μ Q E ⟨a, l, ns, p, r, c, sz, rfl, _⟩; rfl
abbrev s__law_draw : Stmt := topS 37
theorem sc__law_draw : FnScope ["source", "size", "number", "drawn", "mixed"] ["source", "size"] (defScope s__law_draw) := ⟨rfl, rfl, rfl, by decide +kernel, rfl, by decide +kernel, by decide +kernel⟩
set_option maxHeartbeats 1000000 in
theorem ok__law_draw_p {P : Program} {w : World} {K : PySem.W.Frag} {mg : Str → Option Value} {base : Heap} {f : Addr} {fd : FuncData}  (D0 : DefAt K mg "_law_draw" s__law_draw ["source", "size"] f fd) (z_len : mg "len" = none) (z_int : mg "int" = none) : FnOk P w K mg base CX0 (1) f fd ["source", "size"] (toSp K sp__law_draw_p) := by
  refine fn_ok D0.F sc__law_draw (len__law_draw) fun B cdv A outer s H E hr => ⟨_, _, dss_cons (ds_if (dt_cmp do_ge (de_ix (dv 0) (de_int)) (de_callB dc_len (by rfl) z_len (by decide +kernel) (da_cons (de_ix (dv 0) (de_int)) (da_nil))))
      (dss_one (ds_ret (de_int)))
      (dss_nil))
    (dss_cons (ds_set 2 sc__law_draw.nd (de_ix (de_ix (dv 0) (de_int)) (de_ix (dv 0) (de_int))))
    (dss_cons (ds_if (dt_cmp do_lt (dv 2) (de_int))
      (dss_one (ds_set 2 sc__law_draw.nd (de_op do_sub (de_neg (de_int)) (dv 2))))
      (dss_nil))
    (dss_cons (ds_if (dt_cmp do_lt (de_ix (dv 0) (de_int)) (de_int))
      (dss_cons (ds_asg (dv 2) (dg_sub (dv 0) (de_int)))
      (dss_one (ds_asg (de_int) (dg_sub (dv 0) (de_int)))))
      (dss_nil))
    (dss_cons (ds_asg (de_op do_add (de_ix (dv 0) (de_int)) (de_int)) (dg_sub (dv 0) (de_int)))
    (dss_cons (ds_if (dt_cmp do_ge (dv 2) (de_op do_pow (de_int) (de_int)))
      (dss_cons (ds_set 3 sc__law_draw.nd (de_op do_mod (de_callTy dc_int (by rfl) z_int (by decide +kernel) (da_cons (de_ix (dv 0) (de_int)) (da_nil))) (dv 1)))
      (dss_cons (ds_asg (de_op do_div (de_ix (dv 0) (de_int)) (dv 1)) (dg_sub (dv 0) (de_int)))
      (dss_one (ds_if (DW.dt (dw_and (dt_cmp do_gt (de_ix (dv 0) (de_int)) (de_int)) (dw_and1 (dt_cmp do_lt (de_ix (dv 0) (de_int)) (de_int)))))
        (dss_one (ds_ret (dv 3)))
        (dss_nil)))))
      (dss_one (ds_if (dt_cmp (do_eq hr) (de_ix (dv 0) (de_int)) (de_int))
        (dss_cons (ds_set 4 sc__law_draw.nd (de_op do_mod (de_callTy dc_int (by rfl) z_int (by decide +kernel) (da_cons (de_op do_add (de_op do_add (de_op do_mul (dv 2) (de_int)) (de_op do_mul (de_ix (dv 0) (de_int)) (de_int))) (de_int)) (da_nil))) (de_int)))
        (dss_one (ds_ret (de_op do_mod (de_callTy dc_int (by rfl) z_int (by decide +kernel) (da_cons (de_op do_mod (de_callTy dc_int (by rfl) z_int (by decide +kernel) (da_cons (de_op do_add (de_op do_mul (dv 4) (de_int)) (de_int)) (da_nil))) (de_int)) (da_nil))) (dv 1)))))
        (dss_cons (ds_set 4 sc__law_draw.nd (de_op do_mod (de_callTy dc_int (by rfl) z_int (by decide +kernel) (da_cons (de_op do_add (de_op do_add (de_op do_mul (dv 2) (de_int)) (de_op do_mul (de_ix (dv 0) (de_int)) (de_int))) (de_int)) (da_nil))) (de_int)))
        (dss_one (ds_set 3 sc__law_draw.nd (de_op do_mod (de_callTy dc_int (by rfl) z_int (by decide +kernel) (da_cons (de_op do_mod (de_callTy dc_int (by rfl) z_int (by decide +kernel) (da_cons (de_op do_add (de_op do_mul (dv 4) (de_int)) (de_int)) (da_nil))) (de_int)) (da_nil))) (dv 1))))))))
    (dss_cons (ds_asg (de_op do_add (de_ix (dv 0) (de_int)) (de_int)) (dg_sub (dv 0) (de_int)))
    (dss_cons (ds_asg (de_neg (de_int)) (dg_sub (dv 0) (de_int)))
    (dss_one (ds_ret (dv 3)))))))))), ?_⟩
  rintro ds μ Q EE ⟨a, l, ns, p, r, c, sz, rfl, ne, ha, hl, p0, s0, s1, q⟩
  have nel : l ≠ a := fun e => ne e.symm
  walk_at "dl0"
  walk_at "s"
  simp [vw_pd, ha, hl]
  split
  · have := q 0 p r c (Int.le_refl 0) s0 p0
    rwa [mup_self ha] at this
  · next hb =>
    have hp : p.toNat < ns.length := by omega
    have hz : atI (ns.map D.int) p = some (.int (ns[p.toNat])) := by
      rw [atI_int p0, List.getElem?_map, List.getElem?_eq_getElem hp]; rfl
    subst hN
    revert hz
    generalize ns[p.toNat] = z
    intro hz
    walk_at "s"
    simp [vw_pd, ha, hl, hz]
    subst hN
    have c1 : CPow 10 18 := by unfold CPow; decide
    refine seq_cut (fun ρ μ' => μ = μ' ∧ ∃ z : Int, ρ = [some (.ptr a), some (.int sz), some (.int z), none, none]) (fun N hN => ?_) ?_
    · simp
      split
      · exact hN _ _ ⟨rfl, _, rfl⟩
      · exact hN _ _ ⟨rfl, _, rfl⟩
    rintro _ _ ⟨rfl, z', rfl⟩
    refine seq_cut (fun ρ μ' => ρ = [some (.ptr a), some (.int sz), some (.int z'), none, none] ∧ ∃ r c : Int, μ' = mup μ a (srcC l p r c)) (fun N hN => ?_) ?_
    · simp [vw_pd, ha]
      split
      · exact hN _ _ ⟨rfl, _, _, rfl⟩
      · exact hN _ _ ⟨rfl, r, c, (mup_self ha).symm⟩
    rintro _ _ ⟨rfl, r', c', rfl⟩
    walk_at "s"
    simp [vw_pd]
    subst hN
    have cm : ∀ x k : Int, -1000000000 ≤ k → k ≤ 1000000000 → CMul x k := fun x k h1 h2 => by unfold CMul; omega
    have cd : ∀ x : Int, CDiv x sz := fun x => by unfold CDiv; omega
    have hq : ∀ n r c, 0 ≤ p → Q (.int (n % sz)) (mup μ a (srcC l p r c)) := fun n r c _ => q _ p r c (Int.emod_nonneg _ (by omega)) (Int.emod_lt_of_pos _ s0) p0
    have hq1 : ∀ n r c, Q (.int (n % sz)) (mup μ a (srcC l (p + 1) r c)) := fun n r c => q _ (p + 1) r c (Int.emod_nonneg _ (by omega)) (Int.emod_lt_of_pos _ s0) (by omega)
    refine seq_cut (fun ρ μ' => ∃ (n r c : Int) (x : Option D), ρ = [some (.ptr a), some (.int sz), some (.int z'), some (.int (n % sz)), x] ∧ μ' = mup μ a (srcC l p r c)) (fun N hN => ?_) ?_
    · simp [vw_pd, szl, c1, cm, cd, s0]
      split
      · split
        · split
          · exact hq _ _ _ p0
          · exact hN _ _ ⟨_, _, _, _, rfl, rfl⟩
        · exact hN _ _ ⟨_, _, _, _, rfl, rfl⟩
      · split
        · exact hq _ _ _ p0
        · exact hN _ _ ⟨_, _, _, _, rfl, rfl⟩
    rintro _ _ ⟨n, r2, c2, x, rfl, rfl⟩
    walk_at "s"
    simp [vw_pd]
    subst hN
    walk_at "s"
    simp [vw_pd]
    subst hN
    simp
    exact hq1 _ _ _
theorem ok__law_draw {P : Program} {w : World} {K : PySem.W.Frag} {mg : Str → Option Value} {base : Heap} {f : Addr} {fd : FuncData}  (D0 : DefAt K mg "_law_draw" s__law_draw ["source", "size"] f fd) (z_len : mg "len" = none) (z_int : mg "int" = none) : FnOk P w K mg base CX0 1 f fd ["source", "size"] (toSp K sp__law_draw) := (ok__law_draw_p D0 z_len z_int).imp fun vs H Q E h => src_imp h
def sp__law_pick : DSp := fun ds μ Q _ => ∃ x, ds = [.src, x] ∧ ((∃ xs, (vw μ x = .lst xs ∨ vw μ x = .tup xs) ∧ 0 < xs.length ∧ xs.length ≤ 16000000 ∧ ∀ d ∈ xs, Q d μ) ∨ (∃ s, x = .str (mk s) ∧ 0 < s.length ∧ s.length ≤ 16000000 ∧ ∀ c ∈ s, Q (.str (mk [c])) μ))
theorem len__law_pick : ∀ ds μ Q E, sp__law_pick ds μ Q E → ds.length = 2 := by
  rintro ds μ Q E ⟨a, rfl, _⟩; rfl
@[simp ↓] theorem e__law_pick {x : D} {μ : Mu} {Q : QD} {E : XDt} : sp__law_pick [.src, x] μ Q E = (match vw μ x with | .lst xs => 0 < xs.length ∧ xs.length ≤ 16000000 ∧ ∀ d ∈ xs, Q d μ | .tup xs => 0 < xs.length ∧ xs.length ≤ 16000000 ∧ ∀ d ∈ xs, Q d μ | .str s => 0 < s.length ∧ s.length ≤ 16000000 ∧ ∀ c ∈ s.cps.toList, Q (.str (mk [c])) μ | _ => False) := by
  refine propext ⟨?_, fun h => ?_⟩
  · rintro ⟨y, h, ⟨xs, e | e, h1, h2, h3⟩ | ⟨s, rfl, h1, h2, h3⟩⟩ <;> cases h
    · rw [e]; exact ⟨h1, h2, h3⟩
    · rw [e]; exact ⟨h1, h2, h3⟩
    · simpa using ⟨h1, h2, h3⟩
  · split at h
    · next xs e => exact ⟨x, rfl, .inl ⟨xs, .inl e, h⟩⟩
    · next xs e => exact ⟨x, rfl, .inl ⟨xs, .inr e, h⟩⟩
    · next s e =>
      refine ⟨x, rfl, .inr ⟨s.cps.toList, ?_, h⟩⟩
      rw [DL.mk_of]
      cases x <;> first | (cases e; rfl) | (simp [vw] at e) | skip
      rename_i a
      cases h9 : μ a with
      | none => rw [h9] at e; cases e
      | some c => rw [h9] at e; cases c <;> cases e
    · exact h.elim
abbrev s__law_pick : Stmt := topS 38
theorem sc__law_pick : FnScope ["source", "row"] ["source", "row"] (defScope s__law_pick) := ⟨rfl, rfl, rfl, by decide +kernel, rfl, by decide +kernel, by decide +kernel⟩
set_option maxHeartbeats 1000000 in
theorem ok__law_pick {P : Program} {w : World} {K : PySem.W.Frag} {mg : Str → Option Value} {base : Heap} {f : Addr} {fd : FuncData}  (D0 : DefAt K mg "_law_pick" s__law_pick ["source", "row"] f fd) (c__law_draw : Called P w K mg base 1 "_law_draw" ["source", "size"] sp__law_draw) (z_len : mg "len" = none) : FnOk P w K mg base CX0 (2) f fd ["source", "row"] (toSp K sp__law_pick) := by
  obtain ⟨f__law_draw, d__law_draw, m__law_draw, k__law_draw, b__law_draw, F__law_draw⟩ := c__law_draw
  refine fn_ok D0.F sc__law_pick (len__law_pick) fun B cdv A outer s H E hr => ⟨_, _, dss_one (ds_ret (de_ix (dv 1) (de_call F__law_draw (hr.mono (by decide)) m__law_draw k__law_draw b__law_draw (da_cons (dv 0) (da_cons (de_callB dc_len (by rfl) z_len (by decide +kernel) (da_cons (dv 1) (da_nil))) (da_nil)))))), ?_⟩
  rintro ds μ Q EE ⟨x, rfl, ⟨xs, h, p0, p1, q⟩ | ⟨s, rfl, p0, p1, q⟩⟩
  · rcases h with h | h
    · simp [h, sp__law_draw]
      refine ⟨p0, by omega, fun n n0 n1 => ?_⟩
      have hn : n.toNat < xs.length := by omega
      rw [atI_int n0, List.getElem?_eq_getElem hn]; exact q _ (List.getElem_mem _)
    · simp [h, sp__law_draw]
      refine ⟨p0, by omega, fun n n0 n1 => ?_⟩
      have hn : n.toNat < xs.length := by omega
      rw [atI_int n0, List.getElem?_eq_getElem hn]; exact q _ (List.getElem_mem _)
  · simp [sp__law_draw]
    refine ⟨sz_le p1, p0, by omega, fun n n0 n1 => ⟨sz_le p1, ?_⟩⟩
    have hn : n.toNat < s.length := by omega
    rw [atI_int n0, List.getElem?_eq_getElem hn]; exact q _ (List.getElem_mem _)
def sp__law_short : DSp := fun ds μ Q _ => ds = [.src] ∧ ∀ l : CL, isNm l → Q (.str (mk l)) μ
theorem len__law_short : ∀ ds μ Q E, sp__law_short ds μ Q E → ds.length = 1 := by
  rintro ds μ Q E ⟨rfl, _⟩; rfl
@[simp ↓] theorem e__law_short {μ : Mu} {Q : QD} {E : XDt} : sp__law_short [.src] μ Q E = (∀ l : CL, isNm l → Q (.str (mk l)) μ) := propext ⟨fun h => h.2, fun h => ⟨rfl, h⟩⟩
abbrev s__law_short : Stmt := topS 42
theorem sc__law_short : FnScope ["source", "text", "k"] ["source"] (defScope s__law_short) := ⟨rfl, rfl, rfl, by decide +kernel, rfl, by decide +kernel, by decide +kernel⟩
set_option maxHeartbeats 1000000 in
theorem ok__law_short {P : Program} {w : World} {K : PySem.W.Frag} {mg : Str → Option Value} {base : Heap} {f : Addr} {fd : FuncData}  (D0 : DefAt K mg "_law_short" s__law_short ["source"] f fd) (c__law_draw : Called P w K mg base 1 "_law_draw" ["source", "size"] sp__law_draw) (c__law_pick : Called P w K mg base 2 "_law_pick" ["source", "row"] sp__law_pick) (z_range : mg "range" = none) : FnOk P w K mg base CX0 (3) f fd ["source"] (toSp K sp__law_short) := by
  obtain ⟨f__law_draw, d__law_draw, m__law_draw, k__law_draw, b__law_draw, F__law_draw⟩ := c__law_draw
  obtain ⟨f__law_pick, d__law_pick, m__law_pick, k__law_pick, b__law_pick, F__law_pick⟩ := c__law_pick
  refine fn_ok D0.F sc__law_short (len__law_short) fun B cdv A outer s H E hr => ⟨_, _, dss_cons (ds_if (dt_cmp do_gt (de_call F__law_draw (hr.mono (by decide)) m__law_draw k__law_draw b__law_draw (da_cons (dv 0) (da_cons (de_int) (da_nil)))) (de_int))
      (dss_one (ds_ret (de_call F__law_pick (hr.mono (by decide)) m__law_pick k__law_pick b__law_pick (da_cons (dv 0) (da_cons (de_lst false (da_cons (de_str) (da_cons (de_str) (da_cons (de_str) (da_cons (de_str) (da_nil)))))) (da_nil))))))
      (dss_nil))
    (dss_cons (ds_set 1 sc__law_short.nd (de_str))
    (dss_cons (ds_for PassesOwn.never rfl (di_range1 (by rfl) z_range (da_cons (de_op do_add (de_int) (de_call F__law_draw (hr.mono (by decide)) m__law_draw k__law_draw b__law_draw (da_cons (dv 0) (da_cons (de_int) (da_nil))))) (da_nil))) (dg_name 2 sc__law_short.nd)
      (dss_one (ds_set 1 sc__law_short.nd (de_op do_add (dv 1) (de_call F__law_pick (hr.mono (by decide)) m__law_pick k__law_pick b__law_pick (da_cons (dv 0) (da_cons (de_str) (da_nil))))))))
    (dss_one (ds_ret (dv 1))))), ?_⟩
  rintro ds μ Q EE ⟨rfl, q⟩
  walk_at "dl0"
  walk_at "s"
  simp
  intro n n0 n1
  have hs : ∀ (x : Str) (l : CL), x = mk l → isNm l → Q (.str x) μ := fun x l e h => by rw [e]; exact q l h
  split
  · exact ⟨sz_le (by omega), hs _ [97] (by decide +kernel) (by simp [isNm]), hs _ [98] (by decide +kernel) (by simp [isNm]), hs _ [97, 98] (by decide +kernel) (by simp [isNm]), hs _ [105] (by decide +kernel) (by simp [isNm])⟩
  subst hN
  walk_at "s"
  simp
  subst hN
  walk_at "s"
  refine for_hide fun L hL => ?_
  simp
  intro m m0 m1
  subst hL
  refine ⟨by omega, loop_rng (fun j ρ μ' => ∃ (l : CL) (k : Option D), ρ = [some .src, some (.str (mk l)), k] ∧ μ' = μ ∧ (l.length : Int) = j ∧ ∀ c ∈ l, 97 ≤ c ∧ c ≤ 122) (by omega) ⟨[], none, by rw [show ("" : Str) = mk [] by decide +kernel], rfl, rfl, by simp⟩ ?_ ?_⟩
  · rintro ρ μ' ⟨l, k, rfl, rfl, h1, h2⟩
    show N _ _
    subst hN
    simp
    exact q l ⟨by intro e; subst e; simp at h1; omega, by omega, h2⟩
  · rintro j ρ μ' M j0 j1 ⟨l, k, rfl, rfl, h1, h2⟩ hM
    have ha : ("abcdefghijklmnopqrstuvwxyz" : Str).cps.toList = List.range' 97 26 := by decide +kernel
    have hal : ("abcdefghijklmnopqrstuvwxyz" : Str).length = 26 := by decide +kernel
    simp
    refine ⟨by omega, by omega, fun c hc => ⟨sz_le (by omega), ?_⟩⟩
    have hc' : c ∈ ("abcdefghijklmnopqrstuvwxyz" : Str).cps.toList := by simpa using hc
    rw [ha, List.mem_range'_1] at hc'
    exact hM _ _ ⟨l ++ [c], _, rfl, rfl, by simp; omega, fun x hx => by
      rcases List.mem_append.mp hx with hx | hx
      · exact h2 x hx
      · rw [List.mem_singleton.mp hx]; omega⟩
def sp__law_spot_step : DSp := fun ds μ Q _ => ∃ (ns : List CL), ds = [.src, .lst (ns.map fun n => .str (mk n))] ∧ ns ≠ [] ∧ ns.length ≤ 100 ∧ (∀ n ∈ ns, isNm n) ∧ ∀ s : CL, StepIn (· ∈ ns) s → Q (.str (mk s)) μ
theorem len__law_spot_step : ∀ ds μ Q E, sp__law_spot_step ds μ Q E → ds.length = 2 := by
  rintro ds μ Q E ⟨ns, rfl, _⟩; rfl
abbrev s__law_spot_step : Stmt := topS 43
theorem sc__law_spot_step : FnScope ["source", "names", "kind"] ["source", "names"] (defScope s__law_spot_step) := ⟨rfl, rfl, rfl, by decide +kernel, rfl, by decide +kernel, by decide +kernel⟩
set_option maxHeartbeats 1000000 in
theorem ok__law_spot_step {P : Program} {w : World} {K : PySem.W.Frag} {mg : Str → Option Value} {base : Heap} {f : Addr} {fd : FuncData}  (D0 : DefAt K mg "_law_spot_step" s__law_spot_step ["source", "names"] f fd) (c__law_draw : Called P w K mg base 1 "_law_draw" ["source", "size"] sp__law_draw) (c__law_short : Called P w K mg base 3 "_law_short" ["source"] sp__law_short) (c__law_pick : Called P w K mg base 2 "_law_pick" ["source", "row"] sp__law_pick) (z_str : mg "str" = none) (z_int : mg "int" = none) : FnOk P w K mg base CX0 (4) f fd ["source", "names"] (toSp K sp__law_spot_step) := by
  obtain ⟨f__law_draw, d__law_draw, m__law_draw, k__law_draw, b__law_draw, F__law_draw⟩ := c__law_draw
  obtain ⟨f__law_short, d__law_short, m__law_short, k__law_short, b__law_short, F__law_short⟩ := c__law_short
  obtain ⟨f__law_pick, d__law_pick, m__law_pick, k__law_pick, b__law_pick, F__law_pick⟩ := c__law_pick
  refine fn_ok D0.F sc__law_spot_step (len__law_spot_step) fun B cdv A outer s H E hr => ⟨_, _, dss_cons (ds_set 2 sc__law_spot_step.nd (de_call F__law_draw (hr.mono (by decide)) m__law_draw k__law_draw b__law_draw (da_cons (dv 0) (da_cons (de_int) (da_nil)))))
    (dss_cons (ds_if (dt_cmp do_lt (dv 2) (de_int))
      (dss_one (ds_ret (de_op do_add (de_ix (de_str) (dv 2)) (de_call F__law_short (hr.mono (by decide)) m__law_short k__law_short b__law_short (da_cons (dv 0) (da_nil))))))
      (dss_nil))
    (dss_cons (ds_if (dt_cmp (do_eq hr) (dv 2) (de_int))
      (dss_one (ds_ret (de_op do_add (de_op do_add (de_str) (de_callTy dc_strI (by rfl) z_str (by decide +kernel) (da_cons (de_call F__law_draw (hr.mono (by decide)) m__law_draw k__law_draw b__law_draw (da_cons (dv 0) (da_cons (de_int) (da_nil)))) (da_nil)))) (de_str))))
      (dss_nil))
    (dss_cons (ds_if (dt_cmp (do_eq hr) (dv 2) (de_int))
      (dss_one (ds_ret (de_op do_add (de_op do_add (de_str) (de_callTy dc_strI (by rfl) z_str (by decide +kernel) (da_cons (de_op do_mod (de_callTy dc_int (by rfl) z_int (by decide +kernel) (da_cons (de_call F__law_draw (hr.mono (by decide)) m__law_draw k__law_draw b__law_draw (da_cons (dv 0) (da_cons (de_int) (da_nil)))) (da_nil))) (de_int)) (da_nil)))) (de_str))))
      (dss_nil))
    (dss_one (ds_ret (de_op do_add (de_op do_add (de_str) (de_call F__law_pick (hr.mono (by decide)) m__law_pick k__law_pick b__law_pick (da_cons (dv 0) (da_cons (dv 1) (da_nil))))) (de_str))))))), ?_⟩
  rintro ds μ Q EE ⟨ns, rfl, hn0, hn1, hn, q⟩
  walk_at "dl0"
  walk_at "s"
  simp
  intro kind k0 k1
  subst hN
  walk_at "s"
  simp
  have b1 : ("[" : Str) = mk [91] := by decide +kernel
  have b2 : ("]" : Str) = mk [93] := by decide +kernel
  have cell : ∀ n : CL, (isNm n ∧ n ∈ ns) ∨ isNum n → Q (.str (mk (91 :: n ++ [93]))) μ := fun n h => q _ (.cell h)
  have num : ∀ i : Int, 0 ≤ i → i < 10000 → i.natAbs.log2 < 1920 ∧ ∃ n : CL, Str.ofString i.repr = mk n ∧ isNum n ∧ n.length ≤ 4 := by
    intro i h0 h1
    obtain ⟨n, rfl⟩ := Int.eq_ofNat_of_zero_le h0
    have hn := num_ok (n := n) (by omega)
    exact ⟨lg20 (by simp; omega), _, strR n, hn, hn.2.1⟩
  split
  · next h =>
    have h2 : kind = 0 ∨ kind = 1 := by omega
    have e : (".^" : Str).cps.toList = [46, 94] := by decide +kernel
    rw [e]
    refine ⟨by decide +kernel, ?_⟩
    rcases h2 with rfl | rfl
    · simp
      exact fun l hl => ⟨by rw [szl]; have := hl.2.1; omega, q _ (.inl ⟨l, hl, .inl rfl⟩)⟩
    · simp
      exact fun l hl => ⟨by rw [szl]; have := hl.2.1; omega, q _ (.inl ⟨l, hl, .inr rfl⟩)⟩
  subst hN
  walk_at "s"
  simp
  split
  · intro n n0 n1
    obtain ⟨h1, m, e, h2, h3⟩ := num n n0 (by omega)
    refine ⟨h1, ?_⟩
    rw [e, b1, b2]
    simp
    exact ⟨by rw [szl]; omega, by rw [szl]; omega, cell _ (.inr h2)⟩
  subst hN
  walk_at "s"
  simp
  split
  · intro n n0 n1
    obtain ⟨h1, m, e, h2, h3⟩ := num (n % 10000) (Int.emod_nonneg _ (by decide)) (Int.emod_lt_of_pos _ (by decide))
    refine ⟨h1, ?_⟩
    rw [e, b1, b2]
    simp
    exact ⟨by rw [szl]; omega, by rw [szl]; omega, cell _ (.inr h2)⟩
  subst hN
  simp
  have : 0 < ns.length := List.length_pos_iff.mpr hn0
  refine ⟨this, by omega, fun a ha => ?_⟩
  have := (hn a ha).2.1
  rw [b1, b2]
  simp
  exact ⟨by rw [szl]; omega, by rw [szl]; omega, cell _ (.inl ⟨hn a ha, ha⟩)⟩
def sp__law_spot : DSp := fun ds μ Q _ => ∃ (ns : List CL), ds = [.src, .lst (ns.map fun n => .str (mk n))] ∧ ns ≠ [] ∧ ns.length ≤ 100 ∧ (∀ n ∈ ns, isNm n) ∧ ∀ ps : List CL, SpotIn (· ∈ ns) ps → Q (.str (mk ps.flatten)) μ
theorem len__law_spot : ∀ ds μ Q E, sp__law_spot ds μ Q E → ds.length = 2 := by
  rintro ds μ Q E ⟨ns, rfl, _⟩; rfl
abbrev s__law_spot : Stmt := topS 44
theorem sc__law_spot : FnScope ["source", "names", "most", "text", "k"] ["source", "names"] (defScope s__law_spot) := ⟨rfl, rfl, rfl, by decide +kernel, rfl, by decide +kernel, by decide +kernel⟩
set_option maxHeartbeats 1000000 in
theorem ok__law_spot {P : Program} {w : World} {K : PySem.W.Frag} {mg : Str → Option Value} {base : Heap} {f : Addr} {fd : FuncData}  (D0 : DefAt K mg "_law_spot" s__law_spot ["source", "names"] f fd) (c__law_draw : Called P w K mg base 1 "_law_draw" ["source", "size"] sp__law_draw) (c__law_pick : Called P w K mg base 2 "_law_pick" ["source", "row"] sp__law_pick) (c__law_spot_step : Called P w K mg base 4 "_law_spot_step" ["source", "names"] sp__law_spot_step) (z_range : mg "range" = none) : FnOk P w K mg base CX0 (5) f fd ["source", "names"] (toSp K sp__law_spot) := by
  obtain ⟨f__law_draw, d__law_draw, m__law_draw, k__law_draw, b__law_draw, F__law_draw⟩ := c__law_draw
  obtain ⟨f__law_pick, d__law_pick, m__law_pick, k__law_pick, b__law_pick, F__law_pick⟩ := c__law_pick
  obtain ⟨f__law_spot_step, d__law_spot_step, m__law_spot_step, k__law_spot_step, b__law_spot_step, F__law_spot_step⟩ := c__law_spot_step
  refine fn_ok D0.F sc__law_spot (len__law_spot) fun B cdv A outer s H E hr => ⟨_, _, dss_cons (ds_set 2 sc__law_spot.nd (de_int))
    (dss_cons (ds_if (dt_cmp (do_eq hr) (de_call F__law_draw (hr.mono (by decide)) m__law_draw k__law_draw b__law_draw (da_cons (dv 0) (da_cons (de_int) (da_nil)))) (de_int))
      (dss_one (ds_set 2 sc__law_spot.nd (de_int)))
      (dss_nil))
    (dss_cons (ds_set 3 sc__law_spot.nd (de_call F__law_pick (hr.mono (by decide)) m__law_pick k__law_pick b__law_pick (da_cons (dv 0) (da_cons (de_lst false (da_cons (de_str) (da_cons (de_str) (da_cons (de_str) (da_nil))))) (da_nil)))))
    (dss_cons (ds_for PassesOwn.never rfl (di_range1 (by rfl) z_range (da_cons (de_call F__law_draw (hr.mono (by decide)) m__law_draw k__law_draw b__law_draw (da_cons (dv 0) (da_cons (de_op do_add (dv 2) (de_int)) (da_nil)))) (da_nil))) (dg_name 4 sc__law_spot.nd)
      (dss_one (ds_set 3 sc__law_spot.nd (de_op do_add (dv 3) (de_call F__law_spot_step (hr.mono (by decide)) m__law_spot_step k__law_spot_step b__law_spot_step (da_cons (dv 0) (da_cons (dv 1) (da_nil))))))))
    (dss_one (ds_ret (dv 3)))))), ?_⟩
  rintro ds μ Q EE ⟨ns, rfl, hn0, hn1, hn, q⟩
  walk_at "dl0"
  walk_at "s"
  simp
  subst hN
  walk_at "s"
  simp
  intro n n0 n1
  have H : ∀ m : Nat, m ≤ 6 → N [some .src, some (.lst (ns.map fun n => .str (mk n))), some (.int m), none, none] μ := by
    intro m hm
    subst hN
    walk_at "s"
    simp
    have tx : ∀ r : CL, isNm r → N [some .src, some (.lst (ns.map fun n => .str (mk n))), some (.int m), some (.str (mk r)), none] μ := by
      intro r hr
      subst hN
      walk_at "s"
      refine for_hide fun L hL => ?_
      simp
      refine ⟨by omega, fun t t0 t1 => ?_⟩
      subst hL
      refine ⟨by omega, loop_rng (fun j ρ μ' => ∃ (ps : List CL) (k : Option D), ρ = [some .src, some (.lst (ns.map fun n => .str (mk n))), some (.int m), some (.str (mk ps.flatten)), k] ∧ μ' = μ ∧ SpotIn (· ∈ ns) ps ∧ (ps.length : Int) = j + 1) (by omega) ⟨[r], none, by simp, rfl, .mk' hr (by simp) (by simp), rfl⟩ ?_ ?_⟩
      · rintro ρ μ' ⟨ps, k, rfl, rfl, h1, h2⟩
        show N _ _
        subst hN
        simp
        exact q ps h1
      · rintro j ρ μ' M j0 j1 ⟨ps, k, rfl, rfl, h1, h2⟩ hM
        simp
        refine ⟨ns, rfl, hn0, hn1, hn, fun s hs => ?_⟩
        have h3 := h1.small
        obtain ⟨_, _, _, _, _, _, h9⟩ := hs.shape
        simp
        exact ⟨by rw [szl, ← List.length_flatten]; omega, hM _ _ ⟨ps ++ [s], some (.int j), by simp, rfl, h1.snoc (by omega) hs, by simp; omega⟩⟩
    have e1 : ("a" : Str) = mk [97] := by decide +kernel
    have e2 : ("b" : Str) = mk [98] := by decide +kernel
    have e3 : ("c" : Str) = mk [99] := by decide +kernel
    rw [e1, e2, e3]
    exact ⟨sz_le (by omega), tx _ (by simp [isNm]), tx _ (by simp [isNm]), tx _ (by simp [isNm])⟩
  split
  · exact H 6 (by omega)
  · exact H 2 (by omega)
def sp__law_beside : DSp := fun ds μ Q _ => ∃ (ns ps : List CL), ds = [.src, .str (mk ps.flatten), .lst (ns.map fun n => .str (mk n))] ∧ ns ≠ [] ∧ ns.length ≤ 100 ∧ (∀ n ∈ ns, isNm n) ∧ SpotIn (· ∈ ns) ps ∧ ∀ qs : List CL, SpotIn (· ∈ ns) qs → Q (.str (mk qs.flatten)) μ
theorem len__law_beside : ∀ ds μ Q E, sp__law_beside ds μ Q E → ds.length = 3 := by
  rintro ds μ Q E ⟨ns, ps, rfl, _⟩; rfl
abbrev s__law_beside : Stmt := topS 45
theorem sc__law_beside : FnScope ["source", "spot", "names", "parts", "kind", "at", "cell"] ["source", "spot", "names"] (defScope s__law_beside) := ⟨rfl, rfl, rfl, by decide +kernel, rfl, by decide +kernel, by decide +kernel⟩
set_option maxHeartbeats 1000000 in
theorem ok__law_beside {P : Program} {w : World} {K : PySem.W.Frag} {mg : Str → Option Value} {base : Heap} {f : Addr} {fd : FuncData}  (D0 : DefAt K mg "_law_beside" s__law_beside ["source", "spot", "names"] f fd) (c__law_cut : Called P w K mg base 1 "_law_cut" ["spot"] sp__law_cut) (c__law_draw : Called P w K mg base 1 "_law_draw" ["source", "size"] sp__law_draw) (c__law_spot_step : Called P w K mg base 4 "_law_spot_step" ["source", "names"] sp__law_spot_step) (c__law_pick : Called P w K mg base 2 "_law_pick" ["source", "row"] sp__law_pick) (c__law_spot : Called P w K mg base 5 "_law_spot" ["source", "names"] sp__law_spot) (z_len : mg "len" = none) : FnOk P w K mg base CX0 (6) f fd ["source", "spot", "names"] (toSp K sp__law_beside) := by
  obtain ⟨f__law_cut, d__law_cut, m__law_cut, k__law_cut, b__law_cut, F__law_cut⟩ := c__law_cut
  obtain ⟨f__law_draw, d__law_draw, m__law_draw, k__law_draw, b__law_draw, F__law_draw⟩ := c__law_draw
  obtain ⟨f__law_spot_step, d__law_spot_step, m__law_spot_step, k__law_spot_step, b__law_spot_step, F__law_spot_step⟩ := c__law_spot_step
  obtain ⟨f__law_pick, d__law_pick, m__law_pick, k__law_pick, b__law_pick, F__law_pick⟩ := c__law_pick
  obtain ⟨f__law_spot, d__law_spot, m__law_spot, k__law_spot, b__law_spot, F__law_spot⟩ := c__law_spot
  refine fn_ok D0.F sc__law_beside (len__law_beside) fun B cdv A outer s H E hr => ⟨_, _, dss_cons (ds_set 3 sc__law_beside.nd (de_call F__law_cut (hr.mono (by decide)) m__law_cut k__law_cut b__law_cut (da_cons (dv 1) (da_nil))))
    (dss_cons (ds_set 4 sc__law_beside.nd (de_call F__law_draw (hr.mono (by decide)) m__law_draw k__law_draw b__law_draw (da_cons (dv 0) (da_cons (de_int) (da_nil)))))
    (dss_cons (ds_if (dt_cmp (do_eq hr) (dv 4) (de_int))
      (dss_one (ds_ret (dv 1)))
      (dss_nil))
    (dss_cons (ds_if (dt_cmp do_lt (dv 4) (de_int))
      (dss_one (ds_ret (de_bm PySem.F.plainAttrs_str PySem.F.slot_str_join PySem.F.type_str_join dm_join (de_str) (da_cons (de_sl false (dv 3) (do_none) (do_some (de_op do_add (de_int) (de_call F__law_draw (hr.mono (by decide)) m__law_draw k__law_draw b__law_draw (da_cons (dv 0) (da_cons (de_callB dc_len (by rfl) z_len (by decide +kernel) (da_cons (dv 3) (da_nil))) (da_nil))))))) (da_nil)))))
      (dss_nil))
    (dss_cons (ds_if (DW.dt (dw_and (dt_cmp (do_eq hr) (dv 4) (de_int)) (dw_and1 (dt_cmp do_lt (de_callB dc_len (by rfl) z_len (by decide +kernel) (da_cons (dv 3) (da_nil))) (de_int)))))
      (dss_one (ds_ret (de_op do_add (dv 1) (de_call F__law_spot_step (hr.mono (by decide)) m__law_spot_step k__law_spot_step b__law_spot_step (da_cons (dv 0) (da_cons (dv 2) (da_nil)))))))
      (dss_nil))
    (dss_cons (ds_if (DW.dt (dw_and (dt_cmp do_lt (dv 4) (de_int)) (dw_and1 (dt_cmp do_gt (de_callB dc_len (by rfl) z_len (by decide +kernel) (da_cons (dv 3) (da_nil))) (de_int)))))
      (dss_cons (ds_set 5 sc__law_beside.nd (de_op do_add (de_int) (de_call F__law_draw (hr.mono (by decide)) m__law_draw k__law_draw b__law_draw (da_cons (dv 0) (da_cons (de_op do_sub (de_callB dc_len (by rfl) z_len (by decide +kernel) (da_cons (dv 3) (da_nil))) (de_int)) (da_nil))))))
      (dss_cons (ds_set 6 sc__law_beside.nd (de_op do_add (de_op do_add (de_str) (de_call F__law_pick (hr.mono (by decide)) m__law_pick k__law_pick b__law_pick (da_cons (dv 0) (da_cons (de_op do_add (dv 2) (de_lst false (da_cons (de_str) (da_cons (de_str) (da_cons (de_str) (da_nil)))))) (da_nil))))) (de_str)))
      (dss_one (ds_ret (de_op do_add (de_op do_add (de_bm PySem.F.plainAttrs_str PySem.F.slot_str_join PySem.F.type_str_join dm_join (de_str) (da_cons (de_sl false (dv 3) (do_none) (do_some (dv 5))) (da_nil))) (dv 6)) (de_bm PySem.F.plainAttrs_str PySem.F.slot_str_join PySem.F.type_str_join dm_join (de_str) (da_cons (de_sl false (dv 3) (do_some (de_op do_add (dv 5) (de_int))) (do_none)) (da_nil))))))))
      (dss_nil))
    (dss_one (ds_ret (de_call F__law_spot (hr.mono (by decide)) m__law_spot k__law_spot b__law_spot (da_cons (dv 0) (da_cons (dv 2) (da_nil))))))))))), ?_⟩
  rintro ds μ Q EE ⟨ns, ps, rfl, hn0, hn1, hn, hp, q⟩
  walk_at "dl0"
  walk_at "s"
  simp
  have h6 := hp.small
  refine ⟨by rw [← List.length_flatten]; omega, ?_⟩
  rw [hp.cut]
  subst hN
  walk_at "s"
  simp
  intro kind k0 k1
  subst hN
  walk_at "s"
  simp
  refine iteI (fun hk => q ps hp) (fun hk => ?_)
  subst hN
  walk_at "s"
  simp
  have hl := hp.len
  have h0 : 0 < ps.length := List.length_pos_iff.mpr hp.ne
  have hc0 : ("" : Str).length = 0 := by decide +kernel
  have jn : ∀ rs : List CL, SpotIn (· ∈ ns) rs → ((rs.map mk).map fun x => x.length).sum + (rs.map mk).length * ("" : Str).length ≤ 16777216 ∧ Q (.str (Txt.join "" (rs.map mk))) μ := by
    intro rs hr
    have := hr.small
    rw [sum_mk, hc0, join_mk]
    exact ⟨by omega, q rs hr⟩
  refine iteI (fun hk3 => ⟨h0, by omega, fun n n0 n1 => ?_⟩) (fun hk3 => ?_)
  · rw [cutD_map, cutD_upto _ (by omega)]
    rw [strsOf_mk]
    exact jn _ (hp.take (by omega))
  subst hN
  walk_at "s"
  simp
  have rest : N [some .src, some (.str (mk ps.flatten)), some (.lst (ns.map fun n => .str (mk n))), some (.lst (ps.map fun n => .str (mk n))), some (.int kind), none, none] μ := by
    subst hN
    walk_at "s"
    simp
    have rest2 : N [some .src, some (.str (mk ps.flatten)), some (.lst (ns.map fun n => .str (mk n))), some (.lst (ps.map fun n => .str (mk n))), some (.int kind), none, none] μ := by
      subst hN
      simp
      exact ⟨ns, rfl, hn0, hn1, hn, q⟩
    refine iteI (fun hk7 => iteI (fun hl7 => ?_) fun _ => rest2) fun _ => rest2
    refine ⟨hl7, by omega, fun n n0 n1 => ⟨sz_le (by omega), sz_le (by omega), by omega, fun d hd => ?_⟩⟩
    have b1 : ("[" : Str) = mk [91] := by decide +kernel
    have b2 : ("]" : Str) = mk [93] := by decide +kernel
    have cell : ∃ m : CL, d = .str (mk m) ∧ ((isNm m ∧ m ∈ ns) ∨ isNum m) := by
      rcases hd with ⟨a, ha, rfl⟩ | rfl | rfl | rfl
      · exact ⟨a, rfl, .inl ⟨hn a ha, ha⟩⟩
      · exact ⟨[48], by rw [show ("0" : Str) = mk [48] by decide +kernel], .inr (by simp [isNum])⟩
      · exact ⟨[49], by rw [show ("1" : Str) = mk [49] by decide +kernel], .inr (by simp [isNum])⟩
      · exact ⟨[55], by rw [show ("7" : Str) = mk [55] by decide +kernel], .inr (by simp [isNum])⟩
    obtain ⟨m, rfl, hm⟩ := cell
    have hs := StepIn.cell (nm := (· ∈ ns)) hm
    obtain ⟨_, _, _, _, _, _, h9⟩ := hs.shape
    have hq := hp.set (k := (1 + n).toNat) (by omega) hs
    have h61 := hq.small
    have hst : (ps.set (1 + n).toNat (91 :: m ++ [93])).flatten = (ps.take (1 + n).toNat).flatten ++ (91 :: m ++ [93]) ++ (ps.drop (1 + n + 1).toNat).flatten := by
      rw [List.set_eq_take_append_cons_drop, if_pos (by omega), List.flatten_append, List.flatten_cons, show (1 + n + 1).toNat = (1 + n).toNat + 1 by omega]; simp
    have hq2 := q _ hq
    rw [hst] at hq2 h61
    simp only [List.length_append, List.length_cons, List.length_nil] at h61
    rw [cutD_map, cutD_upto _ (by omega), cutD_map, cutD_behind _ (by omega), strsOf_mk, strsOf_mk, b1, b2]
    simp only [vw_str, hc0, join_mk, sum_mk, mk_append, mk_length]
    simp only [List.length_append, List.length_cons, List.length_nil]
    refine ⟨by rw [szl]; omega, by rw [szl]; omega, by omega, by rw [szl]; omega, by omega, by rw [szl]; omega, ?_⟩
    simpa using hq2
  refine iteI (fun hk4 => iteI (fun hl4 => ?_) fun _ => rest) fun _ => rest
  refine ⟨ns, rfl, hn0, hn1, hn, fun s hs => ?_⟩
  obtain ⟨_, _, _, _, _, _, h9⟩ := hs.shape
  simp
  have := q (ps ++ [s]) (hp.snoc (by omega) hs)
  rw [List.flatten_append] at this
  exact ⟨by rw [szl, ← List.length_flatten]; omega, by simpa using this⟩
def sp__law_row_of_spots : DSp := fun ds μ Q _ => ∃ (c : Int) (ns : List CL), ds = [.src, .int c, .lst (ns.map fun n => .str (mk n))] ∧ 1 ≤ c ∧ c ≤ 10 ∧ ns ≠ [] ∧ ns.length ≤ 100 ∧ (∀ n ∈ ns, isNm n) ∧ ∀ pss : List (List CL), pss.length ≤ 10 → (∀ ps ∈ pss, SpotIn (· ∈ ns) ps) → Q (.lst (pss.map fun ps => .str (mk ps.flatten))) μ
theorem len__law_row_of_spots : ∀ ds μ Q E, sp__law_row_of_spots ds μ Q E → ds.length = 3 := by
  rintro ds μ Q E ⟨c, ns, rfl, _⟩; rfl
abbrev s__law_row_of_spots : Stmt := topS 46
theorem sc__law_row_of_spots : FnScope ["source", "count", "names", "spots", "k"] ["source", "count", "names"] (defScope s__law_row_of_spots) := ⟨rfl, rfl, rfl, by decide +kernel, rfl, by decide +kernel, by decide +kernel⟩
set_option maxHeartbeats 1000000 in
theorem ok__law_row_of_spots {P : Program} {w : World} {K : PySem.W.Frag} {mg : Str → Option Value} {base : Heap} {f : Addr} {fd : FuncData}  (D0 : DefAt K mg "_law_row_of_spots" s__law_row_of_spots ["source", "count", "names"] f fd) (c__law_spot : Called P w K mg base 5 "_law_spot" ["source", "names"] sp__law_spot) (c__law_beside : Called P w K mg base 6 "_law_beside" ["source", "spot", "names"] sp__law_beside) (c__law_pick : Called P w K mg base 2 "_law_pick" ["source", "row"] sp__law_pick) (z_range : mg "range" = none) : FnOk P w K mg base CX0 (7) f fd ["source", "count", "names"] (toSp K sp__law_row_of_spots) := by
  obtain ⟨f__law_spot, d__law_spot, m__law_spot, k__law_spot, b__law_spot, F__law_spot⟩ := c__law_spot
  obtain ⟨f__law_beside, d__law_beside, m__law_beside, k__law_beside, b__law_beside, F__law_beside⟩ := c__law_beside
  obtain ⟨f__law_pick, d__law_pick, m__law_pick, k__law_pick, b__law_pick, F__law_pick⟩ := c__law_pick
  refine fn_ok D0.F sc__law_row_of_spots (len__law_row_of_spots) fun B cdv A outer s H E hr => ⟨_, _, dss_cons (ds_set 3 sc__law_row_of_spots.nd (de_lst true (da_cons (de_call F__law_spot (hr.mono (by decide)) m__law_spot k__law_spot b__law_spot (da_cons (dv 0) (da_cons (dv 2) (da_nil)))) (da_nil))))
    (dss_cons (ds_for PassesOwn.never rfl (di_range1 (by rfl) z_range (da_cons (de_op do_sub (dv 1) (de_int)) (da_nil))) (dg_name 4 sc__law_row_of_spots.nd)
      (dss_one (ds_expr (de_bm PySem.F.plainAttrs_list PySem.F.slot_list_append PySem.F.type_list_append dm_append (dv 3) (da_cons (de_call F__law_beside (hr.mono (by decide)) m__law_beside k__law_beside b__law_beside (da_cons (dv 0) (da_cons (de_call F__law_pick (hr.mono (by decide)) m__law_pick k__law_pick b__law_pick (da_cons (dv 0) (da_cons (dv 3) (da_nil)))) (da_cons (dv 2) (da_nil))))) (da_nil))))))
    (dss_one (ds_ret (de_frz (dv 3))))), ?_⟩
  rintro ds μ Q EE ⟨c, ns, rfl, hc1, hc2, hn0, hn1, hn, q⟩
  walk_at "dl0"
  walk_at "s"
  simp
  refine ⟨ns, rfl, hn0, hn1, hn, fun ps hps => ?_⟩
  simp
  refine ⟨sz_le (by omega), fun p hp => ?_⟩
  subst hN
  walk_at "s"
  refine for_hide fun L hL => ?_
  simp
  subst hL
  refine ⟨by omega, loop_rng (fun j ρ μ' => ∃ (pss : List (List CL)) (k : Option D), ρ = [some .src, some (.int c), some (.lst (ns.map fun n => .str (mk n))), some (.ptr p), k] ∧ μ' = mup μ p (.lst (pss.map fun ps => .str (mk ps.flatten))) ∧ (∀ ps ∈ pss, SpotIn (· ∈ ns) ps) ∧ (pss.length : Int) = j + 1) (by omega) ⟨[ps], none, rfl, rfl, by simpa using hps, rfl⟩ ?_ ?_⟩
  · rintro ρ μ' ⟨pss, k, rfl, rfl, h1, h2⟩
    show N _ _
    subst hN
    simp [mdel_mup hp]
    exact q pss (by omega) h1
  · rintro j ρ μ' M j0 j1 ⟨pss, k, rfl, rfl, h1, h2⟩ hM
    simp
    refine ⟨by omega, by omega, fun a ha => ?_⟩
    refine ⟨ns, a, rfl, hn0, hn1, hn, h1 a ha, fun qs hqs => ?_⟩
    simp
    refine ⟨sz_lt (by omega), hM _ _ ⟨pss ++ [qs], some (.int j), rfl, by simp, fun x hx => ?_, by simp; omega⟩⟩
    rcases List.mem_append.mp hx with hx | hx
    · exact h1 x hx
    · rw [List.mem_singleton.mp hx]; exact hqs
def sp__law_celled : DSp := fun ds μ Q _ => ∃ (ns : List CL), ds = [.src, .lst (ns.map fun n => .str (mk n))] ∧ ns ≠ [] ∧ ns.length ≤ 100 ∧ (∀ n ∈ ns, isNm n) ∧ ∀ ps : List CL, SpotIn (· ∈ ns) ps → Q (.str (mk ps.flatten)) μ
theorem len__law_celled : ∀ ds μ Q E, sp__law_celled ds μ Q E → ds.length = 2 := by
  rintro ds μ Q E ⟨ns, rfl, _⟩; rfl
abbrev s__law_celled : Stmt := topS 50
theorem sc__law_celled : FnScope ["source", "names", "text", "k"] ["source", "names"] (defScope s__law_celled) := ⟨rfl, rfl, rfl, by decide +kernel, rfl, by decide +kernel, by decide +kernel⟩
set_option maxHeartbeats 1000000 in
theorem ok__law_celled {P : Program} {w : World} {K : PySem.W.Frag} {mg : Str → Option Value} {base : Heap} {f : Addr} {fd : FuncData}  (D0 : DefAt K mg "_law_celled" s__law_celled ["source", "names"] f fd) (c__law_draw : Called P w K mg base 1 "_law_draw" ["source", "size"] sp__law_draw) (c__law_pick : Called P w K mg base 2 "_law_pick" ["source", "row"] sp__law_pick) (z_range : mg "range" = none) : FnOk P w K mg base CX0 (3) f fd ["source", "names"] (toSp K sp__law_celled) := by
  obtain ⟨f__law_draw, d__law_draw, m__law_draw, k__law_draw, b__law_draw, F__law_draw⟩ := c__law_draw
  obtain ⟨f__law_pick, d__law_pick, m__law_pick, k__law_pick, b__law_pick, F__law_pick⟩ := c__law_pick
  refine fn_ok D0.F sc__law_celled (len__law_celled) fun B cdv A outer s H E hr => ⟨_, _, dss_cons (ds_set 2 sc__law_celled.nd (de_str))
    (dss_cons (ds_for PassesOwn.never rfl (di_range1 (by rfl) z_range (da_cons (de_call F__law_draw (hr.mono (by decide)) m__law_draw k__law_draw b__law_draw (da_cons (dv 0) (da_cons (de_int) (da_nil)))) (da_nil))) (dg_name 3 sc__law_celled.nd)
      (dss_one (ds_set 2 sc__law_celled.nd (de_op do_add (de_op do_add (de_op do_add (dv 2) (de_str)) (de_call F__law_pick (hr.mono (by decide)) m__law_pick k__law_pick b__law_pick (da_cons (dv 0) (da_cons (de_op do_add (dv 1) (de_lst false (da_cons (de_str) (da_cons (de_str) (da_nil))))) (da_nil))))) (de_str)))))
    (dss_one (ds_ret (dv 2)))), ?_⟩
  rintro ds μ Q EE ⟨ns, rfl, hn0, hn1, hn, q⟩
  walk_at "dl0"
  walk_at "s"
  simp
  have e1 : ("a" : Str) = mk [97] := by decide +kernel
  have b1 : ("[" : Str) = mk [91] := by decide +kernel
  have b2 : ("]" : Str) = mk [93] := by decide +kernel
  rw [e1]
  subst hN
  walk_at "s"
  refine for_hide fun L hL => ?_
  simp
  intro t t0 t1
  subst hL
  refine ⟨by omega, loop_rng (fun j ρ μ' => ∃ (ps : List CL) (k : Option D), ρ = [some .src, some (.lst (ns.map fun n => .str (mk n))), some (.str (mk ps.flatten)), k] ∧ μ' = μ ∧ SpotIn (· ∈ ns) ps ∧ (ps.length : Int) = j + 1) (by omega) ⟨[[97]], none, rfl, rfl, .mk' (by simp [isNm]) (by simp) (by simp), rfl⟩ ?_ ?_⟩
  · rintro ρ μ' ⟨ps, k, rfl, rfl, h1, h2⟩
    show N _ _
    subst hN
    simp
    exact q ps h1
  · rintro j ρ μ' M j0 j1 ⟨ps, k, rfl, rfl, h1, h2⟩ hM
    simp
    have h6 := h1.small
    rw [← List.length_flatten, b1, b2]
    refine ⟨by rw [szl, mk_length]; show _ + 1 ≤ _; omega, sz_le (by omega), sz_le (by omega), by omega, fun d hd => ?_⟩
    have cell : ∃ m : CL, d = .str (mk m) ∧ ((isNm m ∧ m ∈ ns) ∨ isNum m) := by
      rcases hd with ⟨a, ha, rfl⟩ | rfl | rfl
      · exact ⟨a, rfl, .inl ⟨hn a ha, ha⟩⟩
      · exact ⟨[49], by rw [show ("1" : Str) = mk [49] by decide +kernel], .inr (by simp [isNum])⟩
      · exact ⟨[50], by rw [show ("2" : Str) = mk [50] by decide +kernel], .inr (by simp [isNum])⟩
    obtain ⟨m, rfl, hm⟩ := cell
    have hs := StepIn.cell (nm := (· ∈ ns)) hm
    obtain ⟨_, _, _, _, _, _, h9⟩ := hs.shape
    simp only [List.length_append, List.length_cons, List.length_nil] at h9
    simp only [vw_str, mk_append, mk_length, List.length_append, List.length_cons, List.length_nil]
    refine ⟨by rw [szl]; omega, by rw [szl]; omega, hM _ _ ⟨ps ++ [91 :: m ++ [93]], some (.int j), by simp, rfl, h1.snoc (by omega) hs, by simp; omega⟩⟩
def sp_inverse : DSp := fun ds μ Q _ => ∃ a : W6, ds = [.str a.txt] ∧ Q (.str a.inv.txt) μ
theorem len_inverse : ∀ ds μ Q E, sp_inverse ds μ Q E → ds.length = 1 := by
  rintro ds μ Q E ⟨a, rfl, _⟩; rfl
@[simp ↓] theorem e_inverse {s : Str} {μ : Mu} {Q : QD} {E : XDt} : sp_inverse [.str s] μ Q E = (match W6.of s with | some w => Q (.str w.inv.txt) μ | none => False) := by
  simp only [sp_inverse, List.cons.injEq, D.str.injEq, and_true, exW]
  try rfl
abbrev s_inverse : Stmt := topS 12
theorem sc_inverse : FnScope ["word"] ["word"] (defScope s_inverse) := ⟨rfl, rfl, rfl, by decide +kernel, rfl, by decide +kernel, by decide +kernel⟩
set_option maxHeartbeats 1000000 in
theorem ok_inverse {P : Program} {w : World} {K : PySem.W.Frag} {mg : Str → Option Value} {base : Heap} {f : Addr} {fd : FuncData}  (D0 : DefAt K mg "inverse" s_inverse ["word"] f fd) (g_INVERSES : Glob_INVERSES K w mg) : FnOk P w K mg base CX0 (1) f fd ["word"] (toSp K sp_inverse) := by
  obtain ⟨a_INVERSES, m_INVERSES, k_INVERSES⟩ := g_INVERSES
  refine fn_ok D0.F sc_inverse (len_inverse) fun B cdv A outer s H E hr => ⟨_, _, dss_one (ds_ret (de_kd tb_INVERSES m_INVERSES k_INVERSES (dv 0))), ?_⟩
  rintro ds μ Q EE ⟨a, rfl, q⟩
  simp
  rw [show tb_INVERSES a.txt = some a.inv.txt by cases a <;> decide]
  exact q
abbrev sp__law_begin : DSp := sp_begin
theorem len__law_begin : ∀ ds μ Q E, sp_begin_p ds μ Q E → ds.length = 1 := by
  rintro ds μ Q E ⟨ns, h | h, _⟩ <;> subst h <;> rfl
abbrev sp__law_begin_p : DSp := sp_begin_p
abbrev s__law_begin : Stmt := topS 36
theorem sc__law_begin : FnScope ["script"] ["script"] (defScope s__law_begin) := ⟨rfl, rfl, rfl, by decide +kernel, rfl, by decide +kernel, by decide +kernel⟩
set_option maxHeartbeats 1000000 in
theorem ok__law_begin_p {P : Program} {w : World} {K : PySem.W.Frag} {mg : Str → Option Value} {base : Heap} {f : Addr} {fd : FuncData}  (D0 : DefAt K mg "_law_begin" s__law_begin ["script"] f fd) (z_list : mg "list" = none) : FnOk P w K mg base CX0 (1) f fd ["script"] (toSp K sp__law_begin_p) := by
  refine fn_ok D0.F sc__law_begin (len__law_begin) fun B cdv A outer s H E hr => ⟨_, _, dss_one (ds_ret (de_lst true (da_cons (de_callTy (dc_list true) (by rfl) z_list (by decide +kernel) (da_cons (dv 0) (da_nil))) (da_cons (de_int) (da_cons (de_neg (de_int)) (da_cons (de_int) (da_nil))))))), ?_⟩
  rintro ds μ Q EE ⟨ns, h | h, q⟩ <;> subst h
  · simp
    intro l hl
    refine ⟨sz_le (by decide), fun a ha => ?_⟩
    have ne : a ≠ l := fun e => by subst e; simp at ha
    rw [mup_ne ne] at ha
    exact q a l hl ne ha
  · simp
    intro l hl
    refine ⟨sz_le (by decide), fun a ha => ?_⟩
    have ne : a ≠ l := fun e => by subst e; simp at ha
    rw [mup_ne ne] at ha
    exact q a l hl ne ha
theorem ok__law_begin {P : Program} {w : World} {K : PySem.W.Frag} {mg : Str → Option Value} {base : Heap} {f : Addr} {fd : FuncData}  (D0 : DefAt K mg "_law_begin" s__law_begin ["script"] f fd) (z_list : mg "list" = none) : FnOk P w K mg base CX0 1 f fd ["script"] (toSp K sp__law_begin) := (ok__law_begin_p D0 z_list).imp fun vs H Q E h => begin_imp h
def sp__law_grown : DSp := fun ds μ Q _ => ∃ ns : List Int, ds = [.scr ns] ∧ ns.length ≤ 63 ∧ ∀ l : List Int, Q (.lst (l.map .int)) μ
theorem len__law_grown : ∀ ds μ Q E, sp__law_grown ds μ Q E → ds.length = 1 := by
  rintro ds μ Q E ⟨ns, rfl, _⟩; rfl
abbrev s__law_grown : Stmt := topS 49
theorem sc__law_grown : FnScope ["script", "rows", "mixed", "number", "k"] ["script"] (defScope s__law_grown) := ⟨rfl, rfl, rfl, by decide +kernel, rfl, by decide +kernel, by decide +kernel⟩
set_option maxHeartbeats 1000000 in
theorem ok__law_grown {P : Program} {w : World} {K : PySem.W.Frag} {mg : Str → Option Value} {base : Heap} {f : Addr} {fd : FuncData}  (D0 : DefAt K mg "_law_grown" s__law_grown ["script"] f fd) (z_list : mg "list" = none) (z_int : mg "int" = none) (z_len : mg "len" = none) (z_range : mg "range" = none) : FnOk P w K mg base CX0 (1) f fd ["script"] (toSp K sp__law_grown) := by
  refine fn_ok D0.F sc__law_grown (len__law_grown) fun B cdv A outer s H E hr => ⟨_, _, dss_cons (ds_set 1 sc__law_grown.nd (de_callTy (dc_list true) (by rfl) z_list (by decide +kernel) (da_cons (dv 0) (da_nil))))
    (dss_cons (ds_set 2 sc__law_grown.nd (de_int))
    (dss_cons (ds_for PassesOwn.never rfl (di_scr (dv 0)) (dg_name 3 sc__law_grown.nd)
      (dss_one (ds_set 2 sc__law_grown.nd (de_op do_mod (de_callTy dc_int (by rfl) z_int (by decide +kernel) (da_cons (de_op do_add (de_op do_mul (dv 2) (de_int)) (dv 3)) (da_nil))) (de_int)))))
    (dss_cons (ds_if (dt_cmp do_gt (de_callB dc_len (by rfl) z_len (by decide +kernel) (da_cons (dv 0) (da_nil))) (de_int))
      (dss_one (ds_for PassesOwn.never rfl (di_range1 (by rfl) z_range (da_cons (de_int) (da_nil))) (dg_name 4 sc__law_grown.nd)
        (dss_cons (ds_set 2 sc__law_grown.nd (de_op do_mod (de_callTy dc_int (by rfl) z_int (by decide +kernel) (da_cons (de_op do_add (de_op do_add (de_op do_mul (dv 2) (de_int)) (de_op do_mul (dv 4) (de_int))) (de_int)) (da_nil))) (de_int)))
        (dss_one (ds_expr (de_bm PySem.F.plainAttrs_list PySem.F.slot_list_append PySem.F.type_list_append dm_append (dv 1) (da_cons (dv 2) (da_nil))))))))
      (dss_nil))
    (dss_one (ds_ret (de_frz (dv 1))))))), ?_⟩
  rintro ds μ Q EE ⟨ns, rfl, hl, q⟩
  walk_at "dl0"
  walk_at "s"
  simp
  intro a ha
  subst hN
  walk_at "s"
  simp
  subst hN
  walk_at "s"
  refine for_hide fun L hL => ?_
  simp
  rw [hL]
  refine loop_it (fun r ρ μ' => ∃ (l : List Int) (m : Int) (k : Option D), r = l.map .int ∧ ρ = [some (.scr ns), some (.ptr a), some (.int m), k, none] ∧ μ' = mup μ a (.lst (ns.map .int))) ⟨ns, 7, none, rfl, rfl, rfl⟩ ?_ ?_
  · rintro ρ μ' ⟨l, m, k, h1, rfl, rfl⟩
    show N _ _
    subst hN
    clear hL
    refine seq_cut (fun ρ μ' => ∃ (l : List Int) (m : Int) (k1 k2 : Option D), ρ = [some (.scr ns), some (.ptr a), some (.int m), k1, k2] ∧ μ' = mup μ a (.lst (l.map .int))) (fun N hN => ?_) ?_
    · simp
      split
      · refine loop_rng (fun j ρ μ' => ∃ (l : List Int) (m : Int) (k1 k2 : Option D), ρ = [some (.scr ns), some (.ptr a), some (.int m), k1, k2] ∧ μ' = mup μ a (.lst (l.map .int)) ∧ (l.length : Int) = ns.length + j) (by decide) ⟨ns, m, k, none, rfl, rfl, by simp⟩ ?_ ?_
        · rintro ρ μ' ⟨l, m, k1, k2, rfl, rfl, _⟩
          exact hN _ _ ⟨l, m, k1, k2, rfl, rfl⟩
        · rintro j ρ μ' M j0 j1 ⟨l, m, k1, k2, rfl, rfl, hj⟩ hM
          simp [vw_pd]
          exact ⟨by walk_at "dl_cz", by walk_at "dl_cz", by rw [szl]; omega, hM _ _ ⟨l ++ [(m * 48271 + j * 69621 + 11) % 2147483399], _, _, _, rfl, by simp, by simp; omega⟩⟩
      · exact hN _ _ ⟨ns, m, k, none, rfl, rfl⟩
    rintro _ _ ⟨l, m, k1, k2, rfl, rfl⟩
    simp
    rw [mdel_mup ha]
    exact q l
  · rintro y r ρ μ' M ⟨l, m, k, h1, rfl, rfl⟩ hM
    cases l with
    | nil => simp at h1
    | cons z l =>
      simp at h1
      obtain ⟨rfl, rfl⟩ := h1
      simp
      exact ⟨by walk_at "dl_cz", hM _ _ ⟨l, _, _, rfl, rfl, rfl⟩⟩

abbrev s__law_same_row : Stmt := topS 39
theorem sc__law_same_row : FnScope ["actual", "expected", "k"] ["actual", "expected"] (defScope s__law_same_row) := ⟨rfl, rfl, rfl, by decide +kernel, rfl, by decide +kernel, by decide +kernel⟩
set_option maxHeartbeats 1000000 in
theorem ok__law_same_row_n (n : Nat) {P : Program} {w : World} {K : PySem.W.Frag} {mg : Str → Option Value} {base : Heap} {f : Addr} {fd : FuncData}  (D0 : DefAt K mg "_law_same_row" s__law_same_row ["actual", "expected"] f fd) (c__law_same : Called P w K mg base (2*n+1) "_law_same" ["actual", "expected"] (sp_same n)) (z_len : mg "len" = none) (z_range : mg "range" = none) : FnOk P w K mg base CX0 (2*n+2) f fd ["actual", "expected"] (toSp K (sp_row n)) := by
  obtain ⟨f__law_same, d__law_same, m__law_same, k__law_same, b__law_same, F__law_same⟩ := c__law_same
  refine fn_ok D0.F sc__law_same_row ((len_row n)) fun B cdv A outer s H E hr => ⟨_, _, dss_cons (ds_if (dt_cmp (do_ne hr) (de_callB dc_len (by rfl) z_len (by decide +kernel) (da_cons (dv 0) (da_nil))) (de_callB dc_len (by rfl) z_len (by decide +kernel) (da_cons (dv 1) (da_nil))))
      (dss_one (ds_ret (de_bl)))
      (dss_nil))
    (dss_cons (ds_for PassesOwn.never rfl (di_range1 (by rfl) z_range (da_cons (de_callB dc_len (by rfl) z_len (by decide +kernel) (da_cons (dv 1) (da_nil))) (da_nil))) (dg_name 2 sc__law_same_row.nd)
      (dss_one (ds_if (dt_not (dt_tru (de_call F__law_same (hr.mono (by omega)) m__law_same k__law_same b__law_same (da_cons (de_ix (dv 0) (dv 2)) (da_cons (de_ix (dv 1) (dv 2)) (da_nil))))))
        (dss_one (ds_ret (de_bl)))
        (dss_nil))))
    (dss_one (ds_ret (de_bl)))), ?_⟩
  rintro ds μ Q EE ⟨x, y, xs, ys, as, bs, rfl, h, l1, l2, d1, d2, q⟩
  walk_at "dl0"
  rcases h with ⟨h1, h2⟩ | ⟨h1, h2⟩
  · simp [h1, h2]
    split
    · next h =>
      have hlen : xs.length = ys.length := by omega
      have la := dvs_len d1
      have lb := dvs_len d2
      refine ⟨by omega, loop_rng (fun j ρ μ' => μ' = μ ∧ (∃ k, ρ = [some x, some y, k]) ∧ ∀ i : Nat, (i : Int) < j → as[i]? = bs[i]?) (by omega) ⟨rfl, ⟨none, rfl⟩, by intros; omega⟩ ?_ ?_⟩
      · rintro ρ μ' ⟨rfl, ⟨k, rfl⟩, hi⟩
        have e : as = bs := List.ext_getElem? fun i => by
          by_cases hj : i < ys.length
          · exact hi i (by omega)
          · rw [List.getElem?_eq_none (by omega), List.getElem?_eq_none (by omega)]
        subst e
        rw [eqD_self] at q
        simp; exact q
      · rintro j ρ μ' N j0 j1 ⟨rfl, ⟨k, rfl⟩, hi⟩ hN
        have a1 : atI xs j = some xs[j.toNat] := by rw [atI_int j0]; exact List.getElem?_eq_getElem (by omega)
        have a2 : atI ys j = some ys[j.toNat] := by rw [atI_int j0]; exact List.getElem?_eq_getElem (by omega)
        obtain ⟨t1, p1, g1⟩ := dvs_get d1 j.toNat _ (List.getElem?_eq_getElem (by omega))
        obtain ⟨t2, p2, g2⟩ := dvs_get d2 j.toNat _ (List.getElem?_eq_getElem (by omega))
        simp [h1, h2, a1, a2, p1, p2]
        split
        · next e =>
          refine hN _ _ ⟨rfl, ⟨_, rfl⟩, fun i hi' => ?_⟩
          by_cases h9 : (i : Int) < j
          · exact hi i h9
          · have : i = j.toNat := by omega
            subst this
            rw [g1, g2]
            congr 1
            exact eqD_iff.mp e
        · next e =>
          rw [eqD_no.mpr] at q
          · exact q
          · intro e'
            cases e'
            rw [g1] at g2
            cases g2
            exact e eqD_self
    · next h =>
      have la := dvs_len d1
      have lb := dvs_len d2
      rw [eqD_no.mpr] at q
      · exact q
      · intro e; cases e; exact h (by omega)
  · simp [h1, h2]
    split
    · next h =>
      have hlen : xs.length = ys.length := by omega
      have la := dvs_len d1
      have lb := dvs_len d2
      refine ⟨by omega, loop_rng (fun j ρ μ' => μ' = μ ∧ (∃ k, ρ = [some x, some y, k]) ∧ ∀ i : Nat, (i : Int) < j → as[i]? = bs[i]?) (by omega) ⟨rfl, ⟨none, rfl⟩, by intros; omega⟩ ?_ ?_⟩
      · rintro ρ μ' ⟨rfl, ⟨k, rfl⟩, hi⟩
        have e : as = bs := List.ext_getElem? fun i => by
          by_cases hj : i < ys.length
          · exact hi i (by omega)
          · rw [List.getElem?_eq_none (by omega), List.getElem?_eq_none (by omega)]
        subst e
        rw [eqD_self] at q
        simp; exact q
      · rintro j ρ μ' N j0 j1 ⟨rfl, ⟨k, rfl⟩, hi⟩ hN
        have a1 : atI xs j = some xs[j.toNat] := by rw [atI_int j0]; exact List.getElem?_eq_getElem (by omega)
        have a2 : atI ys j = some ys[j.toNat] := by rw [atI_int j0]; exact List.getElem?_eq_getElem (by omega)
        obtain ⟨t1, p1, g1⟩ := dvs_get d1 j.toNat _ (List.getElem?_eq_getElem (by omega))
        obtain ⟨t2, p2, g2⟩ := dvs_get d2 j.toNat _ (List.getElem?_eq_getElem (by omega))
        simp [h1, h2, a1, a2, p1, p2]
        split
        · next e =>
          refine hN _ _ ⟨rfl, ⟨_, rfl⟩, fun i hi' => ?_⟩
          by_cases h9 : (i : Int) < j
          · exact hi i h9
          · have : i = j.toNat := by omega
            subst this
            rw [g1, g2]
            congr 1
            exact eqD_iff.mp e
        · next e =>
          rw [eqD_no.mpr] at q
          · exact q
          · intro e'
            cases e'
            rw [g1] at g2
            cases g2
            exact e eqD_self
    · next h =>
      have la := dvs_len d1
      have lb := dvs_len d2
      rw [eqD_no.mpr] at q
      · exact q
      · intro e; cases e; exact h (by omega)

abbrev s__law_same : Stmt := topS 40
theorem sc__law_same : FnScope ["actual", "expected"] ["actual", "expected"] (defScope s__law_same) := ⟨rfl, rfl, rfl, by decide +kernel, rfl, by decide +kernel, by decide +kernel⟩
set_option maxHeartbeats 1000000 in
theorem ok__law_same_n (n : Nat) {P : Program} {w : World} {K : PySem.W.Frag} {mg : Str → Option Value} {base : Heap} {f : Addr} {fd : FuncData}  (D0 : DefAt K mg "_law_same" s__law_same ["actual", "expected"] f fd) (c__law_same_row : Called P w K mg base (2*n) "_law_same_row" ["actual", "expected"] (sp_rowN n)) (z_isinstance : mg "isinstance" = none) (z_bool : mg "bool" = none) (z_int : mg "int" = none) (z_str : mg "str" = none) (z_list : mg "list" = none) (z_tuple : mg "tuple" = none) : FnOk P w K mg base CX0 (2*n+1) f fd ["actual", "expected"] (toSp K (sp_same n)) := by
  obtain ⟨f__law_same_row, d__law_same_row, m__law_same_row, k__law_same_row, b__law_same_row, F__law_same_row⟩ := c__law_same_row
  refine fn_ok D0.F sc__law_same ((len_same n)) fun B cdv A outer s H E hr => ⟨_, _, dss_cons (ds_if (dt_cmp do_is (dv 1) (de_non))
      (dss_one (ds_ret (de_cmp do_is (dv 0) (de_non))))
      (dss_nil))
    (dss_cons (ds_if (dt_tru (de_isi "bool" (by decide) (dv 1) z_isinstance z_bool (by decide +kernel)))
      (dss_one (ds_ret (de_and (de_isi "bool" (by decide) (dv 0) z_isinstance z_bool (by decide +kernel)) (de_one (de_cmp (do_eq hr) (dv 0) (dv 1))))))
      (dss_nil))
    (dss_cons (ds_if (dt_tru (de_isi "int" (by decide) (dv 1) z_isinstance z_int (by decide +kernel)))
      (dss_one (ds_ret (de_and (de_isi "int" (by decide) (dv 0) z_isinstance z_int (by decide +kernel)) (de_and (de_not (de_isi "bool" (by decide) (dv 0) z_isinstance z_bool (by decide +kernel))) (de_one (de_cmp (do_eq hr) (dv 0) (dv 1)))))))
      (dss_nil))
    (dss_cons (ds_if (dt_tru (de_isi "str" (by decide) (dv 1) z_isinstance z_str (by decide +kernel)))
      (dss_one (ds_ret (de_and (de_isi "str" (by decide) (dv 0) z_isinstance z_str (by decide +kernel)) (de_one (de_cmp (do_eq hr) (dv 0) (dv 1))))))
      (dss_nil))
    (dss_cons (ds_if (dt_tru (de_isi "list" (by decide) (dv 1) z_isinstance z_list (by decide +kernel)))
      (dss_one (ds_ret (de_and (de_isi "list" (by decide) (dv 0) z_isinstance z_list (by decide +kernel)) (de_one (de_call F__law_same_row (hr.mono (by omega)) m__law_same_row k__law_same_row b__law_same_row (da_cons (dv 0) (da_cons (dv 1) (da_nil))))))))
      (dss_nil))
    (dss_one (ds_ret (de_and (de_isi "tuple" (by decide) (dv 0) z_isinstance z_tuple (by decide +kernel)) (de_one (de_call F__law_same_row (hr.mono (by omega)) m__law_same_row k__law_same_row b__law_same_row (da_cons (dv 0) (da_cons (dv 1) (da_nil)))))))))))), ?_⟩
  rintro ds μ Q EE ⟨x, y, a, b, rfl, p1, p2, q⟩
  walk_at "dl0"
  have nx : isNonD x = isNonD (vw μ x) := isNonD_vw
  have ny : isNonD y = isNonD (vw μ y) := isNonD_vw
  rcases dview_cases p1 with ⟨rfl, e1⟩ | ⟨b1, rfl, e1⟩ | ⟨b1, rfl, e1⟩ | ⟨b1, rfl, e1⟩ | ⟨m1, xs, as, z1, rfl, e1, l1, k1⟩ | ⟨m1, xs, as, z1, rfl, e1, l1, k1⟩ <;> rcases dview_cases p2 with ⟨rfl, e2⟩ | ⟨b2, rfl, e2⟩ | ⟨b2, rfl, e2⟩ | ⟨b2, rfl, e2⟩ | ⟨m2, ys, bs, z2, rfl, e2, l2, k2⟩ | ⟨m2, ys, bs, z2, rfl, e2, l2, k2⟩ <;> rw [e1] at nx <;> rw [e2] at ny <;> simp [-isNonD, nx, ny, e1, e2, nd_n, nd_b, nd_i, nd_s, nd_l, nd_t]
  all_goals first
    | (rw [eqD_no.mpr (by simp)] at q; exact q)
    | (rw [eqD_self] at q; exact q)
    | (simp only [eqD_b, eqD_i, eqD_s] at q; exact q)
    | (subst z1
       cases z2
       first
         | exact ⟨x, y, _, _, _, _, rfl, .inl ⟨e1, e2⟩, l1, l2, k1, k2, q⟩
         | (rw [eqD_t] at q; exact ⟨x, y, _, _, _, _, rfl, .inr ⟨e1, e2⟩, l1, l2, k1, k2, q⟩))
abbrev sp__law_same : DSp := sp_same 19
theorem ok__law_same {P : Program} {w : World} {K : PySem.W.Frag} {mg : Str → Option Value} {base : Heap} {f f1 : Addr} {fd fd1 : FuncData} (D0 : DefAt K mg "_law_same" s__law_same ["actual", "expected"] f fd) (D1 : DefAt K mg "_law_same_row" s__law_same_row ["actual", "expected"] f1 fd1) (z_isinstance : mg "isinstance" = none) (z_bool : mg "bool" = none) (z_int : mg "int" = none) (z_str : mg "str" = none) (z_list : mg "list" = none) (z_tuple : mg "tuple" = none) (z_len : mg "len" = none) (z_range : mg "range" = none) : FnOk P w K mg base CX0 40 f fd ["actual", "expected"] (toSp K sp__law_same) := by
  have all : ∀ n, FnOk P w K mg base CX0 (2*n+1) f fd ["actual", "expected"] (toSp K (sp_same n)) := by
    intro n
    induction n with
    | zero =>
      refine ok__law_same_n 0 D0 ⟨f1, fd1, D1.m, D1.F.kp, D1.b, ⟨?_, ?_⟩⟩ z_isinstance z_bool z_int z_str z_list z_tuple
      · rintro vs H Q E ⟨_, _, _, _, _, _, _, h, _⟩; exact h.elim
      · intros; rename_i hsp; obtain ⟨_, _, _, _, _, _, _, h, _⟩ := hsp; exact h.elim
    | succ n ih => exact ok__law_same_n (n + 1) D0 (D1.called (ok__law_same_row_n n D1 (D0.called ih) z_len z_range)) z_isinstance z_bool z_int z_str z_list z_tuple
  exact (all 19).mono (by decide)
abbrev sp_law : DSp := spLaw
theorem len_law : ∀ ds μ Q E, spLaw ds μ Q E → ds.length = 1 := by
  rintro ds μ Q E ⟨ns, rfl, _⟩; rfl
def tabD : List (L2.Key × D) := mergeD [(Sum.inr ("same" : Str), D.str "same"), (Sum.inr ("over" : Str), D.str "around"), (Sum.inr ("overbox" : Str), D.str "around"), (Sum.inr ("under" : Str), D.str "within"), (Sum.inr ("underbox" : Str), D.str "within")]
theorem tab_look : ∀ w ∈ ("apart" : Str) :: wordsJ, (valD tabD (Sum.inr w)).getD (D.str "apart") = D.str (standW [w]) := by
  intro w hw
  have e : tabD = [(Sum.inr ("same" : Str), D.str "same"), (Sum.inr ("over" : Str), D.str "around"), (Sum.inr ("overbox" : Str), D.str "around"), (Sum.inr ("under" : Str), D.str "within"), (Sum.inr ("underbox" : Str), D.str "within")] := by
    simp [tabD, mergeD, putD]
  rw [e]
  simp only [wordsJ, List.mem_cons, List.not_mem_nil, or_false] at hw
  rcases hw with rfl | rfl | rfl | rfl | rfl | rfl <;> simp [valD, standW]
theorem inv_of : ∀ w ∈ ("apart" : Str) :: wordsJ, (W6.of w).map (fun v => v.inv.txt) = some (invS w) := by decide +kernel
theorem chance_mem {ps qs : List CL} : ∀ w ∈ chanceW ps qs, w ∈ ("apart" : Str) :: wordsJ := by
  intro w hw
  rcases chance_form ps qs with h | ⟨v, hv, h | h⟩ <;> rw [h] at hw <;> simp only [List.mem_cons, List.not_mem_nil, or_false] at hw
  · exact List.mem_cons.mpr (.inl hw)
  · subst hw; exact List.mem_cons_of_mem _ hv
  · rcases hw with rfl | rfl
    · exact List.mem_cons_of_mem _ hv
    · simp
theorem chance_len (ps qs : List CL) : (chanceW ps qs).length ≤ 2 ∧ chanceW ps qs ≠ [] := by
  rcases chance_form ps qs with h | ⟨v, hv, h | h⟩ <;> rw [h] <;> simp
theorem dv_strs3 {es : List Str} {μ : Mu} (h : es.length ≤ 1000000) : dview μ 19 (.lst (es.map .str)) = some (.lst (es.map .str)) :=
  dview_pure (Pd_lst (n := 18) (by simp; omega) fun x hx => by obtain ⟨s, _, rfl⟩ := List.mem_map.mp hx; exact Pd_str')
abbrev s_law : Stmt := topS 51
theorem sc_law : FnScope ["script", "source", "names", "spots", "table", "one", "other", "due", "told", "word"] ["script"] (defScope s_law) := ⟨rfl, rfl, rfl, by decide +kernel, rfl, by decide +kernel, by decide +kernel⟩
set_option maxHeartbeats 1000000 in
theorem ok_law {P : Program} {w : World} {K : PySem.W.Frag} {mg : Str → Option Value} {base : Heap} {f : Addr} {fd : FuncData}  (D0 : DefAt K mg "law" s_law ["script"] f fd) (c__law_begin : Called P w K mg base 1 "_law_begin" ["script"] sp__law_begin) (c__law_grown : Called P w K mg base 1 "_law_grown" ["script"] sp__law_grown) (c__law_row_of_spots : Called P w K mg base 7 "_law_row_of_spots" ["source", "count", "names"] sp__law_row_of_spots) (c__law_draw : Called P w K mg base 1 "_law_draw" ["source", "size"] sp__law_draw) (c__law_celled : Called P w K mg base 3 "_law_celled" ["source", "names"] sp__law_celled) (c__law_possible : Called P w K mg base 2 "_law_possible" ["first", "second"] sp__law_possible) (c_chances : Called P w K mg base 7 "chances" ["first", "second"] sp_chances) (c__law_same : Called P w K mg base 40 "_law_same" ["actual", "expected"] sp__law_same) (c_inverse : Called P w K mg base 1 "inverse" ["word"] sp_inverse) (c_stand_of : Called P w K mg base 8 "stand_of" ["first", "second"] sp_stand_of) (z_len : mg "len" = none) : FnOk P w K mg base CX0 (41) f fd ["script"] (toSp K sp_law) := by
  obtain ⟨f__law_begin, d__law_begin, m__law_begin, k__law_begin, b__law_begin, F__law_begin⟩ := c__law_begin
  obtain ⟨f__law_grown, d__law_grown, m__law_grown, k__law_grown, b__law_grown, F__law_grown⟩ := c__law_grown
  obtain ⟨f__law_row_of_spots, d__law_row_of_spots, m__law_row_of_spots, k__law_row_of_spots, b__law_row_of_spots, F__law_row_of_spots⟩ := c__law_row_of_spots
  obtain ⟨f__law_draw, d__law_draw, m__law_draw, k__law_draw, b__law_draw, F__law_draw⟩ := c__law_draw
  obtain ⟨f__law_celled, d__law_celled, m__law_celled, k__law_celled, b__law_celled, F__law_celled⟩ := c__law_celled
  obtain ⟨f__law_possible, d__law_possible, m__law_possible, k__law_possible, b__law_possible, F__law_possible⟩ := c__law_possible
  obtain ⟨f_chances, d_chances, m_chances, k_chances, b_chances, F_chances⟩ := c_chances
  obtain ⟨f__law_same, d__law_same, m__law_same, k__law_same, b__law_same, F__law_same⟩ := c__law_same
  obtain ⟨f_inverse, d_inverse, m_inverse, k_inverse, b_inverse, F_inverse⟩ := c_inverse
  obtain ⟨f_stand_of, d_stand_of, m_stand_of, k_stand_of, b_stand_of, F_stand_of⟩ := c_stand_of
  refine fn_okF D0.F sc_law (len_law) fun B cdv A outer s H E hr => ⟨_, _, dss_cons (ds_set 1 sc_law.nd (de_call F__law_begin (hr.mono (by decide)) m__law_begin k__law_begin b__law_begin (da_cons (de_call F__law_grown (hr.mono (by decide)) m__law_grown k__law_grown b__law_grown (da_cons (dv 0) (da_nil))) (da_nil))))
    (dss_cons (ds_set 2 sc_law.nd (de_lst false (da_cons (de_str) (da_cons (de_str) (da_cons (de_str) (da_cons (de_str) (da_nil)))))))
    (dss_cons (ds_set 3 sc_law.nd (de_call F__law_row_of_spots (hr.mono (by decide)) m__law_row_of_spots k__law_row_of_spots b__law_row_of_spots (da_cons (dv 1) (da_cons (de_op do_add (de_int) (de_call F__law_draw (hr.mono (by decide)) m__law_draw k__law_draw b__law_draw (da_cons (dv 1) (da_cons (de_int) (da_nil))))) (da_cons (dv 2) (da_nil))))))
    (dss_cons (ds_if (dt_cmp (do_eq hr) (de_call F__law_draw (hr.mono (by decide)) m__law_draw k__law_draw b__law_draw (da_cons (dv 1) (da_cons (de_int) (da_nil)))) (de_int))
      (dss_one (ds_set 3 sc_law.nd (de_lst false (da_cons (de_call F__law_celled (hr.mono (by decide)) m__law_celled k__law_celled b__law_celled (da_cons (dv 1) (da_cons (dv 2) (da_nil)))) (da_cons (de_call F__law_celled (hr.mono (by decide)) m__law_celled k__law_celled b__law_celled (da_cons (dv 1) (da_cons (dv 2) (da_nil)))) (da_nil))))))
      (dss_nil))
    (dss_cons (ds_set 4 sc_law.nd (de_disp false (dps_cons (de_str) (de_str) (dps_cons (de_str) (de_str) (dps_cons (de_str) (de_str) (dps_cons (de_str) (de_str) (dps_cons (de_str) (de_str) (dps_nil))))))))
    (dss_cons (ds_for PassesOwn.never rfl (di_list (dv 3)) (dg_name 5 sc_law.nd)
      (dss_one (ds_for PassesOwn.never rfl (di_list (dv 3)) (dg_name 6 sc_law.nd)
        (dss_cons (ds_set 7 sc_law.nd (de_call F__law_possible (hr.mono (by decide)) m__law_possible k__law_possible b__law_possible (da_cons (dv 5) (da_cons (dv 6) (da_nil)))))
        (dss_cons (ds_set 8 sc_law.nd (de_call F_chances (hr.mono (by decide)) m_chances k_chances b_chances (da_cons (dv 5) (da_cons (dv 6) (da_nil)))))
        (dss_cons (ds_if (dt_not (dt_tru (de_call F__law_same (hr.mono (by decide)) m__law_same k__law_same b__law_same (da_cons (dv 8) (da_cons (dv 7) (da_nil))))))
          (dss_one (ds_ret (de_bl)))
          (dss_nil))
        (dss_cons (ds_if (dt_not (dt_tru (de_call F__law_same (hr.mono (by decide)) m__law_same k__law_same b__law_same (da_cons (de_lcA false (own := [("word", 9)]) rfl sc_law.nd (di_list (dv 8)) (blkOk_by (N := ["script", "source", "names", "spots", "table", "one", "other", "due", "told", "word"]) (sc := defScope s_law) (by decide +kernel)) (fun _ _ _ _ _ => dg_name 9 sc_law.nd) (keep_name (by decide)) (fun _ _ _ _ _ => dts_nil) (fun _ _ _ _ _ => de_call F_inverse (hr.mono (by decide)) m_inverse k_inverse b_inverse (da_cons (dv 9) (da_nil)))) (da_cons (de_call F_chances (hr.mono (by decide)) m_chances k_chances b_chances (da_cons (dv 6) (da_cons (dv 5) (da_nil)))) (da_nil))))))
          (dss_one (ds_ret (de_bl)))
          (dss_nil))
        (dss_cons (ds_set 9 sc_law.nd (de_dget2 hr (dv 4) (de_ix (dv 7) (de_int)) (de_str)))
        (dss_cons (ds_if (dt_cmp do_gt (de_callB dc_len (by rfl) z_len (by decide +kernel) (da_cons (dv 7) (da_nil))) (de_int))
          (dss_one (ds_set 9 sc_law.nd (de_str)))
          (dss_nil))
        (dss_one (ds_if (dt_not (dt_tru (de_call F__law_same (hr.mono (by decide)) m__law_same k__law_same b__law_same (da_cons (de_call F_stand_of (hr.mono (by decide)) m_stand_of k_stand_of b_stand_of (da_cons (dv 5) (da_cons (dv 6) (da_nil)))) (da_cons (dv 9) (da_nil))))))
          (dss_one (ds_ret (de_bl)))
          (dss_nil))))))))))))
    (dss_one (ds_ret (de_bl)))))))), ?_⟩
  rintro ds μ Q EE ⟨ns, rfl, hns, q⟩
  walk_at "dl0"
  walk_at "s"
  simp [sp__law_begin, sp_begin, sp__law_grown]
  refine ⟨hns, fun l => ⟨⟨l, rfl⟩, ?_⟩⟩
  subst hN
  walk_at "s"
  simp
  refine ⟨sz_le (by omega), ?_⟩
  have en : ([.str "i", .str "j", .str "k", .str "l"] : List D) = ([[105], [106], [107], [108]] : List CL).map fun n => .str (mk n) := by
    simp only [List.map_cons, List.map_nil]
    rw [show ("i" : Str) = mk [105] by decide +kernel, show ("j" : Str) = mk [106] by decide +kernel, show ("k" : Str) = mk [107] by decide +kernel, show ("l" : Str) = mk [108] by decide +kernel]
  have hnm : ∀ n ∈ ([[105], [106], [107], [108]] : List CL), isNm n := by
    intro n hn
    simp only [List.mem_cons, List.not_mem_nil, or_false] at hn
    rcases hn with rfl | rfl | rfl | rfl <;> simp [isNm]
  rw [en]
  have hn0 : ([[105], [106], [107], [108]] : List CL) ≠ [] := by simp
  have hn1 : ([[105], [106], [107], [108]] : List CL).length ≤ 100 := by simp
  generalize ([[105], [106], [107], [108]] : List CL) = nn at *
  clear en
  subst hN
  walk_at "s"
  simp
  intro m m0 m1
  refine ⟨2 + m, nn, rfl, by omega, by omega, hn0, hn1, hnm, fun pss hpl hps => ?_⟩
  subst hN
  walk_at "s"
  simp
  have H : ∀ pss : List (List CL), pss.length ≤ 10 → (∀ ps ∈ pss, SpotIn (· ∈ nn) ps) → N [some (.scr ns), some .src, some (.lst (nn.map fun n => .str (mk n))), some (.lst (pss.map fun ps => .str (mk ps.flatten))), none, none, none, none, none, none] μ := by
    intro pss hpl hps
    subst hN
    walk_at "s"
    simp
    intro p hp
    rw [mdel_mup hp]
    show N [_, _, _, _, some (.dic tabD), _, _, _, _, _] _
    subst hN
    walk_at "s"
    refine for_hide fun L hL => ?_
    simp
    subst hL
    refine loop_it (fun xs ρ μ' => ∃ (rest : List (List CL)) (e5 e6 e7 e8 e9 : Option D), xs = rest.map (fun ps => .str (mk ps.flatten)) ∧ ρ = [some (.scr ns), some .src, some (.lst (nn.map fun n => .str (mk n))), some (.lst (pss.map fun ps => .str (mk ps.flatten))), some (.dic tabD), e5, e6, e7, e8, e9] ∧ ∀ ps ∈ rest, SpotIn (· ∈ nn) ps) ⟨pss, none, none, none, none, none, rfl, rfl, hps⟩ ?_ ?_
    · rintro ρ μ' ⟨rest, e5, e6, e7, e8, e9, _, rfl, _⟩
      show N _ _
      subst hN
      simp
      exact Fg.here (q _)
    · rintro x r ρ μ' M ⟨rest, e5, e6, e7, e8, e9, e, rfl, hr⟩ hM
      cases rest with
      | nil => simp at e
      | cons ps rest =>
      simp only [List.map_cons, List.cons.injEq] at e
      obtain ⟨rfl, rfl⟩ := e
      have hp1 := hr ps (by simp)
      refine for_hide fun L hL => ?_
      simp
      subst hL
      refine loop_it (fun xs ρ μ' => ∃ (rest : List (List CL)) (e6 e7 e8 e9 : Option D), xs = rest.map (fun ps => .str (mk ps.flatten)) ∧ ρ = [some (.scr ns), some .src, some (.lst (nn.map fun n => .str (mk n))), some (.lst (pss.map fun ps => .str (mk ps.flatten))), some (.dic tabD), some (.str (mk ps.flatten)), e6, e7, e8, e9] ∧ ∀ ps ∈ rest, SpotIn (· ∈ nn) ps) ⟨pss, _, _, _, _, rfl, rfl, hps⟩ ?_ ?_
      · rintro ρ μ' ⟨rest', e6, e7, e8, e9, _, rfl, _⟩
        exact hM _ _ ⟨rest, _, _, _, _, _, rfl, rfl, fun ps h => hr ps (List.mem_cons_of_mem _ h)⟩
      · rintro x r ρ μ' M2 ⟨rest', e6, e7, e8, e9, e, rfl, hr'⟩ hM2
        cases rest' with
        | nil => simp at e
        | cons qs rest' =>
        simp only [List.map_cons, List.cons.injEq] at e
        obtain ⟨rfl, rfl⟩ := e
        have hq1 := hr' qs (by simp)
        walk_at "s"
        simp
        refine ⟨_, ps, qs, rfl, hp1, hq1, ?_⟩
        obtain ⟨hcl, hc0⟩ := chance_len ps qs
        subst hN
        walk_at "s"
        simp
        refine ⟨_, ps, qs, rfl, hp1, hq1, ?_⟩
        subst hN
        walk_at "s"
        simp
        rw [dv_strs3 (by omega)]
        simp only [eqD_self, if_true]
        subst hN
        walk_at "s"
        simp
        intro p hp
        refine comp_map D.str (fun w => D.str (invS w)) (by simp; omega) (fun w hw acc M3 ha3 hN3 => ?_) ?_
        · have h := inv_of w (chance_mem w hw)
          simp
          cases e : W6.of w with
          | none => rw [e] at h; cases h
          | some v =>
            rw [e] at h
            simp only [Option.map_some, Option.some.injEq] at h
            simp [h]
            exact ⟨sz_lt ha3, hN3⟩
        · simp only [mup_same, List.nil_append]
          refine ⟨_, qs, ps, rfl, hq1, hp1, ?_⟩
          rw [chance_inv ps qs]
          have em : (chanceW ps qs).map (fun w => D.str (invS w)) = ((chanceW ps qs).map invS).map D.str := by rw [List.map_map]; rfl
          rw [em]
          dsimp only
          rw [dv_strs3 (by rw [List.length_map]; omega)]
          simp only [eqD_self, if_true]
          subst hN
          walk_at "s"
          simp
          have hw : ∃ w r, chanceW ps qs = w :: r := List.exists_cons_of_ne_nil hc0
          obtain ⟨w, r, hwr⟩ := hw
          have hwm := chance_mem (ps := ps) (qs := qs) w (by rw [hwr]; simp)
          rw [hwr] at hcl ⊢
          simp [keyD_str]
          rw [tab_look w hwm]
          generalize mdel (mup μ' p (Cell.lst (D.str (invS w) :: List.map (D.str ∘ invS) r))) p = μ9
          subst hN
          walk_at "s"
          simp
          have H9 : ∀ u : Str, u = standW (w :: r) → N [some (.scr ns), some .src, some (.lst (nn.map fun n => .str (mk n))), some (.lst (pss.map fun ps => .str (mk ps.flatten))), some (.dic tabD), some (.str (mk ps.flatten)), some (.str (mk qs.flatten)), some (.lst (D.str w :: r.map .str)), some (.lst (D.str w :: r.map .str)), some (.str u)] μ9 := by
            intro u hu
            subst hN
            simp
            refine ⟨_, ps, qs, rfl, hp1, hq1, ?_⟩
            rw [hwr, ← hu]
            simp
            exact hM2 _ _ ⟨rest', _, _, _, _, rfl, rfl, fun ps h => hr' ps (List.mem_cons_of_mem _ h)⟩
          cases r with
          | nil => simp; exact H9 _ rfl
          | cons v r =>
            rw [if_pos (by simp only [List.length_cons]; omega)]
            exact H9 _ rfl
  intro n n0 n1
  refine iteI (fun _ => ?_) (fun _ => H pss hpl hps)
  refine ⟨nn, rfl, hn0, hn1, hnm, fun ps hp => ?_⟩
  refine ⟨nn, rfl, hn0, hn1, hnm, fun qs hq => ?_⟩
  refine ⟨sz_le (by omega), H [ps, qs] (by simp) (by simp; exact ⟨hp, hq⟩)⟩
set_option maxHeartbeats 8000000 in
theorem all_mk {l : PySem.W.OpenLaw} {w : World} {K : PySem.W.Frag} {h : Heap} {mg : Str → Option Value} {fa : Addr} (X : K.In h) (G : h.Ns mainGlobals mg) (hfa : mg "law" = some (.ref fa))
    {C_Spot : Addr}
    {f0 : Addr} {od0 an0 : Option Addr} {sl0 : Array (Option Value)} {oc0 kV0 dc0 pm0 cd0 ct0 : Value}
    {f1 : Addr} {od1 an1 : Option Addr} {sl1 : Array (Option Value)} {oc1 kV1 dc1 pm1 cd1 ct1 : Value}
    {f2 : Addr} {od2 an2 : Option Addr} {sl2 : Array (Option Value)} {oc2 kV2 dc2 pm2 cd2 ct2 : Value}
    {f3 : Addr} {od3 an3 : Option Addr} {sl3 : Array (Option Value)} {oc3 kV3 dc3 pm3 cd3 ct3 : Value}
    {f4 : Addr} {od4 an4 : Option Addr} {sl4 : Array (Option Value)} {oc4 kV4 dc4 pm4 cd4 ct4 : Value}
    {f5 : Addr} {od5 an5 : Option Addr} {sl5 : Array (Option Value)} {oc5 kV5 dc5 pm5 cd5 ct5 : Value}
    {f6 : Addr} {od6 an6 : Option Addr} {sl6 : Array (Option Value)} {oc6 kV6 dc6 pm6 cd6 ct6 : Value}
    {f7 : Addr} {od7 an7 : Option Addr} {sl7 : Array (Option Value)} {oc7 kV7 dc7 pm7 cd7 ct7 : Value}
    {f8 : Addr} {od8 an8 : Option Addr} {sl8 : Array (Option Value)} {oc8 kV8 dc8 pm8 cd8 ct8 : Value}
    {f9 : Addr} {od9 an9 : Option Addr} {sl9 : Array (Option Value)} {oc9 kV9 dc9 pm9 cd9 ct9 : Value}
    {f10 : Addr} {od10 an10 : Option Addr} {sl10 : Array (Option Value)} {oc10 kV10 dc10 pm10 cd10 ct10 : Value}
    {f11 : Addr} {od11 an11 : Option Addr} {sl11 : Array (Option Value)} {oc11 kV11 dc11 pm11 cd11 ct11 : Value}
    {f12 : Addr} {od12 an12 : Option Addr} {sl12 : Array (Option Value)} {oc12 kV12 dc12 pm12 cd12 ct12 : Value}
    {f13 : Addr} {od13 an13 : Option Addr} {sl13 : Array (Option Value)} {oc13 kV13 dc13 pm13 cd13 ct13 : Value}
    {f14 : Addr} {od14 an14 : Option Addr} {sl14 : Array (Option Value)} {oc14 kV14 dc14 pm14 cd14 ct14 : Value}
    {f15 : Addr} {od15 an15 : Option Addr} {sl15 : Array (Option Value)} {oc15 kV15 dc15 pm15 cd15 ct15 : Value}
    {p15 : Addr} {re15 : List Value}
    {f16 : Addr} {od16 an16 : Option Addr} {sl16 : Array (Option Value)} {oc16 kV16 dc16 pm16 cd16 ct16 : Value}
    {f17 : Addr} {od17 an17 : Option Addr} {sl17 : Array (Option Value)} {oc17 kV17 dc17 pm17 cd17 ct17 : Value}
    {f18 : Addr} {od18 an18 : Option Addr} {sl18 : Array (Option Value)} {oc18 kV18 dc18 pm18 cd18 ct18 : Value}
    {f19 : Addr} {od19 an19 : Option Addr} {sl19 : Array (Option Value)} {oc19 kV19 dc19 pm19 cd19 ct19 : Value}
    {f20 : Addr} {od20 an20 : Option Addr} {sl20 : Array (Option Value)} {oc20 kV20 dc20 pm20 cd20 ct20 : Value}
    {f21 : Addr} {od21 an21 : Option Addr} {sl21 : Array (Option Value)} {oc21 kV21 dc21 pm21 cd21 ct21 : Value}
    {f22 : Addr} {od22 an22 : Option Addr} {sl22 : Array (Option Value)} {oc22 kV22 dc22 pm22 cd22 ct22 : Value}
    {f23 : Addr} {od23 an23 : Option Addr} {sl23 : Array (Option Value)} {oc23 kV23 dc23 pm23 cd23 ct23 : Value}
    {f24 : Addr} {od24 an24 : Option Addr} {sl24 : Array (Option Value)} {oc24 kV24 dc24 pm24 cd24 ct24 : Value}
    {f25 : Addr} {od25 an25 : Option Addr} {sl25 : Array (Option Value)} {oc25 kV25 dc25 pm25 cd25 ct25 : Value}
    {f26 : Addr} {od26 an26 : Option Addr} {sl26 : Array (Option Value)} {oc26 kV26 dc26 pm26 cd26 ct26 : Value}
    {f27 : Addr} {od27 an27 : Option Addr} {sl27 : Array (Option Value)} {oc27 kV27 dc27 pm27 cd27 ct27 : Value}
    {f28 : Addr} {od28 an28 : Option Addr} {sl28 : Array (Option Value)} {oc28 kV28 dc28 pm28 cd28 ct28 : Value}
    {f29 : Addr} {od29 an29 : Option Addr} {sl29 : Array (Option Value)} {oc29 kV29 dc29 pm29 cd29 ct29 : Value}
    {f30 : Addr} {od30 an30 : Option Addr} {sl30 : Array (Option Value)} {oc30 kV30 dc30 pm30 cd30 ct30 : Value}
    {f31 : Addr} {od31 an31 : Option Addr} {sl31 : Array (Option Value)} {oc31 kV31 dc31 pm31 cd31 ct31 : Value}
    {f32 : Addr} {od32 an32 : Option Addr} {sl32 : Array (Option Value)} {oc32 kV32 dc32 pm32 cd32 ct32 : Value}
    {f33 : Addr} {od33 an33 : Option Addr} {sl33 : Array (Option Value)} {oc33 kV33 dc33 pm33 cd33 ct33 : Value}
    {f34 : Addr} {od34 an34 : Option Addr} {sl34 : Array (Option Value)} {oc34 kV34 dc34 pm34 cd34 ct34 : Value}
    {f35 : Addr} {od35 an35 : Option Addr} {sl35 : Array (Option Value)} {oc35 kV35 dc35 pm35 cd35 ct35 : Value}
    {f36 : Addr} {od36 an36 : Option Addr} {sl36 : Array (Option Value)} {oc36 kV36 dc36 pm36 cd36 ct36 : Value}
    {t_MOST_FIGURES : _}
    {t_FIGURES : _}
    {t_BEGINNINGS : _}
    {t_MOST_LETTERS : _}
    {t_LETTERS : _}
    {t_MOST_SPOT_LETTERS : _}
    {t_MARKS : _}
    {t_MOST_STEPS : _}
    {d_STANDING_WORDS : Addr} {es_STANDING_WORDS : Array DictEntry} {n_STANDING_WORDS : Nat}
    {t_STANDING_WORDS_0 : _}
    {t_STANDING_WORDS_1 : _}
    {t_STANDING_WORDS_2 : _}
    {t_STANDING_WORDS_3 : _}
    {t_STANDING_WORDS_4 : _}
    {t_STANDING_WORDS_5 : _}
    {d_INVERSES : Addr} {es_INVERSES : Array DictEntry} {n_INVERSES : Nat}
    {t_INVERSES_0 : _}
    {t_INVERSES_1 : _}
    {t_INVERSES_2 : _}
    {t_INVERSES_3 : _}
    {t_INVERSES_4 : _}
    {t_INVERSES_5 : _}
    (aC_Spot : PySem.W.nsIn K mainGlobals "Spot" = some (some (.ref C_Spot)))
    (a0 : PySem.W.nsIn K mainGlobals "is_cell_step" = some (some (.ref f0))) (l0 : K.lookup f0 = some ⟨oc0, od0, .func (PySem.W.fnOf "is_cell_step" "is_cell_step" (defArgs s_is_cell_step) (defBody s_is_cell_step) (defScope s_is_cell_step) .none kV0 dc0 pm0 an0 cd0 ct0), sl0⟩) (c0 : PySem.W.codeIn K cd0 "is_cell_step" = true) (k0 : PySem.W.keepIn K (.ref f0) = true)
    (a1 : PySem.W.nsIn K mainGlobals "is_cell_number" = some (some (.ref f1))) (l1 : K.lookup f1 = some ⟨oc1, od1, .func (PySem.W.fnOf "is_cell_number" "is_cell_number" (defArgs s_is_cell_number) (defBody s_is_cell_number) (defScope s_is_cell_number) .none kV1 dc1 pm1 an1 cd1 ct1), sl1⟩) (c1 : PySem.W.codeIn K cd1 "is_cell_number" = true) (k1 : PySem.W.keepIn K (.ref f1) = true)
    (a2 : PySem.W.nsIn K mainGlobals "is_known_cell" = some (some (.ref f2))) (l2 : K.lookup f2 = some ⟨oc2, od2, .func (PySem.W.fnOf "is_known_cell" "is_known_cell" (defArgs s_is_known_cell) (defBody s_is_known_cell) (defScope s_is_known_cell) .none kV2 dc2 pm2 an2 cd2 ct2), sl2⟩) (c2 : PySem.W.codeIn K cd2 "is_known_cell" = true) (k2 : PySem.W.keepIn K (.ref f2) = true)
    (a3 : PySem.W.nsIn K mainGlobals "asked_equations" = some (some (.ref f3))) (l3 : K.lookup f3 = some ⟨oc3, od3, .func (PySem.W.fnOf "asked_equations" "asked_equations" (defArgs s_asked_equations) (defBody s_asked_equations) (defScope s_asked_equations) .none kV3 dc3 pm3 an3 cd3 ct3), sl3⟩) (c3 : PySem.W.codeIn K cd3 "asked_equations" = true) (k3 : PySem.W.keepIn K (.ref f3) = true)
    (a4 : PySem.W.nsIn K mainGlobals "can_be_kept" = some (some (.ref f4))) (l4 : K.lookup f4 = some ⟨oc4, od4, .func (PySem.W.fnOf "can_be_kept" "can_be_kept" (defArgs s_can_be_kept) (defBody s_can_be_kept) (defScope s_can_be_kept) .none kV4 dc4 pm4 an4 cd4 ct4), sl4⟩) (c4 : PySem.W.codeIn K cd4 "can_be_kept" = true) (k4 : PySem.W.keepIn K (.ref f4) = true)
    (a5 : PySem.W.nsIn K mainGlobals "through" = some (some (.ref f5))) (l5 : K.lookup f5 = some ⟨oc5, od5, .func (PySem.W.fnOf "through" "through" (defArgs s_through) (defBody s_through) (defScope s_through) .none kV5 dc5 pm5 an5 cd5 ct5), sl5⟩) (c5 : PySem.W.codeIn K cd5 "through" = true) (k5 : PySem.W.keepIn K (.ref f5) = true)
    (a6 : PySem.W.nsIn K mainGlobals "joint_word" = some (some (.ref f6))) (l6 : K.lookup f6 = some ⟨oc6, od6, .func (PySem.W.fnOf "joint_word" "joint_word" (defArgs s_joint_word) (defBody s_joint_word) (defScope s_joint_word) .none kV6 dc6 pm6 an6 cd6 ct6), sl6⟩) (c6 : PySem.W.codeIn K cd6 "joint_word" = true) (k6 : PySem.W.keepIn K (.ref f6) = true)
    (a7 : PySem.W.nsIn K mainGlobals "chance_words" = some (some (.ref f7))) (l7 : K.lookup f7 = some ⟨oc7, od7, .func (PySem.W.fnOf "chance_words" "chance_words" (defArgs s_chance_words) (defBody s_chance_words) (defScope s_chance_words) .none kV7 dc7 pm7 an7 cd7 ct7), sl7⟩) (c7 : PySem.W.codeIn K cd7 "chance_words" = true) (k7 : PySem.W.keepIn K (.ref f7) = true)
    (a8 : PySem.W.nsIn K mainGlobals "end_of_spot_part" = some (some (.ref f8))) (l8 : K.lookup f8 = some ⟨oc8, od8, .func (PySem.W.fnOf "end_of_spot_part" "end_of_spot_part" (defArgs s_end_of_spot_part) (defBody s_end_of_spot_part) (defScope s_end_of_spot_part) .none kV8 dc8 pm8 an8 cd8 ct8), sl8⟩) (c8 : PySem.W.codeIn K cd8 "end_of_spot_part" = true) (k8 : PySem.W.keepIn K (.ref f8) = true)
    (a9 : PySem.W.nsIn K mainGlobals "cut_spot" = some (some (.ref f9))) (l9 : K.lookup f9 = some ⟨oc9, od9, .func (PySem.W.fnOf "cut_spot" "cut_spot" (defArgs s_cut_spot) (defBody s_cut_spot) (defScope s_cut_spot) .none kV9 dc9 pm9 an9 cd9 ct9), sl9⟩) (c9 : PySem.W.codeIn K cd9 "cut_spot" = true) (k9 : PySem.W.keepIn K (.ref f9) = true)
    (a10 : PySem.W.nsIn K mainGlobals "is_name" = some (some (.ref f10))) (l10 : K.lookup f10 = some ⟨oc10, od10, .func (PySem.W.fnOf "is_name" "is_name" (defArgs s_is_name) (defBody s_is_name) (defScope s_is_name) .none kV10 dc10 pm10 an10 cd10 ct10), sl10⟩) (c10 : PySem.W.codeIn K cd10 "is_name" = true) (k10 : PySem.W.keepIn K (.ref f10) = true)
    (a11 : PySem.W.nsIn K mainGlobals "is_spot_name" = some (some (.ref f11))) (l11 : K.lookup f11 = some ⟨oc11, od11, .func (PySem.W.fnOf "is_spot_name" "is_spot_name" (defArgs s_is_spot_name) (defBody s_is_spot_name) (defScope s_is_spot_name) .none kV11 dc11 pm11 an11 cd11 ct11), sl11⟩) (c11 : PySem.W.codeIn K cd11 "is_spot_name" = true) (k11 : PySem.W.keepIn K (.ref f11) = true)
    (a12 : PySem.W.nsIn K mainGlobals "is_spot_step" = some (some (.ref f12))) (l12 : K.lookup f12 = some ⟨oc12, od12, .func (PySem.W.fnOf "is_spot_step" "is_spot_step" (defArgs s_is_spot_step) (defBody s_is_spot_step) (defScope s_is_spot_step) .none kV12 dc12 pm12 an12 cd12 ct12), sl12⟩) (c12 : PySem.W.codeIn K cd12 "is_spot_step" = true) (k12 : PySem.W.keepIn K (.ref f12) = true)
    (a13 : PySem.W.nsIn K mainGlobals "parts_of_spot" = some (some (.ref f13))) (l13 : K.lookup f13 = some ⟨oc13, od13, .func (PySem.W.fnOf "parts_of_spot" "parts_of_spot" (defArgs s_parts_of_spot) (defBody s_parts_of_spot) (defScope s_parts_of_spot) .none kV13 dc13 pm13 an13 cd13 ct13), sl13⟩) (c13 : PySem.W.codeIn K cd13 "parts_of_spot" = true) (k13 : PySem.W.keepIn K (.ref f13) = true)
    (a14 : PySem.W.findIn K (.ref C_Spot) "__init__" = some (some (.ref f14))) (i14 : PySem.W.isFn K (.ref f14) = true) (l14 : K.lookup f14 = some ⟨oc14, od14, .func (PySem.W.fnOf "__init__" "Spot.__init__" (defArgs s_Spot___init__) (defBody s_Spot___init__) (defScope s_Spot___init__) .none kV14 dc14 pm14 an14 cd14 ct14), sl14⟩) (c14 : PySem.W.codeIn K cd14 "Spot.__init__" = true) (k14 : PySem.W.keepIn K (.ref f14) = true)
    (a15 : PySem.W.findIn K (.ref C_Spot) "root" = some (some (.ref p15))) (i15 : PySem.W.recIn K p15 "property" = some (.ref f15 :: re15)) (ga15 : PySem.W.specialIn K (.ref p15) "__get__" = some (some (.builtin "property.__get__"))) (tk15 : PySem.W.takesIn K (.ref p15) = some true) (l15 : K.lookup f15 = some ⟨oc15, od15, .func (PySem.W.fnOf "root" "Spot.root" (defArgs s_Spot_root) (defBody s_Spot_root) (defScope s_Spot_root) .none kV15 dc15 pm15 an15 cd15 ct15), sl15⟩) (c15 : PySem.W.codeIn K cd15 "Spot.root" = true) (k15 : PySem.W.keepIn K (.ref f15) = true)
    (a16 : PySem.W.findIn K (.ref C_Spot) "__len__" = some (some (.ref f16))) (i16 : PySem.W.isFn K (.ref f16) = true) (l16 : K.lookup f16 = some ⟨oc16, od16, .func (PySem.W.fnOf "__len__" "Spot.__len__" (defArgs s_Spot___len__) (defBody s_Spot___len__) (defScope s_Spot___len__) .none kV16 dc16 pm16 an16 cd16 ct16), sl16⟩) (c16 : PySem.W.codeIn K cd16 "Spot.__len__" = true) (k16 : PySem.W.keepIn K (.ref f16) = true)
    (a17 : PySem.W.findIn K (.ref C_Spot) "__iter__" = some (some (.ref f17))) (i17 : PySem.W.isFn K (.ref f17) = true) (l17 : K.lookup f17 = some ⟨oc17, od17, .func (PySem.W.fnOf "__iter__" "Spot.__iter__" (defArgs s_Spot___iter__) (defBody s_Spot___iter__) (defScope s_Spot___iter__) .none kV17 dc17 pm17 an17 cd17 ct17), sl17⟩) (c17 : PySem.W.codeIn K cd17 "Spot.__iter__" = true) (k17 : PySem.W.keepIn K (.ref f17) = true)
    (a18 : PySem.W.nsIn K mainGlobals "chances" = some (some (.ref f18))) (l18 : K.lookup f18 = some ⟨oc18, od18, .func (PySem.W.fnOf "chances" "chances" (defArgs s_chances) (defBody s_chances) (defScope s_chances) .none kV18 dc18 pm18 an18 cd18 ct18), sl18⟩) (c18 : PySem.W.codeIn K cd18 "chances" = true) (k18 : PySem.W.keepIn K (.ref f18) = true)
    (a19 : PySem.W.nsIn K mainGlobals "stand_of" = some (some (.ref f19))) (l19 : K.lookup f19 = some ⟨oc19, od19, .func (PySem.W.fnOf "stand_of" "stand_of" (defArgs s_stand_of) (defBody s_stand_of) (defScope s_stand_of) .none kV19 dc19 pm19 an19 cd19 ct19), sl19⟩) (c19 : PySem.W.codeIn K cd19 "stand_of" = true) (k19 : PySem.W.keepIn K (.ref f19) = true)
    (a20 : PySem.W.nsIn K mainGlobals "_law_cut" = some (some (.ref f20))) (l20 : K.lookup f20 = some ⟨oc20, od20, .func (PySem.W.fnOf "_law_cut" "_law_cut" (defArgs s__law_cut) (defBody s__law_cut) (defScope s__law_cut) .none kV20 dc20 pm20 an20 cd20 ct20), sl20⟩) (c20 : PySem.W.codeIn K cd20 "_law_cut" = true) (k20 : PySem.W.keepIn K (.ref f20) = true)
    (a21 : PySem.W.nsIn K mainGlobals "_law_end_of" = some (some (.ref f21))) (l21 : K.lookup f21 = some ⟨oc21, od21, .func (PySem.W.fnOf "_law_end_of" "_law_end_of" (defArgs s__law_end_of) (defBody s__law_end_of) (defScope s__law_end_of) .none kV21 dc21 pm21 an21 cd21 ct21), sl21⟩) (c21 : PySem.W.codeIn K cd21 "_law_end_of" = true) (k21 : PySem.W.keepIn K (.ref f21) = true)
    (a22 : PySem.W.nsIn K mainGlobals "_law_possible" = some (some (.ref f22))) (l22 : K.lookup f22 = some ⟨oc22, od22, .func (PySem.W.fnOf "_law_possible" "_law_possible" (defArgs s__law_possible) (defBody s__law_possible) (defScope s__law_possible) .none kV22 dc22 pm22 an22 cd22 ct22), sl22⟩) (c22 : PySem.W.codeIn K cd22 "_law_possible" = true) (k22 : PySem.W.keepIn K (.ref f22) = true)
    (a23 : PySem.W.nsIn K mainGlobals "_law_draw" = some (some (.ref f23))) (l23 : K.lookup f23 = some ⟨oc23, od23, .func (PySem.W.fnOf "_law_draw" "_law_draw" (defArgs s__law_draw) (defBody s__law_draw) (defScope s__law_draw) .none kV23 dc23 pm23 an23 cd23 ct23), sl23⟩) (c23 : PySem.W.codeIn K cd23 "_law_draw" = true) (k23 : PySem.W.keepIn K (.ref f23) = true)
    (a24 : PySem.W.nsIn K mainGlobals "_law_pick" = some (some (.ref f24))) (l24 : K.lookup f24 = some ⟨oc24, od24, .func (PySem.W.fnOf "_law_pick" "_law_pick" (defArgs s__law_pick) (defBody s__law_pick) (defScope s__law_pick) .none kV24 dc24 pm24 an24 cd24 ct24), sl24⟩) (c24 : PySem.W.codeIn K cd24 "_law_pick" = true) (k24 : PySem.W.keepIn K (.ref f24) = true)
    (a25 : PySem.W.nsIn K mainGlobals "_law_short" = some (some (.ref f25))) (l25 : K.lookup f25 = some ⟨oc25, od25, .func (PySem.W.fnOf "_law_short" "_law_short" (defArgs s__law_short) (defBody s__law_short) (defScope s__law_short) .none kV25 dc25 pm25 an25 cd25 ct25), sl25⟩) (c25 : PySem.W.codeIn K cd25 "_law_short" = true) (k25 : PySem.W.keepIn K (.ref f25) = true)
    (a26 : PySem.W.nsIn K mainGlobals "_law_spot_step" = some (some (.ref f26))) (l26 : K.lookup f26 = some ⟨oc26, od26, .func (PySem.W.fnOf "_law_spot_step" "_law_spot_step" (defArgs s__law_spot_step) (defBody s__law_spot_step) (defScope s__law_spot_step) .none kV26 dc26 pm26 an26 cd26 ct26), sl26⟩) (c26 : PySem.W.codeIn K cd26 "_law_spot_step" = true) (k26 : PySem.W.keepIn K (.ref f26) = true)
    (a27 : PySem.W.nsIn K mainGlobals "_law_spot" = some (some (.ref f27))) (l27 : K.lookup f27 = some ⟨oc27, od27, .func (PySem.W.fnOf "_law_spot" "_law_spot" (defArgs s__law_spot) (defBody s__law_spot) (defScope s__law_spot) .none kV27 dc27 pm27 an27 cd27 ct27), sl27⟩) (c27 : PySem.W.codeIn K cd27 "_law_spot" = true) (k27 : PySem.W.keepIn K (.ref f27) = true)
    (a28 : PySem.W.nsIn K mainGlobals "_law_beside" = some (some (.ref f28))) (l28 : K.lookup f28 = some ⟨oc28, od28, .func (PySem.W.fnOf "_law_beside" "_law_beside" (defArgs s__law_beside) (defBody s__law_beside) (defScope s__law_beside) .none kV28 dc28 pm28 an28 cd28 ct28), sl28⟩) (c28 : PySem.W.codeIn K cd28 "_law_beside" = true) (k28 : PySem.W.keepIn K (.ref f28) = true)
    (a29 : PySem.W.nsIn K mainGlobals "_law_row_of_spots" = some (some (.ref f29))) (l29 : K.lookup f29 = some ⟨oc29, od29, .func (PySem.W.fnOf "_law_row_of_spots" "_law_row_of_spots" (defArgs s__law_row_of_spots) (defBody s__law_row_of_spots) (defScope s__law_row_of_spots) .none kV29 dc29 pm29 an29 cd29 ct29), sl29⟩) (c29 : PySem.W.codeIn K cd29 "_law_row_of_spots" = true) (k29 : PySem.W.keepIn K (.ref f29) = true)
    (a30 : PySem.W.nsIn K mainGlobals "_law_celled" = some (some (.ref f30))) (l30 : K.lookup f30 = some ⟨oc30, od30, .func (PySem.W.fnOf "_law_celled" "_law_celled" (defArgs s__law_celled) (defBody s__law_celled) (defScope s__law_celled) .none kV30 dc30 pm30 an30 cd30 ct30), sl30⟩) (c30 : PySem.W.codeIn K cd30 "_law_celled" = true) (k30 : PySem.W.keepIn K (.ref f30) = true)
    (a31 : PySem.W.nsIn K mainGlobals "inverse" = some (some (.ref f31))) (l31 : K.lookup f31 = some ⟨oc31, od31, .func (PySem.W.fnOf "inverse" "inverse" (defArgs s_inverse) (defBody s_inverse) (defScope s_inverse) .none kV31 dc31 pm31 an31 cd31 ct31), sl31⟩) (c31 : PySem.W.codeIn K cd31 "inverse" = true) (k31 : PySem.W.keepIn K (.ref f31) = true)
    (a32 : PySem.W.nsIn K mainGlobals "_law_begin" = some (some (.ref f32))) (l32 : K.lookup f32 = some ⟨oc32, od32, .func (PySem.W.fnOf "_law_begin" "_law_begin" (defArgs s__law_begin) (defBody s__law_begin) (defScope s__law_begin) .none kV32 dc32 pm32 an32 cd32 ct32), sl32⟩) (c32 : PySem.W.codeIn K cd32 "_law_begin" = true) (k32 : PySem.W.keepIn K (.ref f32) = true)
    (a33 : PySem.W.nsIn K mainGlobals "_law_grown" = some (some (.ref f33))) (l33 : K.lookup f33 = some ⟨oc33, od33, .func (PySem.W.fnOf "_law_grown" "_law_grown" (defArgs s__law_grown) (defBody s__law_grown) (defScope s__law_grown) .none kV33 dc33 pm33 an33 cd33 ct33), sl33⟩) (c33 : PySem.W.codeIn K cd33 "_law_grown" = true) (k33 : PySem.W.keepIn K (.ref f33) = true)
    (a34 : PySem.W.nsIn K mainGlobals "_law_same_row" = some (some (.ref f34))) (l34 : K.lookup f34 = some ⟨oc34, od34, .func (PySem.W.fnOf "_law_same_row" "_law_same_row" (defArgs s__law_same_row) (defBody s__law_same_row) (defScope s__law_same_row) .none kV34 dc34 pm34 an34 cd34 ct34), sl34⟩) (c34 : PySem.W.codeIn K cd34 "_law_same_row" = true) (k34 : PySem.W.keepIn K (.ref f34) = true)
    (a35 : PySem.W.nsIn K mainGlobals "_law_same" = some (some (.ref f35))) (l35 : K.lookup f35 = some ⟨oc35, od35, .func (PySem.W.fnOf "_law_same" "_law_same" (defArgs s__law_same) (defBody s__law_same) (defScope s__law_same) .none kV35 dc35 pm35 an35 cd35 ct35), sl35⟩) (c35 : PySem.W.codeIn K cd35 "_law_same" = true) (k35 : PySem.W.keepIn K (.ref f35) = true)
    (a36 : PySem.W.nsIn K mainGlobals "law" = some (some (.ref f36))) (l36 : K.lookup f36 = some ⟨oc36, od36, .func (PySem.W.fnOf "law" "law" (defArgs s_law) (defBody s_law) (defScope s_law) .none kV36 dc36 pm36 an36 cd36 ct36), sl36⟩) (c36 : PySem.W.codeIn K cd36 "law" = true) (k36 : PySem.W.keepIn K (.ref f36) = true)
    (pg_Spot : PySem.W.plainGet K C_Spot Str.empty = true) (hd_Spot : PySem.W.hasDictIn K C_Spot = true) (po_Spot : PySem.W.plainOver K C_Spot = true) (sa_Spot : PySem.W.findIn K (.ref C_Spot) "__setattr__" = some (some (.builtin "object.__setattr__")))
    (mk_Spot : PySem.W.makesIn K C_Spot = true) (kc_Spot : PySem.W.keepIn K (.ref C_Spot) = true)
    (na_Spot_0 : PySem.W.findIn K (.ref C_Spot) "_text" = some none)
    (na_Spot_1 : PySem.W.findIn K (.ref C_Spot) "_root" = some none)
    (na_Spot_2 : PySem.W.findIn K (.ref C_Spot) "_steps" = some none)
    (g_MOST_FIGURES : PySem.W.nsIn K mainGlobals "MOST_FIGURES" = some (some (.int 4 t_MOST_FIGURES)))
    (g_FIGURES : PySem.W.nsIn K mainGlobals "FIGURES" = some (some (.str "0123456789" t_FIGURES)))
    (g_BEGINNINGS : PySem.W.nsIn K mainGlobals "BEGINNINGS" = some (some (.str ".^[" t_BEGINNINGS)))
    (g_MOST_LETTERS : PySem.W.nsIn K mainGlobals "MOST_LETTERS" = some (some (.int 8 t_MOST_LETTERS)))
    (g_LETTERS : PySem.W.nsIn K mainGlobals "LETTERS" = some (some (.str "abcdefghijklmnopqrstuvwxyz" t_LETTERS)))
    (g_MOST_SPOT_LETTERS : PySem.W.nsIn K mainGlobals "MOST_SPOT_LETTERS" = some (some (.int 7 t_MOST_SPOT_LETTERS)))
    (g_MARKS : PySem.W.nsIn K mainGlobals "MARKS" = some (some (.str ".^" t_MARKS)))
    (g_MOST_STEPS : PySem.W.nsIn K mainGlobals "MOST_STEPS" = some (some (.int 6 t_MOST_STEPS)))
    (g_STANDING_WORDS : PySem.W.nsIn K mainGlobals "STANDING_WORDS" = some (some (.ref d_STANDING_WORDS))) (gl_STANDING_WORDS : K.lookup d_STANDING_WORDS = some ⟨.type "dict", none, .dict es_STANDING_WORDS n_STANDING_WORDS, #[]⟩) (gk_STANDING_WORDS : PySem.W.KeysLit w.params es_STANDING_WORDS.toList)
    (e_STANDING_WORDS_0 : PySem.W.nsIn K d_STANDING_WORDS "same" = some (some (.str "same" t_STANDING_WORDS_0)))
    (e_STANDING_WORDS_1 : PySem.W.nsIn K d_STANDING_WORDS "over" = some (some (.str "around" t_STANDING_WORDS_1)))
    (e_STANDING_WORDS_2 : PySem.W.nsIn K d_STANDING_WORDS "overbox" = some (some (.str "around" t_STANDING_WORDS_2)))
    (e_STANDING_WORDS_3 : PySem.W.nsIn K d_STANDING_WORDS "under" = some (some (.str "within" t_STANDING_WORDS_3)))
    (e_STANDING_WORDS_4 : PySem.W.nsIn K d_STANDING_WORDS "underbox" = some (some (.str "within" t_STANDING_WORDS_4)))
    (e_STANDING_WORDS_5 : PySem.W.nsIn K d_STANDING_WORDS "apart" = some (some (.str "apart" t_STANDING_WORDS_5)))
    (g_INVERSES : PySem.W.nsIn K mainGlobals "INVERSES" = some (some (.ref d_INVERSES))) (gl_INVERSES : K.lookup d_INVERSES = some ⟨.type "dict", none, .dict es_INVERSES n_INVERSES, #[]⟩) (gk_INVERSES : PySem.W.KeysLit w.params es_INVERSES.toList)
    (e_INVERSES_0 : PySem.W.nsIn K d_INVERSES "same" = some (some (.str "same" t_INVERSES_0)))
    (e_INVERSES_1 : PySem.W.nsIn K d_INVERSES "over" = some (some (.str "under" t_INVERSES_1)))
    (e_INVERSES_2 : PySem.W.nsIn K d_INVERSES "overbox" = some (some (.str "underbox" t_INVERSES_2)))
    (e_INVERSES_3 : PySem.W.nsIn K d_INVERSES "under" = some (some (.str "over" t_INVERSES_3)))
    (e_INVERSES_4 : PySem.W.nsIn K d_INVERSES "underbox" = some (some (.str "overbox" t_INVERSES_4)))
    (e_INVERSES_5 : PySem.W.nsIn K d_INVERSES "apart" = some (some (.str "apart" t_INVERSES_5)))
    (zz_len : PySem.W.nsIn K mainGlobals "len" = some none)
    (zz_all : PySem.W.nsIn K mainGlobals "all" = some none)
    (zz_zip : PySem.W.nsIn K mainGlobals "zip" = some none)
    (zz_list : PySem.W.nsIn K mainGlobals "list" = some none)
    (zz_range : PySem.W.nsIn K mainGlobals "range" = some none)
    (zz_iter : PySem.W.nsIn K mainGlobals "iter" = some none)
    (zz_min : PySem.W.nsIn K mainGlobals "min" = some none)
    (zz_any : PySem.W.nsIn K mainGlobals "any" = some none)
    (zz_int : PySem.W.nsIn K mainGlobals "int" = some none)
    (zz_str : PySem.W.nsIn K mainGlobals "str" = some none)
    (zz_isinstance : PySem.W.nsIn K mainGlobals "isinstance" = some none)
    (zz_bool : PySem.W.nsIn K mainGlobals "bool" = some none)
    (zz_tuple : PySem.W.nsIn K mainGlobals "tuple" = some none)
    : ∃ fd : FuncData, (∀ (s : Shared) (u : Value), BindsTo s fd ⟨[u], []⟩ [("script", u)]) ∧ ∀ base : Heap, K.In base → base.Ns mainGlobals mg → FnOk l.prog w K mg base CX0 41 fa fd ["script"] (toSp K spLaw) := by
  have e := hfa.symm.trans (PySem.W.mg_of X G a36)
  cases e
  have K_Spot : Klass K mg C_Spot "Spot" ["_text", "_root", "_steps"] := ⟨PySem.W.mg_of X G aC_Spot, ⟨pg_Spot, hd_Spot, po_Spot, sa_Spot⟩, fun i f h => match i, h with | 0, h => by cases h; exact na_Spot_0 | 1, h => by cases h; exact na_Spot_1 | 2, h => by cases h; exact na_Spot_2 | n + 3, h => by simp at h⟩
  have G_MOST_FIGURES : Glob_MOST_FIGURES K w mg := ⟨_, PySem.W.mg_of X G g_MOST_FIGURES⟩
  have G_FIGURES : Glob_FIGURES K w mg := ⟨_, PySem.W.mg_of X G g_FIGURES⟩
  have G_BEGINNINGS : Glob_BEGINNINGS K w mg := ⟨_, PySem.W.mg_of X G g_BEGINNINGS⟩
  have G_MOST_LETTERS : Glob_MOST_LETTERS K w mg := ⟨_, PySem.W.mg_of X G g_MOST_LETTERS⟩
  have G_LETTERS : Glob_LETTERS K w mg := ⟨_, PySem.W.mg_of X G g_LETTERS⟩
  have G_MOST_SPOT_LETTERS : Glob_MOST_SPOT_LETTERS K w mg := ⟨_, PySem.W.mg_of X G g_MOST_SPOT_LETTERS⟩
  have G_MARKS : Glob_MARKS K w mg := ⟨_, PySem.W.mg_of X G g_MARKS⟩
  have G_MOST_STEPS : Glob_MOST_STEPS K w mg := ⟨_, PySem.W.mg_of X G g_MOST_STEPS⟩
  have G_STANDING_WORDS : Glob_STANDING_WORDS K w mg := ⟨_, PySem.W.mg_of X G g_STANDING_WORDS, fun s v h => by
    unfold tb_STANDING_WORDS at h
    repeat' split at h
    all_goals first | cases h | skip
    all_goals subst_vars
    · exact ⟨es_STANDING_WORDS, n_STANDING_WORDS, _, gl_STANDING_WORDS, gk_STANDING_WORDS, e_STANDING_WORDS_0, ⟨_, rfl⟩⟩
    · exact ⟨es_STANDING_WORDS, n_STANDING_WORDS, _, gl_STANDING_WORDS, gk_STANDING_WORDS, e_STANDING_WORDS_1, ⟨_, rfl⟩⟩
    · exact ⟨es_STANDING_WORDS, n_STANDING_WORDS, _, gl_STANDING_WORDS, gk_STANDING_WORDS, e_STANDING_WORDS_2, ⟨_, rfl⟩⟩
    · exact ⟨es_STANDING_WORDS, n_STANDING_WORDS, _, gl_STANDING_WORDS, gk_STANDING_WORDS, e_STANDING_WORDS_3, ⟨_, rfl⟩⟩
    · exact ⟨es_STANDING_WORDS, n_STANDING_WORDS, _, gl_STANDING_WORDS, gk_STANDING_WORDS, e_STANDING_WORDS_4, ⟨_, rfl⟩⟩
    · exact ⟨es_STANDING_WORDS, n_STANDING_WORDS, _, gl_STANDING_WORDS, gk_STANDING_WORDS, e_STANDING_WORDS_5, ⟨_, rfl⟩⟩⟩
  have G_INVERSES : Glob_INVERSES K w mg := ⟨_, PySem.W.mg_of X G g_INVERSES, fun s v h => by
    unfold tb_INVERSES at h
    repeat' split at h
    all_goals first | cases h | skip
    all_goals subst_vars
    · exact ⟨es_INVERSES, n_INVERSES, _, gl_INVERSES, gk_INVERSES, e_INVERSES_0, ⟨_, rfl⟩⟩
    · exact ⟨es_INVERSES, n_INVERSES, _, gl_INVERSES, gk_INVERSES, e_INVERSES_1, ⟨_, rfl⟩⟩
    · exact ⟨es_INVERSES, n_INVERSES, _, gl_INVERSES, gk_INVERSES, e_INVERSES_2, ⟨_, rfl⟩⟩
    · exact ⟨es_INVERSES, n_INVERSES, _, gl_INVERSES, gk_INVERSES, e_INVERSES_3, ⟨_, rfl⟩⟩
    · exact ⟨es_INVERSES, n_INVERSES, _, gl_INVERSES, gk_INVERSES, e_INVERSES_4, ⟨_, rfl⟩⟩
    · exact ⟨es_INVERSES, n_INVERSES, _, gl_INVERSES, gk_INVERSES, e_INVERSES_5, ⟨_, rfl⟩⟩⟩
  have z_len : mg "len" = none := PySem.W.mg_none_of X G zz_len
  have z_all : mg "all" = none := PySem.W.mg_none_of X G zz_all
  have z_zip : mg "zip" = none := PySem.W.mg_none_of X G zz_zip
  have z_list : mg "list" = none := PySem.W.mg_none_of X G zz_list
  have z_range : mg "range" = none := PySem.W.mg_none_of X G zz_range
  have z_iter : mg "iter" = none := PySem.W.mg_none_of X G zz_iter
  have z_min : mg "min" = none := PySem.W.mg_none_of X G zz_min
  have z_any : mg "any" = none := PySem.W.mg_none_of X G zz_any
  have z_int : mg "int" = none := PySem.W.mg_none_of X G zz_int
  have z_str : mg "str" = none := PySem.W.mg_none_of X G zz_str
  have z_isinstance : mg "isinstance" = none := PySem.W.mg_none_of X G zz_isinstance
  have z_bool : mg "bool" = none := PySem.W.mg_none_of X G zz_bool
  have z_tuple : mg "tuple" = none := PySem.W.mg_none_of X G zz_tuple
  have D0 : DefAt K mg "is_cell_step" s_is_cell_step ["step"] _ _ := defAt_of X G a0 l0 c0 k0 fun _ _ _ _ _ _ us hl => match us, hl with | [_], _ => rfl
  have D1 : DefAt K mg "is_cell_number" s_is_cell_number ["text"] _ _ := defAt_of X G a1 l1 c1 k1 fun _ _ _ _ _ _ us hl => match us, hl with | [_], _ => rfl
  have D2 : DefAt K mg "is_known_cell" s_is_known_cell ["step"] _ _ := defAt_of X G a2 l2 c2 k2 fun _ _ _ _ _ _ us hl => match us, hl with | [_], _ => rfl
  have D3 : DefAt K mg "asked_equations" s_asked_equations ["first", "second"] _ _ := defAt_of X G a3 l3 c3 k3 fun _ _ _ _ _ _ us hl => match us, hl with | [_, _], _ => rfl
  have D4 : DefAt K mg "can_be_kept" s_can_be_kept ["equations"] _ _ := defAt_of X G a4 l4 c4 k4 fun _ _ _ _ _ _ us hl => match us, hl with | [_], _ => rfl
  have D5 : DefAt K mg "through" s_through ["tail"] _ _ := defAt_of X G a5 l5 c5 k5 fun _ _ _ _ _ _ us hl => match us, hl with | [_], _ => rfl
  have D6 : DefAt K mg "joint_word" s_joint_word ["first", "second"] _ _ := defAt_of X G a6 l6 c6 k6 fun _ _ _ _ _ _ us hl => match us, hl with | [_, _], _ => rfl
  have D7 : DefAt K mg "chance_words" s_chance_words ["one", "other"] _ _ := defAt_of X G a7 l7 c7 k7 fun _ _ _ _ _ _ us hl => match us, hl with | [_, _], _ => rfl
  have D8 : DefAt K mg "end_of_spot_part" s_end_of_spot_part ["text", "start"] _ _ := defAt_of X G a8 l8 c8 k8 fun _ _ _ _ _ _ us hl => match us, hl with | [_, _], _ => rfl
  have D9 : DefAt K mg "cut_spot" s_cut_spot ["text"] _ _ := defAt_of X G a9 l9 c9 k9 fun _ _ _ _ _ _ us hl => match us, hl with | [_], _ => rfl
  have D10 : DefAt K mg "is_name" s_is_name ["text"] _ _ := defAt_of X G a10 l10 c10 k10 fun _ _ _ _ _ _ us hl => match us, hl with | [_], _ => rfl
  have D11 : DefAt K mg "is_spot_name" s_is_spot_name ["text"] _ _ := defAt_of X G a11 l11 c11 k11 fun _ _ _ _ _ _ us hl => match us, hl with | [_], _ => rfl
  have D12 : DefAt K mg "is_spot_step" s_is_spot_step ["step"] _ _ := defAt_of X G a12 l12 c12 k12 fun _ _ _ _ _ _ us hl => match us, hl with | [_], _ => rfl
  have D13 : DefAt K mg "parts_of_spot" s_parts_of_spot ["text"] _ _ := defAt_of X G a13 l13 c13 k13 fun _ _ _ _ _ _ us hl => match us, hl with | [_], _ => rfl
  have D14 : MethAt K C_Spot "__init__" "Spot.__init__" s_Spot___init__ ["self", "text"] _ _ := ⟨fun_mk l14 c14 k14, ⟨a14, i14, k14⟩, (fun_mk l14 c14 k14).binds fun _ _ _ _ _ _ us hl => match us, hl with | [_, _], _ => rfl⟩
  have D15 : PropAt K C_Spot "root" "Spot.root" s_Spot_root ["self"] _ _ := ⟨fun_mk l15 c15 k15, ⟨_, ⟨a15, ga15, tk15, ⟨_, i15⟩⟩⟩, (fun_mk l15 c15 k15).binds fun _ _ _ _ _ _ us hl => match us, hl with | [_], _ => rfl⟩
  have D16 : MethAt K C_Spot "__len__" "Spot.__len__" s_Spot___len__ ["self"] _ _ := ⟨fun_mk l16 c16 k16, ⟨a16, i16, k16⟩, (fun_mk l16 c16 k16).binds fun _ _ _ _ _ _ us hl => match us, hl with | [_], _ => rfl⟩
  have D17 : MethAt K C_Spot "__iter__" "Spot.__iter__" s_Spot___iter__ ["self"] _ _ := ⟨fun_mk l17 c17 k17, ⟨a17, i17, k17⟩, (fun_mk l17 c17 k17).binds fun _ _ _ _ _ _ us hl => match us, hl with | [_], _ => rfl⟩
  have D18 : DefAt K mg "chances" s_chances ["first", "second"] _ _ := defAt_of X G a18 l18 c18 k18 fun _ _ _ _ _ _ us hl => match us, hl with | [_, _], _ => rfl
  have D19 : DefAt K mg "stand_of" s_stand_of ["first", "second"] _ _ := defAt_of X G a19 l19 c19 k19 fun _ _ _ _ _ _ us hl => match us, hl with | [_, _], _ => rfl
  have D20 : DefAt K mg "_law_cut" s__law_cut ["spot"] _ _ := defAt_of X G a20 l20 c20 k20 fun _ _ _ _ _ _ us hl => match us, hl with | [_], _ => rfl
  have D21 : DefAt K mg "_law_end_of" s__law_end_of ["owner", "step"] _ _ := defAt_of X G a21 l21 c21 k21 fun _ _ _ _ _ _ us hl => match us, hl with | [_, _], _ => rfl
  have D22 : DefAt K mg "_law_possible" s__law_possible ["first", "second"] _ _ := defAt_of X G a22 l22 c22 k22 fun _ _ _ _ _ _ us hl => match us, hl with | [_, _], _ => rfl
  have D23 : DefAt K mg "_law_draw" s__law_draw ["source", "size"] _ _ := defAt_of X G a23 l23 c23 k23 fun _ _ _ _ _ _ us hl => match us, hl with | [_, _], _ => rfl
  have D24 : DefAt K mg "_law_pick" s__law_pick ["source", "row"] _ _ := defAt_of X G a24 l24 c24 k24 fun _ _ _ _ _ _ us hl => match us, hl with | [_, _], _ => rfl
  have D25 : DefAt K mg "_law_short" s__law_short ["source"] _ _ := defAt_of X G a25 l25 c25 k25 fun _ _ _ _ _ _ us hl => match us, hl with | [_], _ => rfl
  have D26 : DefAt K mg "_law_spot_step" s__law_spot_step ["source", "names"] _ _ := defAt_of X G a26 l26 c26 k26 fun _ _ _ _ _ _ us hl => match us, hl with | [_, _], _ => rfl
  have D27 : DefAt K mg "_law_spot" s__law_spot ["source", "names"] _ _ := defAt_of X G a27 l27 c27 k27 fun _ _ _ _ _ _ us hl => match us, hl with | [_, _], _ => rfl
  have D28 : DefAt K mg "_law_beside" s__law_beside ["source", "spot", "names"] _ _ := defAt_of X G a28 l28 c28 k28 fun _ _ _ _ _ _ us hl => match us, hl with | [_, _, _], _ => rfl
  have D29 : DefAt K mg "_law_row_of_spots" s__law_row_of_spots ["source", "count", "names"] _ _ := defAt_of X G a29 l29 c29 k29 fun _ _ _ _ _ _ us hl => match us, hl with | [_, _, _], _ => rfl
  have D30 : DefAt K mg "_law_celled" s__law_celled ["source", "names"] _ _ := defAt_of X G a30 l30 c30 k30 fun _ _ _ _ _ _ us hl => match us, hl with | [_, _], _ => rfl
  have D31 : DefAt K mg "inverse" s_inverse ["word"] _ _ := defAt_of X G a31 l31 c31 k31 fun _ _ _ _ _ _ us hl => match us, hl with | [_], _ => rfl
  have D32 : DefAt K mg "_law_begin" s__law_begin ["script"] _ _ := defAt_of X G a32 l32 c32 k32 fun _ _ _ _ _ _ us hl => match us, hl with | [_], _ => rfl
  have D33 : DefAt K mg "_law_grown" s__law_grown ["script"] _ _ := defAt_of X G a33 l33 c33 k33 fun _ _ _ _ _ _ us hl => match us, hl with | [_], _ => rfl
  have D34 : DefAt K mg "_law_same_row" s__law_same_row ["actual", "expected"] _ _ := defAt_of X G a34 l34 c34 k34 fun _ _ _ _ _ _ us hl => match us, hl with | [_, _], _ => rfl
  have D35 : DefAt K mg "_law_same" s__law_same ["actual", "expected"] _ _ := defAt_of X G a35 l35 c35 k35 fun _ _ _ _ _ _ us hl => match us, hl with | [_, _], _ => rfl
  have D36 : DefAt K mg "law" s_law ["script"] _ _ := defAt_of X G a36 l36 c36 k36 fun _ _ _ _ _ _ us hl => match us, hl with | [_], _ => rfl
  refine ⟨PySem.W.fnOf "law" "law" (defArgs s_law) (defBody s_law) (defScope s_law) .none kV36 dc36 pm36 an36 cd36 ct36, fun s v => .of_eq rfl, fun base _ _ => ?_⟩
  have R0 := ok_is_cell_step (P := l.prog) (w := w) (mg := mg) (base := base) D0 
  have R1 := ok_is_cell_number (P := l.prog) (w := w) (mg := mg) (base := base) D1 z_len z_all G_MOST_FIGURES G_FIGURES
  have R2 := ok_is_known_cell (P := l.prog) (w := w) (mg := mg) (base := base) D2 (D1.called R1) (D0.called R0)
  have R3 := ok_asked_equations (P := l.prog) (w := w) (mg := mg) (base := base) D3 (D0.called R0) (D2.called R2) z_zip
  have R4 := ok_can_be_kept (P := l.prog) (w := w) (mg := mg) (base := base) D4 (D2.called R2) z_list
  have R5 := ok_through (P := l.prog) (w := w) (mg := mg) (base := base) D5 
  have R6 := ok_joint_word (P := l.prog) (w := w) (mg := mg) (base := base) D6 (D5.called R5) z_len
  have R7 := ok_chance_words (P := l.prog) (w := w) (mg := mg) (base := base) D7 (D3.called R3) (D4.called R4) (D6.called R6)
  have R8 := ok_end_of_spot_part (P := l.prog) (w := w) (mg := mg) (base := base) D8 z_range z_len G_BEGINNINGS
  have R9 := ok_cut_spot (P := l.prog) (w := w) (mg := mg) (base := base) D9 (D8.called R8) z_len
  have R10 := ok_is_name (P := l.prog) (w := w) (mg := mg) (base := base) D10 z_len z_all G_MOST_LETTERS G_LETTERS
  have R11 := ok_is_spot_name (P := l.prog) (w := w) (mg := mg) (base := base) D11 (D10.called R10) z_len G_MOST_SPOT_LETTERS
  have R12 := ok_is_spot_step (P := l.prog) (w := w) (mg := mg) (base := base) D12 (D11.called R11) (D1.called R1) G_MARKS
  have R13 := ok_parts_of_spot (P := l.prog) (w := w) (mg := mg) (base := base) D13 (D9.called R9) (D11.called R11) (D12.called R12) z_len z_all G_MOST_STEPS
  have R14 := ok_Spot___init__ (P := l.prog) (w := w) (mg := mg) (base := base) D14 (D13.called R13) K_Spot
  have R15 := ok_Spot_root (P := l.prog) (w := w) (mg := mg) (base := base) D15 K_Spot
  have R16 := ok_Spot___len__ (P := l.prog) (w := w) (mg := mg) (base := base) D16 K_Spot z_len
  have R17 := ok_Spot___iter__ (P := l.prog) (w := w) (mg := mg) (base := base) D17 K_Spot z_iter
  have R18 := ok_chances (P := l.prog) (w := w) (mg := mg) (base := base) D18 ⟨_, _, ⟨mk_Spot, a14, i14, kc_Spot⟩, D14.b, R14⟩ (D7.called R7) (D15.called R15) K_Spot ⟨_, _, D16.op, D17.op, (fnr_of R16 D16.b).mono (by decide), (fnr_of R17 D17.b).mono (by decide)⟩ z_list
  have R19 := ok_stand_of (P := l.prog) (w := w) (mg := mg) (base := base) D19 (D18.called R18) z_len G_STANDING_WORDS
  have R20 := ok__law_cut (P := l.prog) (w := w) (mg := mg) (base := base) D20 
  have R21 := ok__law_end_of (P := l.prog) (w := w) (mg := mg) (base := base) D21 z_range
  have R22 := ok__law_possible (P := l.prog) (w := w) (mg := mg) (base := base) D22 (D20.called R20) (D21.called R21) z_range z_min z_len z_any
  have R23 := ok__law_draw (P := l.prog) (w := w) (mg := mg) (base := base) D23 z_len z_int
  have R24 := ok__law_pick (P := l.prog) (w := w) (mg := mg) (base := base) D24 (D23.called R23) z_len
  have R25 := ok__law_short (P := l.prog) (w := w) (mg := mg) (base := base) D25 (D23.called R23) (D24.called R24) z_range
  have R26 := ok__law_spot_step (P := l.prog) (w := w) (mg := mg) (base := base) D26 (D23.called R23) (D25.called R25) (D24.called R24) z_str z_int
  have R27 := ok__law_spot (P := l.prog) (w := w) (mg := mg) (base := base) D27 (D23.called R23) (D24.called R24) (D26.called R26) z_range
  have R28 := ok__law_beside (P := l.prog) (w := w) (mg := mg) (base := base) D28 (D20.called R20) (D23.called R23) (D26.called R26) (D24.called R24) (D27.called R27) z_len
  have R29 := ok__law_row_of_spots (P := l.prog) (w := w) (mg := mg) (base := base) D29 (D27.called R27) (D28.called R28) (D24.called R24) z_range
  have R30 := ok__law_celled (P := l.prog) (w := w) (mg := mg) (base := base) D30 (D23.called R23) (D24.called R24) z_range
  have R31 := ok_inverse (P := l.prog) (w := w) (mg := mg) (base := base) D31 G_INVERSES
  have R32 := ok__law_begin (P := l.prog) (w := w) (mg := mg) (base := base) D32 z_list
  have R33 := ok__law_grown (P := l.prog) (w := w) (mg := mg) (base := base) D33 z_list z_int z_len z_range
  have R35 := ok__law_same (P := l.prog) (w := w) (mg := mg) (base := base) D35 D34 z_isinstance z_bool z_int z_str z_list z_tuple z_len z_range
  have R36 := ok_law (P := l.prog) (w := w) (mg := mg) (base := base) D36 (D32.called R32) (D33.called R33) (D29.called R29) (D23.called R23) (D30.called R30) (D22.called R22) (D18.called R18) (D35.called R35) (D31.called R31) (D19.called R19) z_len
  exact R36
end K03
open PySem PySem.W PyProof.Rows
set_option maxHeartbeats 0 in
theorem PySem.Challenge.cw_fieldsandcalls_k03_whole_chances_of_two_holds : PySem.Challenge.rw_fieldsandcalls_k03_whole_chances_of_two.Holds := by
  w_on; o_law; k_head; (case hw => w_witness2)
  k_fill
  refine DL.walk (l := PySem.Challenge.rw_fieldsandcalls_k03_whole_chances_of_two) (k := 41) ⟨rfl, by decide, by decide⟩ rfl rfl (fun w h Y => PySem.W.kIn_of Y) ?F
  case F =>
    intro w mg fa h KX G hmg
    refine' K03.all_mk KX G hmg ?aC_Spot ?a0 ?l0 ?c0 ?k0 ?a1 ?l1 ?c1 ?k1 ?a2 ?l2 ?c2 ?k2 ?a3 ?l3 ?c3 ?k3 ?a4 ?l4 ?c4 ?k4 ?a5 ?l5 ?c5 ?k5 ?a6 ?l6 ?c6 ?k6 ?a7 ?l7 ?c7 ?k7 ?a8 ?l8 ?c8 ?k8 ?a9 ?l9 ?c9 ?k9 ?a10 ?l10 ?c10 ?k10 ?a11 ?l11 ?c11 ?k11 ?a12 ?l12 ?c12 ?k12 ?a13 ?l13 ?c13 ?k13 ?a14 ?i14 ?l14 ?c14 ?k14 ?a15 ?i15 ?ga15 ?tk15 ?l15 ?c15 ?k15 ?a16 ?i16 ?l16 ?c16 ?k16 ?a17 ?i17 ?l17 ?c17 ?k17 ?a18 ?l18 ?c18 ?k18 ?a19 ?l19 ?c19 ?k19 ?a20 ?l20 ?c20 ?k20 ?a21 ?l21 ?c21 ?k21 ?a22 ?l22 ?c22 ?k22 ?a23 ?l23 ?c23 ?k23 ?a24 ?l24 ?c24 ?k24 ?a25 ?l25 ?c25 ?k25 ?a26 ?l26 ?c26 ?k26 ?a27 ?l27 ?c27 ?k27 ?a28 ?l28 ?c28 ?k28 ?a29 ?l29 ?c29 ?k29 ?a30 ?l30 ?c30 ?k30 ?a31 ?l31 ?c31 ?k31 ?a32 ?l32 ?c32 ?k32 ?a33 ?l33 ?c33 ?k33 ?a34 ?l34 ?c34 ?k34 ?a35 ?l35 ?c35 ?k35 ?a36 ?l36 ?c36 ?k36 ?pg_Spot ?hd_Spot ?po_Spot ?sa_Spot ?mk_Spot ?kc_Spot ?na_Spot_0 ?na_Spot_1 ?na_Spot_2 ?g_MOST_FIGURES ?g_FIGURES ?g_BEGINNINGS ?g_MOST_LETTERS ?g_LETTERS ?g_MOST_SPOT_LETTERS ?g_MARKS ?g_MOST_STEPS ?g_STANDING_WORDS ?gl_STANDING_WORDS ?gk_STANDING_WORDS ?e_STANDING_WORDS_0 ?e_STANDING_WORDS_1 ?e_STANDING_WORDS_2 ?e_STANDING_WORDS_3 ?e_STANDING_WORDS_4 ?e_STANDING_WORDS_5 ?g_INVERSES ?gl_INVERSES ?gk_INVERSES ?e_INVERSES_0 ?e_INVERSES_1 ?e_INVERSES_2 ?e_INVERSES_3 ?e_INVERSES_4 ?e_INVERSES_5 ?zz_len ?zz_all ?zz_zip ?zz_list ?zz_range ?zz_iter ?zz_min ?zz_any ?zz_int ?zz_str ?zz_isinstance ?zz_bool ?zz_tuple
    (case aC_Spot => k_is); (case a0 => k_is); (case l0 => k_is); (case c0 => k_is); (case k0 => k_is); (case a1 => k_is); (case l1 => k_is); (case c1 => k_is); (case k1 => k_is); (case a2 => k_is); (case l2 => k_is); (case c2 => k_is); (case k2 => k_is); (case a3 => k_is); (case l3 => k_is); (case c3 => k_is); (case k3 => k_is); (case a4 => k_is); (case l4 => k_is); (case c4 => k_is); (case k4 => k_is); (case a5 => k_is); (case l5 => k_is); (case c5 => k_is); (case k5 => k_is); (case a6 => k_is); (case l6 => k_is); (case c6 => k_is); (case k6 => k_is); (case a7 => k_is); (case l7 => k_is); (case c7 => k_is); (case k7 => k_is); (case a8 => k_is); (case l8 => k_is); (case c8 => k_is); (case k8 => k_is); (case a9 => k_is); (case l9 => k_is); (case c9 => k_is); (case k9 => k_is); (case a10 => k_is); (case l10 => k_is); (case c10 => k_is); (case k10 => k_is); (case a11 => k_is); (case l11 => k_is); (case c11 => k_is); (case k11 => k_is); (case a12 => k_is); (case l12 => k_is); (case c12 => k_is); (case k12 => k_is); (case a13 => k_is); (case l13 => k_is); (case c13 => k_is); (case k13 => k_is); (case a14 => k_is); (case i14 => k_is); (case l14 => k_is); (case c14 => k_is); (case k14 => k_is); (case a15 => k_is); (case i15 => k_is); (case ga15 => k_is); (case tk15 => k_is); (case l15 => k_is); (case c15 => k_is); (case k15 => k_is); (case a16 => k_is); (case i16 => k_is); (case l16 => k_is); (case c16 => k_is); (case k16 => k_is); (case a17 => k_is); (case i17 => k_is); (case l17 => k_is); (case c17 => k_is); (case k17 => k_is); (case a18 => k_is); (case l18 => k_is); (case c18 => k_is); (case k18 => k_is); (case a19 => k_is); (case l19 => k_is); (case c19 => k_is); (case k19 => k_is); (case a20 => k_is); (case l20 => k_is); (case c20 => k_is); (case k20 => k_is); (case a21 => k_is); (case l21 => k_is); (case c21 => k_is); (case k21 => k_is); (case a22 => k_is); (case l22 => k_is); (case c22 => k_is); (case k22 => k_is); (case a23 => k_is); (case l23 => k_is); (case c23 => k_is); (case k23 => k_is); (case a24 => k_is); (case l24 => k_is); (case c24 => k_is); (case k24 => k_is); (case a25 => k_is); (case l25 => k_is); (case c25 => k_is); (case k25 => k_is); (case a26 => k_is); (case l26 => k_is); (case c26 => k_is); (case k26 => k_is); (case a27 => k_is); (case l27 => k_is); (case c27 => k_is); (case k27 => k_is); (case a28 => k_is); (case l28 => k_is); (case c28 => k_is); (case k28 => k_is); (case a29 => k_is); (case l29 => k_is); (case c29 => k_is); (case k29 => k_is); (case a30 => k_is); (case l30 => k_is); (case c30 => k_is); (case k30 => k_is); (case a31 => k_is); (case l31 => k_is); (case c31 => k_is); (case k31 => k_is); (case a32 => k_is); (case l32 => k_is); (case c32 => k_is); (case k32 => k_is); (case a33 => k_is); (case l33 => k_is); (case c33 => k_is); (case k33 => k_is); (case a34 => k_is); (case l34 => k_is); (case c34 => k_is); (case k34 => k_is); (case a35 => k_is); (case l35 => k_is); (case c35 => k_is); (case k35 => k_is); (case a36 => k_is); (case l36 => k_is); (case c36 => k_is); (case k36 => k_is); (case pg_Spot => k_is); (case hd_Spot => k_is); (case po_Spot => k_is); (case sa_Spot => k_is); (case mk_Spot => k_is); (case kc_Spot => k_is); (case na_Spot_0 => k_is); (case na_Spot_1 => k_is); (case na_Spot_2 => k_is); (case g_MOST_FIGURES => k_is); (case g_FIGURES => k_is); (case g_BEGINNINGS => k_is); (case g_MOST_LETTERS => k_is); (case g_LETTERS => k_is); (case g_MOST_SPOT_LETTERS => k_is); (case g_MARKS => k_is); (case g_MOST_STEPS => k_is); (case g_STANDING_WORDS => k_is); (case gl_STANDING_WORDS => k_is); (case gk_STANDING_WORDS => k_keys); (case e_STANDING_WORDS_0 => k_is); (case e_STANDING_WORDS_1 => k_is); (case e_STANDING_WORDS_2 => k_is); (case e_STANDING_WORDS_3 => k_is); (case e_STANDING_WORDS_4 => k_is); (case e_STANDING_WORDS_5 => k_is); (case g_INVERSES => k_is); (case gl_INVERSES => k_is); (case gk_INVERSES => k_keys); (case e_INVERSES_0 => k_is); (case e_INVERSES_1 => k_is); (case e_INVERSES_2 => k_is); (case e_INVERSES_3 => k_is); (case e_INVERSES_4 => k_is); (case e_INVERSES_5 => k_is); (case zz_len => k_is); (case zz_all => k_is); (case zz_zip => k_is); (case zz_list => k_is); (case zz_range => k_is); (case zz_iter => k_is); (case zz_min => k_is); (case zz_any => k_is); (case zz_int => k_is); (case zz_str => k_is); (case zz_isinstance => k_is); (case zz_bool => k_is); (case zz_tuple => k_is)
