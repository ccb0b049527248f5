import PyProof.Rows.All
import Wide.All
import OpenK.AllK
import Wide.FinOn
import HandS.ForMost
import HandS.ForExc
import HandS.WideMore
import HandS.IsInst
import HandS.ExcIs
import HandS.TryOnly
import HandS.TryMany
import HandS.CallSlots
import HandS.Zip
import HandS.TupMul
import HandS.Deep
import HandS.EndBits
import PySem.Challenge.RW_sameshown_k09_vectors_guessed
set_option Elab.async false
set_option linter.all false
set_option autoImplicit false
set_option maxRecDepth 100000
set_option maxHeartbeats 4000000
/-! L3: plain data above the hand layer: frozen heap F, own cells M, readings by data. -/
namespace L3
open PySem PySem.Spec L2

inductive D where
  | non | bl (b : Bool) | int (i : Int) | str (x : Str) | ty (n : String) | ref (a : Addr)
  | lst (xs : List D) | tup (xs : List D) | ob (C : Addr) (fs : List (Str × D)) | scr (ns : List Int)

section
variable (K : PySem.W.Frag)
mutual
inductive RD : Hp → V → D → Prop
  | non {F} : RD F .non .non
  | bl {F} (b : Bool) : RD F (.bl b) (.bl b)
  | int {F} (i : Int) : RD F (.int i) (.int i)
  | str {F} (x : Str) : RD F (.str x) (.str x)
  | ty {F} (n : String) : RD F (.ty n) (.ty n)
  | ref {F} (a : Addr) : RD F (.ref a) (.ref a)
  | lst {F} {a : Addr} {vs : List V} {ds : List D} : F a = some (.lst vs) → RDs F vs ds → RD F (.ref a) (.lst ds)
  | tup {F} {a : Addr} {vs : List V} {ds : List D} : SqT K F a vs → RDs F vs ds → RD F (.ref a) (.tup ds)
  | scr {F} {a : Addr} {ns : List Int} : SqL K F a (ns.map V.int) → RD F (.ref a) (.scr ns)
  | ob {F} {a C dx : Addr} {fs : List (Str × V)} {gs : List (Str × D)} : F a = some (.ins C dx fs) → RDf F fs gs → RD F (.ref a) (.ob C gs)
inductive RDs : Hp → List V → List D → Prop
  | nil {F} : RDs F [] []
  | cons {F} {v : V} {vs : List V} {d : D} {ds : List D} : RD F v d → RDs F vs ds → RDs F (v :: vs) (d :: ds)
inductive RDf : Hp → List (Str × V) → List (Str × D) → Prop
  | nil {F} : RDf F [] []
  | cons {F} {f : Str} {v : V} {vs : List (Str × V)} {d : D} {ds : List (Str × D)} : RD F v d → RDf F vs ds → RDf F ((f, v) :: vs) ((f, d) :: ds)
end
end

theorem sqt_mono {K : PySem.W.Frag} {H H' : Hp} {a : Addr} {xs : List V} (e : Same H H') (h : SqT K H a xs) : SqT K H' a xs :=
  h.elim (fun h => .inl (h.elim (fun h => .inl (e _ _ h)) fun ⟨o, h⟩ => .inr ⟨o, e _ _ h⟩)) fun h => .inr h
section
variable {K : PySem.W.Frag} {F F' : Hp}
mutual
theorem RD.mono (e : Same F F') : ∀ {v : V} {d : D}, RD K F v d → RD K F' v d
  | _, _, .non => .non
  | _, _, .bl b => .bl b
  | _, _, .int i => .int i
  | _, _, .str x => .str x
  | _, _, .ty n => .ty n
  | _, _, .ref a => .ref a
  | _, _, .lst h r => .lst (e _ _ h) (RDs.mono e r)
  | _, _, .tup h r => .tup (sqt_mono e h) (RDs.mono e r)
  | _, _, .scr h => .scr (Same.seq e h)
  | _, _, .ob h r => .ob (e _ _ h) (RDf.mono e r)
theorem RDs.mono (e : Same F F') : ∀ {v : List V} {d : List D}, RDs K F v d → RDs K F' v d
  | _, _, .nil => .nil
  | _, _, .cons h r => .cons (RD.mono e h) (RDs.mono e r)
theorem RDf.mono (e : Same F F') : ∀ {v : List (Str × V)} {d : List (Str × D)}, RDf K F v d → RDf K F' v d
  | _, _, .nil => .nil
  | _, _, .cons h r => .cons (RD.mono e h) (RDf.mono e r)
end
theorem RDs.len : ∀ {v : List V} {d : List D}, RDs K F v d → v.length = d.length
  | _, _, .nil => rfl
  | _, _, .cons _ r => congrArg (· + 1) (RDs.len r)
theorem RDs.get : ∀ {v : List V} {d : List D} {i : Nat} {x : D}, RDs K F v d → d[i]? = some x → ∃ u, v[i]? = some u ∧ RD K F u x
  | _, _, _, _, .nil, e => by simp at e
  | _, _, 0, _, .cons h _, e => by simp at e; subst e; exact ⟨_, rfl, h⟩
  | _, _, i + 1, x, .cons _ r, e => RDs.get (i := i) r (by simpa using e)
theorem RDs.getV : ∀ {v : List V} {d : List D} {i : Nat} {u : V}, RDs K F v d → v[i]? = some u → ∃ x, d[i]? = some x ∧ RD K F u x
  | _, _, _, _, .nil, e => by simp at e
  | _, _, 0, _, .cons h _, e => by simp at e; subst e; exact ⟨_, rfl, h⟩
  | _, _, i + 1, x, .cons _ r, e => RDs.getV (i := i) r (by simpa using e)
theorem RDs.app : ∀ {v w : List V} {d e : List D}, RDs K F v d → RDs K F w e → RDs K F (v ++ w) (d ++ e)
  | _, _, _, _, .nil, r => r
  | _, _, _, _, .cons h t, r => .cons h (RDs.app t r)
theorem RDs.take : ∀ {v : List V} {d : List D} (n : Nat), RDs K F v d → RDs K F (v.take n) (d.take n)
  | _, _, 0, _ => .nil
  | _, _, _ + 1, .nil => .nil
  | _, _, n + 1, .cons h t => .cons h (RDs.take n t)
theorem RDs.drop : ∀ {v : List V} {d : List D} (n : Nat), RDs K F v d → RDs K F (v.drop n) (d.drop n)
  | _, _, 0, r => r
  | _, _, _ + 1, .nil => .nil
  | _, _, n + 1, .cons _ t => RDs.drop n t
theorem RDs.set {u : V} {x : D} (h : RD K F u x) : ∀ {v : List V} {d : List D} (n : Nat), RDs K F v d → RDs K F (v.set n u) (d.set n x)
  | _, _, _, .nil => .nil
  | _, _, 0, .cons _ t => .cons h t
  | _, _, n + 1, .cons q t => .cons q (RDs.set h n t)
theorem RDs.rep {v : List V} {d : List D} (h : RDs K F v d) : ∀ n : Nat, RDs K F (List.replicate n v).flatten (List.replicate n d).flatten
  | 0 => .nil
  | n + 1 => by
    rw [List.replicate_succ, List.replicate_succ, List.flatten_cons, List.flatten_cons]
    exact h.app (RDs.rep h n)
theorem RDs.rev : ∀ {v : List V} {d : List D}, RDs K F v d → RDs K F v.reverse d.reverse
  | _, _, .nil => .nil
  | _, _, .cons h t => by
    rw [List.reverse_cons, List.reverse_cons]
    exact (RDs.rev t).app (.cons h .nil)
theorem RDs.ints : ∀ {ns : List Int}, RDs K F (ns.map V.int) (ns.map D.int)
  | [] => .nil
  | n :: _ => .cons (.int n) RDs.ints
theorem RDs.ofInts : ∀ {ns : List Int} {vs : List V}, RDs K F vs (ns.map D.int) → vs = ns.map V.int
  | [], _, h => by cases h; rfl
  | n :: ns, _, h => by
    cases h with
    | cons h t =>
      cases h
      rw [List.map_cons, ← RDs.ofInts t]
theorem RDs.bls : ∀ {ns : List Bool}, RDs K F (ns.map V.bl) (ns.map D.bl)
  | [] => .nil
  | n :: _ => .cons (.bl n) RDs.bls
theorem RDs.ofBls : ∀ {ns : List Bool} {vs : List V}, RDs K F vs (ns.map D.bl) → vs = ns.map V.bl
  | [], _, h => by cases h; rfl
  | n :: ns, _, h => by
    cases h with
    | cons h t =>
      cases h
      rw [List.map_cons, ← RDs.ofBls t]
theorem RDf.look : ∀ {v : List (Str × V)} {d : List (Str × D)} {f : Str} {x : D}, RDf K F v d → d.lookup f = some x → ∃ u, v.lookup f = some u ∧ RD K F u x
  | _, _, _, _, .nil, e => by simp at e
  | _, _, f, x, .cons (f := g) h r, e => by
    rw [List.lookup_cons] at e ⊢
    cases hb : f == g with
    | true =>
      rw [hb] at e
      cases e
      exact ⟨_, rfl, h⟩
    | false =>
      rw [hb] at e
      exact RDf.look r e
theorem RDf.lookN : ∀ {v : List (Str × V)} {d : List (Str × D)} {f : Str}, RDf K F v d → d.lookup f = none → v.lookup f = none
  | _, _, _, .nil, e => rfl
  | _, _, f, .cons (f := g) h r, e => by
    rw [List.lookup_cons] at e ⊢
    cases hb : f == g with
    | true =>
      rw [hb] at e
      cases e
    | false =>
      rw [hb] at e
      exact RDf.lookN r e
theorem RDf.len : ∀ {v : List (Str × V)} {d : List (Str × D)}, RDf K F v d → v.length = d.length
  | _, _, .nil => rfl
  | _, _, .cons _ r => congrArg (· + 1) (RDf.len r)
end

/-! ### own cells -/
inductive O where
  | lst (xs : List D) | dct (kvs : List (Key × D)) | ins (C dx : Addr) (fs : List (Str × D))
abbrev Mem := List (Addr × O)
abbrev Env3 := List (Option D)

def putD (f : Str) (v : D) : List (Str × D) → List (Str × D)
  | [] => [(f, v)]
  | (g, x) :: r => if g = f then (g, v) :: r else (g, x) :: putD f v r

def RK (K : PySem.W.Frag) (F : Hp) (p : Key × V) (q : Key × D) : Prop := p.1 = q.1 ∧ RD K F p.2 q.2
def RO (K : PySem.W.Frag) (F : Hp) : HO → O → Prop
  | .lst vs, .lst xs => RDs K F vs xs
  | .dK kvs, .dct ks => Paired (RK K F) kvs ks
  | .ins C dx fs, .ins C' dx' gs => C = C' ∧ dx = dx' ∧ RDf K F fs gs
  | _, _ => False
section
variable {K : PySem.W.Frag} {F F' : Hp}
theorem Paired.mp {α β : Type} {P Q : α → β → Prop} (h : ∀ a b, P a b → Q a b) : ∀ {l : List α} {r : List β}, Paired P l r → Paired Q l r
  | _, _, .nil => .nil
  | _, _, .cons a t => .cons (h _ _ a) (Paired.mp h t)
theorem RO.mono (e : Same F F') {ho : HO} {o : O} (h : RO K F ho o) : RO K F' ho o := by
  cases ho with
  | lst vs => cases o with
    | lst xs => exact RDs.mono e h
    | _ => exact h
  | dK kvs => cases o with
    | dct ks => exact Paired.mp (fun a b p => ⟨p.1, p.2.mono e⟩) h
    | _ => exact h
  | ins C dx fs => cases o with
    | ins C' dx' gs => exact ⟨h.1, h.2.1, RDf.mono e h.2.2⟩
    | _ => exact h
  | _ => cases o <;> exact h
end

structure StC (K : PySem.W.Frag) (F H : Hp) (M : Mem) : Prop where
  sub : Same F H
  own : ∀ p o, (p, o) ∈ M → F p = none ∧ ∃ ho, H p = some ho ∧ RO K F ho o
  nd : (M.map Prod.fst).Nodup
section
variable {K : PySem.W.Frag} {F F' H H' : Hp} {M M' : Mem} {p : Addr} {o : O}
theorem StC.perm (s : StC K F H M) (h : M.Perm M') : StC K F H M' :=
  ⟨s.sub, fun p o m => s.own p o (h.mem_iff.mpr m), (h.map _).nodup_iff.mp s.nd⟩
/-- a new object, frozen at once -/
theorem StC.newF (s : StC K F H M) {ho : HO} (hp : H p = none) : StC K (upd F p ho) (upd H p ho) M := by
  refine ⟨fun b x e => ?_, fun q o m => ?_, s.nd⟩
  · by_cases hb : b = p
    · subst hb
      rw [upd_same] at e ⊢
      exact e
    · rw [upd_ne hb] at e ⊢
      exact s.sub _ _ e
  · obtain ⟨n, ho', e, r⟩ := s.own q o m
    have hne : q ≠ p := fun z => by rw [z, hp] at e; cases e
    have hF : F p = none := by
      cases hq : F p with
      | none => rfl
      | some u => rw [s.sub _ _ hq] at hp; cases hp
    refine ⟨by rw [upd_ne hne]; exact n, ho', by rw [upd_ne hne]; exact e, r.mono fun b x e => ?_⟩
    rw [upd_ne (ne_of_none e hF)]
    exact e
theorem StC.freeF (s : StC K F H M) (hp : H p = none) : F p = none := by
  cases hq : F p with
  | none => rfl
  | some u => rw [s.sub _ _ hq] at hp; cases hp
theorem StC.sameF (s : StC K F H M) {ho : HO} (hp : H p = none) : Same F (upd F p ho) := fun b x e => by
  rw [upd_ne (ne_of_none e (s.freeF hp))]
  exact e
/-- a new object, a cell of ours -/
theorem StC.newO (s : StC K F H M) {ho : HO} (hp : H p = none) (r : RO K F ho o) : StC K F (upd H p ho) ((p, o) :: M) := by
  refine ⟨fun b x e => ?_, fun q o' m => ?_, ?_⟩
  · have hb : b ≠ p := fun z => by rw [z, s.freeF hp] at e; cases e
    rw [upd_ne hb]
    exact s.sub _ _ e
  · rcases List.mem_cons.mp m with h | h
    · cases h
      exact ⟨s.freeF hp, ho, upd_same, r⟩
    · obtain ⟨n, ho', e, r'⟩ := s.own q o' h
      exact ⟨n, ho', by rw [upd_ne (ne_of_none e hp)]; exact e, r'⟩
  · rw [List.map_cons, List.nodup_cons]
    refine ⟨fun m => ?_, s.nd⟩
    obtain ⟨⟨q, o'⟩, hm, e⟩ := List.mem_map.mp m
    obtain ⟨n, ho', e', r'⟩ := s.own q o' hm
    have e2 : q = p := e
    rw [e2, hp] at e'
    cases e'
/-- untracked objects come -/
theorem StC.more (s : StC K F H M) (e : Same H H') : StC K F H' M := ⟨s.sub.trans e, fun p o m => let ⟨n, ho, h, r⟩ := s.own p o m; ⟨n, ho, e _ _ h, r⟩, s.nd⟩
/-- a cell is written -/
theorem StC.put {A B : Mem} {o' : O} {ho : HO} (s : StC K F H (A ++ (p, o) :: B)) (r : RO K F ho o') : StC K F (upd H p ho) (A ++ (p, o') :: B) := by
  have hm : (p, o) ∈ A ++ (p, o) :: B := List.mem_append_right _ List.mem_cons_self
  obtain ⟨n, ho', e, r'⟩ := s.own p o hm
  have nd := s.nd
  rw [List.map_append, List.map_cons] at nd
  have key : ∀ q u, (q, u) ∈ A ++ B → q ≠ p := fun q u hq z => by
    have z : q = p := z
    subst z
    rw [List.nodup_append, List.nodup_cons] at nd
    rcases List.mem_append.mp hq with h | h
    · exact nd.2.2 q (List.mem_map.mpr ⟨_, h, rfl⟩) q List.mem_cons_self rfl
    · exact nd.2.1.1 (List.mem_map.mpr ⟨_, h, rfl⟩)
  refine ⟨fun b x e => ?_, fun q u m => ?_, ?_⟩
  · have hb : b ≠ p := fun z => by rw [z, n] at e; cases e
    rw [upd_ne hb]
    exact s.sub _ _ e
  · have h3 : (q, u) = (p, o') ∨ (q, u) ∈ A ++ B := by
      rcases List.mem_append.mp m with h | h
      · exact .inr (List.mem_append_left _ h)
      · rcases List.mem_cons.mp h with h | h
        · exact .inl h
        · exact .inr (List.mem_append_right _ h)
    rcases h3 with h | h
    · cases h
      exact ⟨n, ho, upd_same, r⟩
    · have hm2 : (q, u) ∈ A ++ (p, o) :: B := by
        rcases List.mem_append.mp h with h | h
        · exact List.mem_append_left _ h
        · exact List.mem_append_right _ (List.mem_cons_of_mem _ h)
      obtain ⟨n2, ho2, e2, r2⟩ := s.own q u hm2
      exact ⟨n2, ho2, by rw [upd_ne (key q u h)]; exact e2, r2⟩
  · rw [List.map_append, List.map_cons]
    exact nd
/-- a cell is frozen: nobody will write it any more -/
theorem StC.frozen {A B : Mem} {xs : List D} (s : StC K F H (A ++ (p, .lst xs) :: B)) : ∃ vs, H p = some (.lst vs) ∧ RDs K F vs xs ∧ Same F (upd F p (.lst vs)) ∧ StC K (upd F p (.lst vs)) H (A ++ B) := by
  have hm : (p, O.lst xs) ∈ A ++ (p, O.lst xs) :: B := List.mem_append_right _ List.mem_cons_self
  obtain ⟨n, ho, e, r⟩ := s.own p _ hm
  cases ho with
  | lst vs =>
    have sm : Same F (upd F p (.lst vs)) := fun b x q => by
      rw [upd_ne (ne_of_none q n)]
      exact q
    refine ⟨vs, e, r, sm, fun b x q => ?_, fun q u m => ?_, ?_⟩
    · by_cases hb : b = p
      · subst hb
        rw [upd_same] at q
        rw [e, q]
      · rw [upd_ne hb] at q
        exact s.sub _ _ q
    · have nd := s.nd
      rw [List.map_append, List.map_cons, List.nodup_append, List.nodup_cons] at nd
      have hq : q ≠ p := fun z => by
        have z : q = p := z
        subst z
        rcases List.mem_append.mp m with h | h
        · exact nd.2.2 q (List.mem_map.mpr ⟨_, h, rfl⟩) q List.mem_cons_self rfl
        · exact nd.2.1.1 (List.mem_map.mpr ⟨_, h, rfl⟩)
      have hm2 : (q, u) ∈ A ++ (p, O.lst xs) :: B := by
        rcases List.mem_append.mp m with h | h
        · exact List.mem_append_left _ h
        · exact List.mem_append_right _ (List.mem_cons_of_mem _ h)
      obtain ⟨n2, ho2, e2, r2⟩ := s.own q u hm2
      exact ⟨by rw [upd_ne hq]; exact n2, ho2, e2, r2.mono sm⟩
    · have nd := s.nd
      rw [List.map_append, List.map_cons] at nd
      rw [List.map_append]
      exact (List.nodup_append.mpr ⟨(List.nodup_append.mp nd).1, (List.nodup_cons.mp (List.nodup_append.mp nd).2.1).2, fun a ha b hb => (List.nodup_append.mp nd).2.2 a ha b (List.mem_cons_of_mem _ hb)⟩)
  | _ => exact absurd r (by intro z; exact z)
theorem StC.dropM {A B : Mem} (s : StC K F H (A ++ B)) : StC K F H B :=
  ⟨s.sub, fun p o m => s.own p o (List.mem_append_right _ m), by have := s.nd; rw [List.map_append] at this; exact (List.nodup_append.mp this).2.1⟩
end

/-! ### names -/
def RS (K : PySem.W.Frag) (F : Hp) (s : Option V) (r : Option D) : Prop := match r with
  | none => True
  | some x => ∃ v, s = some v ∧ RD K F v x
abbrev EnvR (K : PySem.W.Frag) (F : Hp) (σ : St) (ρ : Env3) : Prop := Paired (RS K F) σ ρ
section
variable {K : PySem.W.Frag} {F F' : Hp}
theorem EnvR.mono (e : Same F F') {σ : L2.St} {ρ : Env3} (h : EnvR K F σ ρ) : EnvR K F' σ ρ := Paired.mp (fun a b r => by
  cases b with
  | none => exact True.intro
  | some x =>
    obtain ⟨v, h1, h2⟩ := r
    exact ⟨v, h1, h2.mono e⟩) h
theorem EnvR.get : ∀ {σ : L2.St} {ρ : Env3} {i : Nat} {x : D}, EnvR K F σ ρ → ρ[i]? = some (some x) → ∃ v, σ[i]? = some (some v) ∧ RD K F v x
  | _, _, _, _, .nil, e => by simp at e
  | _, _, 0, _, .cons h _, e => by
    simp at e
    subst e
    obtain ⟨v, rfl, r⟩ := h
    exact ⟨v, rfl, r⟩
  | _, _, i + 1, x, .cons _ r, e => EnvR.get (i := i) r (by simpa using e)
theorem EnvR.set {v : V} {x : D} (h : RD K F v x) : ∀ {σ : L2.St} {ρ : Env3} (i : Nat), EnvR K F σ ρ → EnvR K F (σ.set i (some v)) (ρ.set i (some x))
  | _, _, _, .nil => .nil
  | _, _, 0, .cons _ t => .cons ⟨v, rfl, h⟩ t
  | _, _, i + 1, .cons q t => .cons q (EnvR.set h i t)
theorem EnvR.clr : ∀ {σ : L2.St} {ρ : Env3} (i : Nat) (z : Option V), EnvR K F σ ρ → EnvR K F (σ.set i z) (ρ.set i none)
  | _, _, _, _, .nil => .nil
  | _, _, 0, _, .cons _ t => .cons True.intro t
  | _, _, i + 1, z, .cons q t => .cons q (EnvR.clr i z t)
theorem EnvR.len : ∀ {σ : L2.St} {ρ : Env3}, EnvR K F σ ρ → σ.length = ρ.length
  | _, _, .nil => rfl
  | _, _, .cons _ t => congrArg (· + 1) (EnvR.len t)
end
def wipeD (ρ : Env3) : List Nat → Env3
  | [] => ρ
  | v :: vs => (wipeD ρ vs).set v none
theorem EnvR.wipe {K : PySem.W.Frag} {F : Hp} {σ : L2.St} {ρ : Env3} (h : EnvR K F σ ρ) : ∀ vs : List Nat, EnvR K F (L2.wipe σ vs) (wipeD ρ vs)
  | [] => h
  | v :: vs => (EnvR.wipe h vs).clr v none

/-! ### errors -/
structure Ex where
  cls : Value
  fs : Option (List (Str × D))
def ExR (K : PySem.W.Frag) (F H : Hp) (cls : Value) (d : Option Addr) (x : Ex) : Prop := cls = x.cls ∧ match x.fs with
  | none => d = none
  | some gs => ∃ dd vs, d = some dd ∧ H dd = some (.xd vs) ∧ RDf K F vs gs

/-! ### readings by data -/
abbrev PX := Ex → Env3 → Mem → Prop
def EK (K : PySem.W.Frag) (F : Hp) (Mf : Mem) (Ψ : PX) (E : WX) : Prop :=
  ∀ x ρ M F' H' σ cls d, Ψ x ρ M → EnvR K F' σ ρ → Same F F' → StC K F' H' (M ++ Mf) → ExR K F' H' cls d x → E cls d σ H'
theorem EK.mono {K : PySem.W.Frag} {F F' : Hp} {Mf : Mem} {Ψ : PX} {E : WX} (h : EK K F Mf Ψ E) (e : Same F F') : EK K F' Mf Ψ E :=
  fun x ρ M F2 H2 σ cls d p r s => h x ρ M F2 H2 σ cls d p r (e.trans s)

def W (K : PySem.W.Frag) (E : WX) (t : TE) (ρ : Env3) (M : Mem) (Φ : D → Mem → Prop) (Ψ : PX) : Prop :=
  ∀ σ F H Mf Q, EnvR K F σ ρ → StC K F H (M ++ Mf) → EK K F Mf Ψ E → (∀ v x F' H' M', Φ x M' → RD K F' v x → Same F F' → StC K F' H' (M' ++ Mf) → Q v H') → t σ H Q
def WT (K : PySem.W.Frag) (E : WX) (t : TT) (ρ : Env3) (M : Mem) (Φ : Bool → Mem → Prop) (Ψ : PX) : Prop :=
  ∀ σ F H Mf Q, EnvR K F σ ρ → StC K F H (M ++ Mf) → EK K F Mf Ψ E → (∀ b F' H' M', Φ b M' → Same F F' → StC K F' H' (M' ++ Mf) → Q b H') → t σ H Q
def WA (K : PySem.W.Frag) (E : WX) (t : TA) (ρ : Env3) (M : Mem) (Φ : List D → Mem → Prop) (Ψ : PX) : Prop :=
  ∀ σ F H Mf Q, EnvR K F σ ρ → StC K F H (M ++ Mf) → EK K F Mf Ψ E → (∀ vs xs F' H' M', Φ xs M' → RDs K F' vs xs → Same F F' → StC K F' H' (M' ++ Mf) → Q vs H') → t σ H Q
structure DD where
  nx : Env3 → Mem → Prop
  rt : D → Mem → Prop
  bk : Env3 → Mem → Prop
  ct : Env3 → Mem → Prop
structure DR (K : PySem.W.Frag) (F : Hp) (Mf : Mem) (d : DD) (e : Ends) : Prop where
  nx : ∀ σ ρ F' H M, d.nx ρ M → EnvR K F' σ ρ → Same F F' → StC K F' H (M ++ Mf) → e.nx σ H
  rt : ∀ v x F' H M, d.rt x M → RD K F' v x → Same F F' → StC K F' H (M ++ Mf) → e.rt v H
  bk : ∀ σ ρ F' H M, d.bk ρ M → EnvR K F' σ ρ → Same F F' → StC K F' H (M ++ Mf) → e.bk σ H
  ct : ∀ σ ρ F' H M, d.ct ρ M → EnvR K F' σ ρ → Same F F' → StC K F' H (M ++ Mf) → e.ct σ H
theorem DR.mono {K : PySem.W.Frag} {F F' : Hp} {Mf : Mem} {d : DD} {e : Ends} (h : DR K F Mf d e) (s : Same F F') : DR K F' Mf d e :=
  ⟨fun a b c x y p q r => h.nx a b c x y p q (s.trans r), fun a b c x y p q r => h.rt a b c x y p q (s.trans r), fun a b c x y p q r => h.bk a b c x y p q (s.trans r), fun a b c x y p q r => h.ct a b c x y p q (s.trans r)⟩
def WS (K : PySem.W.Frag) (E : WX) (t : TS) (ρ : Env3) (M : Mem) (d : DD) (Ψ : PX) : Prop :=
  ∀ σ F H Mf e, EnvR K F σ ρ → StC K F H (M ++ Mf) → EK K F Mf Ψ E → DR K F Mf d e → t e σ H
def WG (K : PySem.W.Frag) (E : WX) (g : TG) (x : D) (ρ : Env3) (M : Mem) (Θ : Env3 → Mem → Prop) (Ψ : PX) : Prop :=
  ∀ σ F H Mf v Q, RD K F v x → EnvR K F σ ρ → StC K F H (M ++ Mf) → EK K F Mf Ψ E → (∀ σ' ρ' F' H' M', Θ ρ' M' → EnvR K F' σ' ρ' → Same F F' → StC K F' H' (M' ++ Mf) → Q σ' H') → g v σ H Q
def WGs (K : PySem.W.Frag) (E : WX) (g : TGs) (xs : List D) (ρ : Env3) (M : Mem) (Θ : Env3 → Mem → Prop) (Ψ : PX) : Prop :=
  ∀ σ F H Mf vs Q, RDs K F vs xs → EnvR K F σ ρ → StC K F H (M ++ Mf) → EK K F Mf Ψ E → (∀ σ' ρ' F' H' M', Θ ρ' M' → EnvR K F' σ' ρ' → Same F F' → StC K F' H' (M' ++ Mf) → Q σ' H') → g vs σ H Q
end L3

namespace L3
open PySem PySem.Spec L2
section
variable {K : PySem.W.Frag} {E : WX} {Ψ : PX} {ρ : Env3} {M : Mem} {Φ : D → Mem → Prop}
theorem W.mono {t : TE} {Φ' : D → Mem → Prop} (h : W K E t ρ M Φ Ψ) (m : ∀ x M', Φ x M' → Φ' x M') : W K E t ρ M Φ' Ψ :=
  fun σ F H Mf Q e s k q => h σ F H Mf Q e s k fun v x F' H' M' p => q v x F' H' M' (m _ _ p)
theorem WS.mono {t : TS} {d d' : DD} (h : WS K E t ρ M d Ψ) (m : ∀ ρ' M', d.nx ρ' M' → d'.nx ρ' M') (m2 : ∀ x M', d.rt x M' → d'.rt x M') (m3 : ∀ ρ' M', d.bk ρ' M' → d'.bk ρ' M') (m4 : ∀ ρ' M', d.ct ρ' M' → d'.ct ρ' M') : WS K E t ρ M d' Ψ :=
  fun σ F H Mf e a s k q => h σ F H Mf e a s k ⟨fun a b c x y p => q.nx a b c x y (m _ _ p), fun a b c x y p => q.rt a b c x y (m2 _ _ p), fun a b c x y p => q.bk a b c x y (m3 _ _ p), fun a b c x y p => q.ct a b c x y (m4 _ _ p)⟩
theorem W.var {i : Nat} {x : D} (h : ρ[i]? = some (some x)) (q : Φ x M) : W K E (tVar i) ρ M Φ Ψ := fun σ F H Mf Q e s _ k => by
  obtain ⟨v, h1, h2⟩ := e.get h
  exact ⟨v, h1, k v x F H M q h2 (Same.refl _) s⟩
theorem W.cst {v : V} {x : D} (r : ∀ F, RD K F v x) (q : Φ x M) : W K E (tC v) ρ M Φ Ψ := fun σ F H Mf Q e s _ k => k v x F H M q (r F) (Same.refl _) s
theorem W.int {i : Int} (q : Φ (.int i) M) : W K E (tC (.int i)) ρ M Φ Ψ := W.cst (fun _ => .int i) q
theorem W.bl {i : Bool} (q : Φ (.bl i) M) : W K E (tC (.bl i)) ρ M Φ Ψ := W.cst (fun _ => .bl i) q
theorem W.str {i : Str} (q : Φ (.str i) M) : W K E (tC (.str i)) ρ M Φ Ψ := W.cst (fun _ => .str i) q
theorem W.non (q : Φ .non M) : W K E (tC .non) ρ M Φ Ψ := W.cst (fun _ => .non) q
theorem W.ty {i : String} (q : Φ (.ty i) M) : W K E (tC (.ty i)) ρ M Φ Ψ := W.cst (fun _ => .ty i) q
theorem W.ref {i : Addr} (q : Φ (.ref i) M) : W K E (tC (.ref i)) ρ M Φ Ψ := W.cst (fun _ => .ref i) q

/-! ### what a step wants of values -/
abbrev Kont (K : PySem.W.Frag) (F : Hp) (Mf : Mem) (Φ : D → Mem → Prop) (Q : VK) : Prop := ∀ v x F' H' M', Φ x M' → RD K F' v x → Same F F' → StC K F' H' (M' ++ Mf) → Q v H'
def OpD (K : PySem.W.Frag) (r : R2) (x y : D) (M : Mem) (Φ : D → Mem → Prop) : Prop := ∀ F H Mf v u Q, RD K F v x → RD K F u y → StC K F H (M ++ Mf) → Kont K F Mf Φ Q → r v u H Q
def UnD (K : PySem.W.Frag) (r : V → Hp → VK → Prop) (x : D) (M : Mem) (Φ : D → Mem → Prop) : Prop := ∀ F H Mf v Q, RD K F v x → StC K F H (M ++ Mf) → Kont K F Mf Φ Q → r v H Q
def CbD (K : PySem.W.Frag) (r : List V → Hp → VK → Prop) (xs : List D) (M : Mem) (Φ : D → Mem → Prop) : Prop := ∀ F H Mf vs Q, RDs K F vs xs → StC K F H (M ++ Mf) → Kont K F Mf Φ Q → r vs H Q
def MtD (K : PySem.W.Frag) (r : V → List V → Hp → VK → Prop) (x : D) (xs : List D) (M : Mem) (Φ : D → Mem → Prop) : Prop := ∀ F H Mf v vs Q, RD K F v x → RDs K F vs xs → StC K F H (M ++ Mf) → Kont K F Mf Φ Q → r v vs H Q
theorem Kont.mono {F F' : Hp} {Mf : Mem} {Q : VK} (k : Kont K F Mf Φ Q) (e : Same F F') : Kont K F' Mf Φ Q := fun v x F2 H2 M2 p r s => k v x F2 H2 M2 p r (e.trans s)
theorem W.op {r : R2} {ta tb : TE} (h : W K E ta ρ M (fun x M1 => W K E tb ρ M1 (fun y M2 => OpD K r x y M2 Φ) Ψ) Ψ) : W K E (tOp r ta tb) ρ M Φ Ψ := fun σ F H Mf Q e s k q =>
  h σ F H Mf _ e s k fun v x F1 H1 M1 h1 r1 s1 c1 => h1 σ F1 H1 Mf _ (e.mono s1) c1 (k.mono s1) fun u y F2 H2 M2 h2 r2 s2 c2 =>
    h2 F2 H2 Mf v u Q (r1.mono s2) r2 c2 (Kont.mono q (s1.trans s2))
theorem W.un {r : V → Hp → VK → Prop} {ta : TE} (h : W K E ta ρ M (fun x M1 => UnD K r x M1 Φ) Ψ) : W K E (tUn r ta) ρ M Φ Ψ := fun σ F H Mf Q e s k q =>
  h σ F H Mf _ e s k fun v x F1 H1 M1 h1 r1 s1 c1 => h1 F1 H1 Mf v Q r1 c1 (Kont.mono q s1)
theorem WA.nil {Φ : List D → Mem → Prop} (h : Φ [] M) : WA K E tNil ρ M Φ Ψ := fun σ F H Mf Q e s k q => q [] [] F H M h .nil (Same.refl _) s
theorem WA.cons {ta : TE} {tr : TA} {Φ : List D → Mem → Prop} (h : W K E ta ρ M (fun x M1 => WA K E tr ρ M1 (fun xs M2 => Φ (x :: xs) M2) Ψ) Ψ) : WA K E (tCons ta tr) ρ M Φ Ψ := fun σ F H Mf Q e s k q =>
  h σ F H Mf _ e s k fun v x F1 H1 M1 h1 r1 s1 c1 => h1 σ F1 H1 Mf _ (e.mono s1) c1 (k.mono s1) fun us ys F2 H2 M2 h2 r2 s2 c2 =>
    q _ _ F2 H2 M2 h2 (.cons (r1.mono s2) r2) (s1.trans s2) c2
theorem W.cb {r : List V → Hp → VK → Prop} {t : TA} (h : WA K E t ρ M (fun xs M1 => CbD K r xs M1 Φ) Ψ) : W K E (tCB r t) ρ M Φ Ψ := fun σ F H Mf Q e s k q =>
  h σ F H Mf _ e s k fun v x F1 H1 M1 h1 r1 s1 c1 => h1 F1 H1 Mf v Q r1 c1 (Kont.mono q s1)
/-- a tuple, a list displayed: frozen -/
theorem W.tup {t : TA} (h : WA K E t ρ M (fun xs M1 => xs.length ≤ sizeLine ∧ Φ (.tup xs) M1) Ψ) : W K E (tTup t) ρ M Φ Ψ := fun σ F H Mf Q e s k q =>
  h σ F H Mf _ e s k fun v x F1 H1 M1 h1 r1 s1 c1 => ⟨by rw [r1.len]; exact h1.1, fun p hp =>
    q _ _ _ _ M1 h1.2 (.tup (.inl (.inl upd_same)) (r1.mono (c1.sameF hp))) (s1.trans (c1.sameF hp)) (c1.newF hp)⟩
theorem W.lst {t : TA} (h : WA K E t ρ M (fun xs M1 => xs.length ≤ sizeLine ∧ Φ (.lst xs) M1) Ψ) : W K E (tLst t) ρ M Φ Ψ := fun σ F H Mf Q e s k q =>
  h σ F H Mf _ e s k fun v x F1 H1 M1 h1 r1 s1 c1 => ⟨by rw [r1.len]; exact h1.1, fun p hp =>
    q _ _ _ _ M1 h1.2 (.lst upd_same (r1.mono (c1.sameF hp))) (s1.trans (c1.sameF hp)) (c1.newF hp)⟩
/-- a list displayed: a cell of ours -/
def tLstO (t : TA) : TE := tLst t
theorem W.lstO {t : TA} (h : WA K E t ρ M (fun xs M1 => xs.length ≤ sizeLine ∧ ∀ p, Φ (.ref p) ((p, .lst xs) :: M1)) Ψ) : W K E (tLstO t) ρ M Φ Ψ := fun σ F H Mf Q e s k q =>
  h σ F H Mf _ e s k fun v x F1 H1 M1 h1 r1 s1 c1 => ⟨by rw [r1.len]; exact h1.1, fun p hp =>
    q _ _ _ _ _ (h1.2 p) (.ref p) s1 (c1.newO hp r1)⟩

/-! ### tests -/
theorem WT.mono {t : TT} {Θ Θ' : Bool → Mem → Prop} (h : WT K E t ρ M Θ Ψ) (m : ∀ x M', Θ x M' → Θ' x M') : WT K E t ρ M Θ' Ψ :=
  fun σ F H Mf Q e s k q => h σ F H Mf Q e s k fun b F' H' M' p => q b F' H' M' (m _ _ p)
theorem WT.tB {t : TE} {Θ : Bool → Mem → Prop} (h : W K E t ρ M (fun x M1 => ∃ b, x = .bl b ∧ Θ b M1) Ψ) : WT K E (tB t) ρ M Θ Ψ := fun σ F H Mf Q e s k q =>
  h σ F H Mf _ e s k fun v x F1 H1 M1 h1 r1 s1 c1 => by
    obtain ⟨b, rfl, h1⟩ := h1
    cases r1
    exact ⟨b, rfl, q b F1 H1 M1 h1 s1 c1⟩
theorem WT.and {t u : TT} {Θ : Bool → Mem → Prop} (h : WT K E t ρ M (fun b M1 => (b = true → WT K E u ρ M1 Θ Ψ) ∧ (b = false → Θ false M1)) Ψ) : WT K E (tAnd t u) ρ M Θ Ψ := fun σ F H Mf Q e s k q =>
  h σ F H Mf _ e s k fun b F1 H1 M1 h1 s1 c1 => by
    cases b with
    | true => exact h1.1 rfl σ F1 H1 Mf _ (e.mono s1) c1 (k.mono s1) fun c F2 H2 M2 h2 s2 c2 => q c F2 H2 M2 h2 (s1.trans s2) c2
    | false => exact q false F1 H1 M1 (h1.2 rfl) s1 c1
theorem WT.or {t u : TT} {Θ : Bool → Mem → Prop} (h : WT K E t ρ M (fun b M1 => (b = true → Θ true M1) ∧ (b = false → WT K E u ρ M1 Θ Ψ)) Ψ) : WT K E (tOr t u) ρ M Θ Ψ := fun σ F H Mf Q e s k q =>
  h σ F H Mf _ e s k fun b F1 H1 M1 h1 s1 c1 => by
    cases b with
    | false => exact h1.2 rfl σ F1 H1 Mf _ (e.mono s1) c1 (k.mono s1) fun c F2 H2 M2 h2 s2 c2 => q c F2 H2 M2 h2 (s1.trans s2) c2
    | true => exact q true F1 H1 M1 (h1.1 rfl) s1 c1
theorem WT.not {t : TT} {Θ : Bool → Mem → Prop} (h : WT K E t ρ M (fun b M1 => Θ (!b) M1) Ψ) : WT K E (tNot t) ρ M Θ Ψ := fun σ F H Mf Q e s k q =>
  h σ F H Mf _ e s k fun b F1 H1 M1 h1 s1 c1 => q _ F1 H1 M1 h1 s1 c1
theorem W.andV {ta tb : TE} (h : W K E ta ρ M (fun x M1 => ∃ b, x = .bl b ∧ (b = true → W K E tb ρ M1 Φ Ψ) ∧ (b = false → Φ (.bl false) M1)) Ψ) : W K E (tAndV ta tb) ρ M Φ Ψ := fun σ F H Mf Q e s k q =>
  h σ F H Mf _ e s k fun v x F1 H1 M1 h1 r1 s1 c1 => by
    obtain ⟨b, rfl, h1, h2⟩ := h1
    cases r1
    refine ⟨b, rfl, ?_⟩
    cases b with
    | true => exact h1 rfl σ F1 H1 Mf _ (e.mono s1) c1 (k.mono s1) fun v x F2 H2 M2 h2 r2 s2 c2 => q v x F2 H2 M2 h2 r2 (s1.trans s2) c2
    | false => exact q _ _ F1 H1 M1 (h2 rfl) (.bl false) s1 c1
theorem W.orV {ta tb : TE} (h : W K E ta ρ M (fun x M1 => ∃ b, x = .bl b ∧ (b = true → Φ (.bl true) M1) ∧ (b = false → W K E tb ρ M1 Φ Ψ)) Ψ) : W K E (tOrV ta tb) ρ M Φ Ψ := fun σ F H Mf Q e s k q =>
  h σ F H Mf _ e s k fun v x F1 H1 M1 h1 r1 s1 c1 => by
    obtain ⟨b, rfl, h1, h2⟩ := h1
    cases r1
    refine ⟨b, rfl, ?_⟩
    cases b with
    | false => exact h2 rfl σ F1 H1 Mf _ (e.mono s1) c1 (k.mono s1) fun v x F2 H2 M2 h2 r2 s2 c2 => q v x F2 H2 M2 h2 r2 (s1.trans s2) c2
    | true => exact q _ _ F1 H1 M1 (h1 rfl) (.bl true) s1 c1
theorem W.notV {ta : TE} (h : W K E ta ρ M (fun x M1 => ∃ b, x = .bl b ∧ Φ (.bl (!b)) M1) Ψ) : W K E (tNotV ta) ρ M Φ Ψ := fun σ F H Mf Q e s k q =>
  h σ F H Mf _ e s k fun v x F1 H1 M1 h1 r1 s1 c1 => by
    obtain ⟨b, rfl, h1⟩ := h1
    cases r1
    exact ⟨b, rfl, q _ _ F1 H1 M1 h1 (.bl _) s1 c1⟩
theorem W.ite {t : TT} {ta tb : TE} (h : WT K E t ρ M (fun b M1 => (b = true → W K E ta ρ M1 Φ Ψ) ∧ (b = false → W K E tb ρ M1 Φ Ψ)) Ψ) : W K E (tIf t ta tb) ρ M Φ Ψ := fun σ F H Mf Q e s k q =>
  h σ F H Mf _ e s k fun b F1 H1 M1 h1 s1 c1 => by
    cases b with
    | true =>
      refine h1.1 rfl σ F1 H1 Mf _ (e.mono s1) c1 (k.mono s1) (Kont.mono q s1)
    | false =>
      refine h1.2 rfl σ F1 H1 Mf _ (e.mono s1) c1 (k.mono s1) (Kont.mono q s1)

/-! ### statements -/
variable {d : DD}
theorem WS.next (h : d.nx ρ M) : WS K E tNext ρ M d Ψ := fun σ F H Mf e a s k q => q.nx σ ρ F H M h a (Same.refl _) s
theorem WS.seq {t u : TS} (h : WS K E t ρ M { d with nx := fun ρ1 M1 => WS K E u ρ1 M1 d Ψ } Ψ) : WS K E (tSeq t u) ρ M d Ψ := fun σ F H Mf e a s k q =>
  h σ F H Mf _ a s k ⟨fun σ1 ρ1 F1 H1 M1 h1 a1 s1 c1 => h1 σ1 F1 H1 Mf e a1 c1 (k.mono s1) (q.mono s1), q.rt, q.bk, q.ct⟩
theorem WS.asg {te : TE} {g : TG} (h : W K E te ρ M (fun x M1 => WG K E g x ρ M1 d.nx Ψ) Ψ) : WS K E (tAsg te g) ρ M d Ψ := fun σ F H Mf e a s k q =>
  h σ F H Mf _ a s k fun v x F1 H1 M1 h1 r1 s1 c1 => h1 σ F1 H1 Mf v _ r1 (a.mono s1) c1 (k.mono s1) fun σ2 ρ2 F2 H2 M2 h2 a2 s2 c2 => q.nx σ2 ρ2 F2 H2 M2 h2 a2 (s1.trans s2) c2
theorem WG.name {i : Nat} {x : D} {Θ : Env3 → Mem → Prop} (h : Θ (ρ.set i (some x)) M) : WG K E (gName i) x ρ M Θ Ψ := fun σ F H Mf v Q r a s k q => q _ _ F H M h (a.set r i) (Same.refl _) s
theorem WG.tup {n : Nat} {t : TGs} {xs : List D} {Θ : Env3 → Mem → Prop} (hl : xs.length = n) (h : WGs K E t xs ρ M Θ Ψ) : WG K E (gTup K n t) (.tup xs) ρ M Θ Ψ := fun σ F H Mf v Q r a s k q => by
  cases r with
  | tup hs rs =>
    exact ⟨_, _, rfl, sqt_mono s.sub hs, rs.len.trans hl, h σ F H Mf _ Q rs a s k q⟩
theorem WG.lst {n : Nat} {t : TGs} {xs : List D} {Θ : Env3 → Mem → Prop} (hl : xs.length = n) (h : WGs K E t xs ρ M Θ Ψ) : WG K E (gLst K n t) (.lst xs) ρ M Θ Ψ := fun σ F H Mf v Q r a s k q => by
  cases r with
  | lst hs rs =>
    exact ⟨_, _, rfl, .inl (.inl (s.sub _ _ hs)), rs.len.trans hl, h σ F H Mf _ Q rs a s k q⟩
theorem WGs.nil {Θ : Env3 → Mem → Prop} (h : Θ ρ M) : WGs K E gNil [] ρ M Θ Ψ := fun σ F H Mf vs Q r a s k q => by
  cases r
  exact ⟨rfl, q σ ρ F H M h a (Same.refl _) s⟩
theorem WGs.cons {g : TG} {u : TGs} {x : D} {xs : List D} {Θ : Env3 → Mem → Prop} (h : WG K E g x ρ M (fun ρ1 M1 => WGs K E u xs ρ1 M1 Θ Ψ) Ψ) : WGs K E (gCons g u) (x :: xs) ρ M Θ Ψ := fun σ F H Mf vs Q r a s k q => by
  cases r with
  | cons r rr =>
    exact ⟨_, _, rfl, h σ F H Mf _ _ r a s k fun σ1 ρ1 F1 H1 M1 h1 a1 s1 c1 => h1 σ1 F1 H1 Mf _ _ (rr.mono s1) a1 c1 (k.mono s1) fun σ2 ρ2 F2 H2 M2 h2 a2 s2 c2 => q σ2 ρ2 F2 H2 M2 h2 a2 (s1.trans s2) c2⟩
theorem WS.aug {i : Nat} {te : TE} {ti : TIp} {x : D} (h0 : ρ[i]? = some (some x)) (h : W K E te ρ M (fun y M1 => OpD K ti x y M1 (fun z M2 => d.nx (ρ.set i (some z)) M2)) Ψ) : WS K E (tAug i te ti) ρ M d Ψ := fun σ F H Mf e a s k q => by
  obtain ⟨v, h1, h2⟩ := a.get h0
  exact ⟨v, h1, h σ F H Mf _ a s k fun u y F1 H1 M1 g1 r1 s1 c1 => g1 F1 H1 Mf v u _ (h2.mono s1) r1 c1 fun w z F2 H2 M2 g2 r2 s2 c2 => q.nx _ _ F2 H2 M2 g2 ((a.mono (s1.trans s2)).set r2 i) (s1.trans s2) c2⟩
theorem WS.ret {te : TE} (h : W K E te ρ M d.rt Ψ) : WS K E (tRet te) ρ M d Ψ := fun σ F H Mf e a s k q => h σ F H Mf _ a s k fun v x F1 H1 M1 h1 r1 s1 c1 => q.rt v x F1 H1 M1 h1 r1 s1 c1
theorem WS.retN (h : d.rt .non M) : WS K E tRetN ρ M d Ψ := fun σ F H Mf e a s k q => q.rt _ _ F H M h .non (Same.refl _) s
theorem WS.drop {te : TE} (h : W K E te ρ M (fun _ M1 => d.nx ρ M1) Ψ) : WS K E (tDrop te) ρ M d Ψ := fun σ F H Mf e a s k q => h σ F H Mf _ a s k fun v x F1 H1 M1 h1 r1 s1 c1 => q.nx σ ρ F1 H1 M1 h1 (a.mono s1) s1 c1
theorem WS.ite {c : TT} {t u : TS} (h : WT K E c ρ M (fun b M1 => (b = true → WS K E t ρ M1 d Ψ) ∧ (b = false → WS K E u ρ M1 d Ψ)) Ψ) : WS K E (tIfS c t u) ρ M d Ψ := fun σ F H Mf e a s k q =>
  h σ F H Mf _ a s k fun b F1 H1 M1 h1 s1 c1 => by
    cases b with
    | true => exact h1.1 rfl σ F1 H1 Mf e (a.mono s1) c1 (k.mono s1) (q.mono s1)
    | false => exact h1.2 rfl σ F1 H1 Mf e (a.mono s1) c1 (k.mono s1) (q.mono s1)
theorem WS.brk (h : d.bk ρ M) : WS K E tBreak ρ M d Ψ := fun σ F H Mf e a s k q => q.bk σ ρ F H M h a (Same.refl _) s
theorem WS.cnt (h : d.ct ρ M) : WS K E tCont ρ M d Ψ := fun σ F H Mf e a s k q => q.ct σ ρ F H M h a (Same.refl _) s
/-- the order of the cells is nothing -/
theorem WS.perm {t : TS} {M' : Mem} (hp : M.Perm M') (h : WS K E t ρ M' d Ψ) : WS K E t ρ M d Ψ := fun σ F H Mf e a s k q => h σ F H Mf e a (s.perm (hp.append_right Mf)) k q
theorem W.perm {t : TE} {M' : Mem} (hp : M.Perm M') (h : W K E t ρ M' Φ Ψ) : W K E t ρ M Φ Ψ := fun σ F H Mf e a s k q => h σ F H Mf e a (s.perm (hp.append_right Mf)) k q
/-- cells are forgotten -/
theorem WS.forget {t : TS} {A : Mem} (h : WS K E t ρ M d Ψ) : WS K E t ρ (A ++ M) d Ψ := fun σ F H Mf e a s k q => h σ F H Mf e a (StC.dropM (A := A) (by rw [← List.append_assoc]; exact s)) k q

/-! ### calls -/
abbrev SpD := List D → Mem → (D → Mem → Prop) → (Ex → Mem → Prop) → Prop
def lift (K : PySem.W.Frag) (sp : SpD) : Sp := fun vs H Q E => ∃ xs F M Mf Φ Ψ, RDs K F vs xs ∧ StC K F H (M ++ Mf) ∧ sp xs M Φ Ψ ∧ Kont K F Mf Φ Q ∧
  ∀ x M' F' H' cls d, Ψ x M' → Same F F' → StC K F' H' (M' ++ Mf) → ExR K F' H' cls d x → E cls d H'
theorem perm_fr {M M1 M2 Mf : Mem} (h : M.Perm (M1 ++ M2)) : (M ++ Mf).Perm (M1 ++ (M2 ++ Mf)) := by
  rw [← List.append_assoc]
  exact h.append_right Mf
theorem W.call {sp : SpD} {t : TA} (h : WA K E t ρ M (fun xs M1 => ∃ Mc Mr, M1.Perm (Mc ++ Mr) ∧ sp xs Mc (fun x Mc' => Φ x (Mc' ++ Mr)) (fun x Mc' => Ψ x ρ (Mc' ++ Mr))) Ψ) : W K E (tCallSD (lift K sp) [] (WE E) t) ρ M Φ Ψ := fun σ F H Mf Q e s k q =>
  h σ F H Mf _ e s k fun vs xs F1 H1 M1 ⟨Mc, Mr, hp, hs⟩ r1 s1 c1 => by
    rw [List.append_nil]
    exact ⟨xs, F1, Mc, Mr ++ Mf, _, _, r1, c1.perm (perm_fr hp), hs, fun v x F2 H2 M2 h2 r2 s2 c2 => q v x F2 H2 (M2 ++ Mr) h2 r2 (s1.trans s2) (by rw [List.append_assoc]; exact c2),
      fun x M2 F2 H2 cls d h2 s2 c2 er => k x ρ (M2 ++ Mr) F2 H2 σ cls d h2 (e.mono (s1.trans s2)) (s1.trans s2) (by rw [List.append_assoc]; exact c2) er⟩
/-- a call that needs no cell -/
theorem W.callP {sp : SpD} {t : TA} (h : WA K E t ρ M (fun xs M1 => sp xs [] (fun x Mc' => Φ x (Mc' ++ M1)) (fun x Mc' => Ψ x ρ (Mc' ++ M1))) Ψ) : W K E (tCallSD (lift K sp) [] (WE E) t) ρ M Φ Ψ :=
  W.call fun σ F H Mf Q e s k q => h σ F H Mf Q e s k fun vs xs F' H' M' p => q vs xs F' H' M' ⟨[], M', .refl _, p⟩
/-- a def's body -/
def SpLen (sp : SpD) (n : Nat) : Prop := ∀ xs M Φ Ψ, sp xs M Φ Ψ → xs.length = n
theorem start_env {F : Hp} {N : List Str} {vs : List V} {xs : List D} (r : RDs K F vs xs) : EnvR K F (L2.start N vs) (xs.map some ++ List.replicate (N.length - xs.length) none) := by
  unfold L2.start
  rw [r.len]
  have h1 : ∀ {vs : List V} {xs : List D}, RDs K F vs xs → EnvR K F (vs.map some) (xs.map some) := by
    intro vs xs r
    induction xs generalizing vs with
    | nil => cases r; exact .nil
    | cons x xs ih =>
      cases r with
      | cons r rr => exact .cons ⟨_, rfl, r⟩ (ih rr)
  have h2 : ∀ n, EnvR K F (List.replicate n none) (List.replicate n none) := by
    intro n
    induction n with
    | zero => exact .nil
    | succ n ih => exact .cons True.intro ih
  have h3 : ∀ {a b : L2.St} {c d : Env3}, EnvR K F a c → EnvR K F b d → EnvR K F (a ++ b) (c ++ d) := by
    intro a b c d ha hb
    induction ha with
    | nil => exact hb
    | cons r _ ih => exact .cons r ih
  exact h3 (h1 r) (h2 _)
theorem def_ok {P : Program} {w : World} {mg : Str → Option Value} {base : Heap} {x qual : Str} {st : Stmt} {f : Addr} {fd : FuncData} {N ps : List Str} {k : Nat} {sp : SpD} (Fn : Fun K x qual st f fd) (S : FnScope N ps (defScope st)) (hl : SpLen sp ps.length)
    (hb : ∀ (cdv : Value) (A : Around) (outer : List Env) (s : Shared) (H : Hp) (E : XK), Room k (A.deeper (PyProof.Rows.envOfC qual (defScope st) s.heap.objs.size f cdv)) →
      ∃ t, PSs (cxOf (L2.CX P w) P w K mg base N qual (defScope st) f cdv A outer s H E) (defBody st) t ∧ ∀ xs M Φ Ψ, sp xs M Φ Ψ → WS K (fun cls d _ H => E cls d H) t (xs.map some ++ List.replicate (N.length - xs.length) none) M ⟨fun _ M' => Φ .non M', Φ, fun _ _ => False, fun _ _ => False⟩ (fun x _ M' => Ψ x M')) :
    FnOk P w K mg base (L2.CX P w) (k + 1) f fd ps (lift K sp) := by
  refine Fn.okX S (fun vs H Q E h => ?_) (fun cdv A outer s H vs Q E hr h => ?_)
  · obtain ⟨xs, F, M, Mf, Φ, Ψ, r, _, h, _⟩ := h
    exact r.len.trans (hl _ _ _ _ h)
  · obtain ⟨t, ht, hw⟩ := hb cdv A outer s H E hr
    refine ⟨t, ht, ?_⟩
    obtain ⟨xs, F, M, Mf, Φ, Ψ, r, c, h, kn, ke⟩ := h
    exact hw xs M Φ Ψ h (L2.start N vs) F H Mf _ (start_env r) c (fun x ρ M' F' H' σ cls d p _ s' c' er => ke x M' F' H' cls d p s' c' er)
      ⟨fun σ ρ F' H' M' p _ s' c' => kn _ _ F' H' M' p .non s' c', fun v x F' H' M' p r' s' c' => kn v x F' H' M' p r' s' c', fun _ _ _ _ _ p => p.elim, fun _ _ _ _ _ p => p.elim⟩
end
end L3

namespace L3
open PySem PySem.Spec L2

/-! ### what is read as a row of items -/
inductive Seq (M : Mem) : D → List D → Prop
  | lst (xs : List D) : Seq M (.lst xs) xs
  | tup (xs : List D) : Seq M (.tup xs) xs
  | own {p : Addr} {xs : List D} (h : (p, O.lst xs) ∈ M) : Seq M (.ref p) xs
  | scr (ns : List Int) : Seq M (.scr ns) (ns.map .int)
section
variable {K : PySem.W.Frag} {F H : Hp} {M Mf : Mem} {v : V} {x : D} {xs : List D}
theorem own_lst {p : Addr} (s : StC K F H (M ++ Mf)) (h : (p, O.lst xs) ∈ M) : ∃ vs, H p = some (.lst vs) ∧ RDs K F vs xs := by
  obtain ⟨n, ho, e, r⟩ := s.own p _ (List.mem_append_left _ h)
  cases ho with
  | lst vs => exact ⟨vs, e, r⟩
  | _ => exact absurd r (by intro z; exact z)
theorem own_dct {p : Addr} {ks : List (Key × D)} (s : StC K F H (M ++ Mf)) (h : (p, O.dct ks) ∈ M) : ∃ kvs, H p = some (.dK kvs) ∧ Paired (RK K F) kvs ks := by
  obtain ⟨n, ho, e, r⟩ := s.own p _ (List.mem_append_left _ h)
  cases ho with
  | dK kvs => exact ⟨kvs, e, r⟩
  | _ => exact absurd r (by intro z; exact z)
theorem own_ins {p C dx : Addr} {gs : List (Str × D)} (s : StC K F H (M ++ Mf)) (h : (p, O.ins C dx gs) ∈ M) : ∃ fs, H p = some (.ins C dx fs) ∧ RDf K F fs gs := by
  obtain ⟨n, ho, e, r⟩ := s.own p _ (List.mem_append_left _ h)
  cases ho with
  | ins C' dx' fs =>
    obtain ⟨rfl, rfl, r⟩ := r
    exact ⟨fs, e, r⟩
  | _ => exact absurd r (by intro z; exact z)
theorem Seq.vv (q : Seq M x xs) (r : RD K F v x) (s : StC K F H (M ++ Mf)) : ∃ a vs, v = .ref a ∧ (SqL K H a vs ∨ SqT K H a vs) ∧ RDs K F vs xs := by
  cases q with
  | lst =>
    cases r with
    | lst h rs => exact ⟨_, _, rfl, .inl (.inl (.inl (s.sub _ _ h))), rs⟩
  | tup =>
    cases r with
    | tup h rs => exact ⟨_, _, rfl, .inr (sqt_mono s.sub h), rs⟩
  | own h =>
    cases r
    obtain ⟨vs, e, r⟩ := own_lst s h
    exact ⟨_, vs, rfl, .inl (.inl (.inl e)), r⟩
  | scr ns =>
    cases r with
    | scr h => exact ⟨_, _, rfl, .inl (Same.seq s.sub h), RDs.ints⟩
end

/-! ### data for == -/
mutual
def D.pl : D → Bool
  | .non => true
  | .bl _ => true
  | .int _ => true
  | .str x => PySem.PyData.strOk x
  | .lst xs => D.plL xs
  | .tup xs => D.plL xs
  | _ => false
def D.plL : List D → Bool
  | [] => true
  | x :: xs => x.pl && D.plL xs
end
mutual
def D.py : D → PyData
  | .non => .none
  | .bl b => .bool b
  | .int i => .int i
  | .str x => .str x
  | .lst xs => .list (D.pyL xs)
  | .tup xs => .tuple (D.pyL xs)
  | _ => .none
def D.pyL : List D → List PyData
  | [] => []
  | x :: xs => x.py :: D.pyL xs
end
/-! nesting below n -/
mutual
def D.dp : D → Nat → Bool
  | .lst xs, n + 1 => D.dpL xs n
  | .tup xs, n + 1 => D.dpL xs n
  | .lst _, 0 => false
  | .tup _, 0 => false
  | _, _ => true
def D.dpL : List D → Nat → Bool
  | [], _ => true
  | x :: xs, n => x.dp n && D.dpL xs n
end
section
variable {K : PySem.W.Frag} {F : Hp}
mutual
theorem RD.toDp : ∀ {d : D} {v : V}, d.pl = true → RD K F v d → Dp K F v d.py
  | .non, _, _, r => by cases r; exact .non
  | .bl b, _, _, r => by cases r; exact .bl b
  | .int i, _, _, r => by cases r; exact .int i
  | .str x, _, _, r => by cases r; exact .str x
  | .ty _, _, h, _ => by simp [D.pl] at h
  | .ref _, _, h, _ => by simp [D.pl] at h
  | .ob _ _, _, h, _ => by simp [D.pl] at h
  | .scr _, _, h, _ => by simp [D.pl] at h
  | .lst xs, _, h, r => by
    cases r with
    | lst e rs => exact .lst (.inl (.inl e)) (RDs.toDp (by simpa [D.pl] using h) rs)
  | .tup xs, _, h, r => by
    cases r with
    | tup e rs => exact .tup e (RDs.toDp (by simpa [D.pl] using h) rs)
theorem RDs.toDp : ∀ {d : List D} {v : List V}, D.plL d = true → RDs K F v d → DpAll K F v (D.pyL d)
  | [], _, _, r => by cases r; exact .nil
  | x :: xs, _, h, r => by
    cases r with
    | cons r rr =>
      have h' : x.pl = true ∧ D.plL xs = true := by simpa [D.plL] using h
      exact .cons (RD.toDp h'.1 r) (RDs.toDp h'.2 rr)
end
mutual
theorem D.canLay : ∀ {d : D}, d.pl = true → d.py.canLay0 = true
  | .non, _ => by simp [D.py, PyData.canLay0]
  | .bl b, _ => by simp [D.py, PyData.canLay0]
  | .int i, _ => by simp [D.py, PyData.canLay0]
  | .str x, h => by simpa [D.py, PyData.canLay0, D.pl] using h
  | .ty _, h => by simp [D.pl] at h
  | .ref _, h => by simp [D.pl] at h
  | .ob _ _, h => by simp [D.pl] at h
  | .scr _, h => by simp [D.pl] at h
  | .lst xs, h => by
    have := D.canLayL (d := xs) (by simpa [D.pl] using h)
    simpa [D.py, PyData.canLay0] using this
  | .tup xs, h => by
    have := D.canLayL (d := xs) (by simpa [D.pl] using h)
    simpa [D.py, PyData.canLay0] using this
theorem D.canLayL : ∀ {d : List D}, D.plL d = true → PyData.canLayAll0 (D.pyL d) = true
  | [], _ => by simp [D.pyL, PyData.canLayAll0]
  | x :: xs, h => by
    have h' : x.pl = true ∧ D.plL xs = true := by simpa [D.plL] using h
    simp [D.pyL, PyData.canLayAll0, D.canLay h'.1, D.canLayL h'.2]
end
mutual
theorem D.depth_le : ∀ {d : D} {n : Nat}, d.dp n = true → d.py.depth ≤ n
  | .non, _, _ => by simp [D.py, PyData.depth]
  | .bl b, _, _ => by simp [D.py, PyData.depth]
  | .int i, _, _ => by simp [D.py, PyData.depth]
  | .str x, _, _ => by simp [D.py, PyData.depth]
  | .ty _, _, _ => by simp [D.py, PyData.depth]
  | .ref _, _, _ => by simp [D.py, PyData.depth]
  | .ob _ _, _, _ => by simp [D.py, PyData.depth]
  | .scr _, _, _ => by simp [D.py, PyData.depth]
  | .lst xs, 0, h => by simp [D.dp] at h
  | .tup xs, 0, h => by simp [D.dp] at h
  | .lst xs, n + 1, h => by
    have := D.depth_leL (d := xs) (n := n) (by simpa [D.dp] using h)
    simp only [D.py, PyData.depth]
    omega
  | .tup xs, n + 1, h => by
    have := D.depth_leL (d := xs) (n := n) (by simpa [D.dp] using h)
    simp only [D.py, PyData.depth]
    omega
theorem D.depth_leL : ∀ {d : List D} {n : Nat}, D.dpL d n = true → PyData.depthAll (D.pyL d) ≤ n
  | [], _, _ => by simp [D.pyL, PyData.depthAll]
  | x :: xs, n, h => by
    have h' : x.dp n = true ∧ D.dpL xs n = true := by simpa [D.dpL] using h
    have h1 := D.depth_le h'.1
    have h2 := D.depth_leL h'.2
    simp only [D.pyL, PyData.depthAll]
    omega
end
end
/-- may be compared -/
def D.cm (d : D) : Bool := d.pl && d.dp 60
theorem D.cm_shaped {d : D} (h : d.cm = true) : SeqAt.shaped d.py = true := by
  have h' : d.pl = true ∧ d.dp 60 = true := by simpa [D.cm] using h
  have h1 := D.canLay h'.1
  have h2 := D.depth_le h'.2
  simp only [SeqAt.shaped, h1, Bool.true_and, decide_eq_true_eq]
  omega
def eqD (x y : D) : Bool := PyData.eqv x.py y.py
theorem eqD_refl {x : D} (h : x.pl = true) : eqD x x = true := PySem.SeqAt.eqv_refl _ (D.canLay h)

/-! ### operators -/
def rOr (r r' : R2) : R2 := fun x y H Q => r x y H Q ∨ r' x y H Q
section
variable {X : Cx}
theorem opOr {f : Value → Value → Sem Value} {r r' : R2} (h : OpR X f r) (h' : OpR X f r') : OpR X f (rOr r r') := fun pins s σ H x y v u Q I rx ry q =>
  q.elim (h pins s σ H x y v u Q I rx ry) (h' pins s σ H x y v u Q I rx ry)
def rCatS : R2 := fun x y H Q => ∃ i j, x = .str i ∧ y = .str j ∧ i.length + j.length ≤ sizeLine ∧ Q (.str (i ++ j)) H
def oAdd (K : PySem.W.Frag) : R2 := rOr (rI0 fun i j => .int (i + j)) (rOr rCat (rOr (rCatT K) rCatS))
theorem q_add (K : PySem.W.Frag) (e : X.K = K := by rfl) : OpR X (binaryOp .Add) (oAdd K) := by subst e; exact opOr op_add (opOr op_cat (opOr op_catT op_add_str))
def oSub : R2 := rI0 fun i j => .int (i - j)
theorem q_sub : OpR X (binaryOp .Sub) oSub := op_sub
def oMul (K : PySem.W.Frag) : R2 := rOr (rI CMul fun i j => .int (i * j)) (rOr (rI CMulW fun i j => .int (i * j)) (rOr rRep (rRepT K)))
theorem q_mul (K : PySem.W.Frag) (e : X.K = K := by rfl) : OpR X (binaryOp .Mult) (oMul K) := by subst e; exact opOr op_mul (opOr op_mulW (opOr op_rep op_repT))
def oFdiv : R2 := rI CDivW fun i j => .int (i / j)
theorem q_fdiv : OpR X (binaryOp .FloorDiv) oFdiv := op_fdivW
theorem q_ifdiv : OpR X (inplaceOp .FloorDiv) oFdiv := iop_fdivW
def oMod : R2 := rI (fun _ j => 0 < j) fun i j => .int (i % j)
theorem q_mod : OpR X (binaryOp .Mod) oMod := op_mod
def oPow : R2 := rI CPow fun i j => .int (i ^ j.toNat)
theorem q_pow : OpR X (binaryOp .Pow) oPow := op_pow
def oIAdd : R2 := rI0 fun i j => .int (i + j)
theorem q_iadd : OpR X (inplaceOp .Add) oIAdd := iop_add
def oISub : R2 := rI0 fun i j => .int (i - j)
theorem q_isub : OpR X (inplaceOp .Sub) oISub := iop_sub
def oEq (K : PySem.W.Frag) : R2 := rEqD K
theorem q_eq (K : PySem.W.Frag) (hu : X.A.units + 64 < cLine) (e : X.K = K := by rfl) : OpR X (compareOp .Eq) (oEq K) := by subst e; exact op_eqD hu
def oNe (K : PySem.W.Frag) : R2 := rNeD K
theorem q_ne (K : PySem.W.Frag) (hu : X.A.units + 64 < cLine) (e : X.K = K := by rfl) : OpR X (compareOp .NotEq) (oNe K) := by subst e; exact op_neD hu
def oLt : R2 := rI0 fun i j => .bl (decide (i < j))
theorem q_lt : OpR X (compareOp .Lt) oLt := op_lt
def oLe : R2 := rI0 fun i j => .bl (decide (i ≤ j))
theorem q_le : OpR X (compareOp .LtE) oLe := op_le
def oGt : R2 := rI0 fun i j => .bl (decide (j < i))
theorem q_gt : OpR X (compareOp .Gt) oGt := op_gt
def oGe : R2 := rI0 fun i j => .bl (decide (j ≤ i))
theorem q_ge : OpR X (compareOp .GtE) oGe := op_ge
def oIs : R2 := fun x y H Q => y = .non ∧ Q (.bl (decide (x = .non))) H
theorem q_is : OpR X (compareOp .Is) oIs := op_isN
def oIsNot : R2 := fun x y H Q => y = .non ∧ Q (.bl (!decide (x = .non))) H
theorem q_isnot : OpR X (compareOp .IsNot) oIsNot := op_notN
def uNeg : V → Hp → VK → Prop := rU fun i => .int (-i)
theorem q_neg : UnR X (unaryOp .USub) uNeg := un_neg
def oIx (K : PySem.W.Frag) : R2 := rIx K
theorem q_ix (K : PySem.W.Frag) (e : X.K = K := by rfl) : IxR X (oIx K) := by subst e; exact ix_seq
/-! ### built-ins -/
def cOr (r r' : List V → Hp → VK → Prop) : List V → Hp → VK → Prop := fun xs H Q => r xs H Q ∨ r' xs H Q
def cLen (K : PySem.W.Frag) : List V → Hp → VK → Prop := fun xs H Q => ∃ x n, xs = [x] ∧ LenV K x H n ∧ Q (.int n) H
theorem q_len (K : PySem.W.Frag) (e : X.K = K := by rfl) : CallR X (.builtin "len") (cLen K) := by subst e; exact call_len
def cAbs : List V → Hp → VK → Prop := fun xs H Q => ∃ i, xs = [.int i] ∧ Q (.int (if i < 0 then -i else i)) H
theorem q_abs : CallR X (.builtin "abs") cAbs := call_abs
def cMax (K : PySem.W.Frag) : List V → Hp → VK → Prop := cOr (fun xs H Q => ∃ i j, xs = [.int i, .int j] ∧ Q (.int (if j > i then j else i)) H) (rMax K)
theorem q_max (K : PySem.W.Frag) (hc : X.calm = true) (e : X.K = K := by rfl) : CallR X (.builtin "max") (cMax K) := by subst e; exact CallR.or (call_max2 hc) (cr_max hc)
def cMin (K : PySem.W.Frag) : List V → Hp → VK → Prop := cOr (fun xs H Q => ∃ i j, xs = [.int i, .int j] ∧ Q (.int (if j < i then j else i)) H) (rMin K)
theorem q_min (K : PySem.W.Frag) (hc : X.calm = true) (e : X.K = K := by rfl) : CallR X (.builtin "min") (cMin K) := by subst e; exact CallR.or (call_min2 hc) (cr_min hc)
def cList (K : PySem.W.Frag) : List V → Hp → VK → Prop := fun xs H Q => ∃ p ys, xs = [.ref p] ∧ (SqL K H p ys ∨ SqT K H p ys) ∧ ∀ l, H l = none → Q (.ref l) (upd H l (.lst ys))
theorem q_list (K : PySem.W.Frag) (e : X.K = K := by rfl) : CallR X (.type "list") (cList K) := by subst e; exact call_list_of
/-- list(x) as a cell of ours -/
def cListO (K : PySem.W.Frag) : List V → Hp → VK → Prop := cList K
theorem q_listO (K : PySem.W.Frag) (e : X.K = K := by rfl) : CallR X (.type "list") (cListO K) := by subst e; exact call_list_of
def cTuple (K : PySem.W.Frag) : List V → Hp → VK → Prop := fun xs H Q => ∃ p ys, xs = [.ref p] ∧ ((SqL K H p ys ∧ ∀ l, H l = none → Q (.ref l) (upd H l (.tup ys))) ∨ (SqT K H p ys ∧ Q (.ref p) H))
theorem q_tuple (K : PySem.W.Frag) (e : X.K = K := by rfl) : CallR X (.type "tuple") (cTuple K) := by subst e; exact call_tuple_of
def cSorted (K : PySem.W.Frag) : List V → Hp → VK → Prop := rSorted K
theorem q_sorted (K : PySem.W.Frag) (e : X.K = K := by rfl) : CallR X (.builtin "sorted") (cSorted K) := by subst e; exact cr_sorted
def cSum (K : PySem.W.Frag) : List V → Hp → VK → Prop := rSum K
theorem q_sum (K : PySem.W.Frag) (hc : X.calm = true) (e : X.K = K := by rfl) : CallR X (.builtin "sum") (cSum K) := by subst e; exact cr_sum hc
def cAny (K : PySem.W.Frag) : List V → Hp → VK → Prop := rAny K
theorem q_any (K : PySem.W.Frag) (hc : X.calm = true) (e : X.K = K := by rfl) : CallR X (.builtin "any") (cAny K) := by subst e; exact cr_any hc
def cAll (K : PySem.W.Frag) : List V → Hp → VK → Prop := rAll K
theorem q_all (K : PySem.W.Frag) (hc : X.calm = true) (e : X.K = K := by rfl) : CallR X (.builtin "all") (cAll K) := by subst e; exact cr_all hc
def cInt : List V → Hp → VK → Prop := fun xs H Q => (∃ i, xs = [.int i] ∧ Q (.int i) H) ∨ ∃ k, xs = [.bl k] ∧ Q (.int (if k then 1 else 0)) H
theorem q_int : CallR X (.type "int") cInt := call_int1
/-! ### methods -/
def mAppend : V → List V → Hp → VK → Prop := rAppend
theorem q_append : MtR X "list.append" mAppend := mt_append
end

section
variable {K : PySem.W.Frag} {M : Mem} {Φ : D → Mem → Prop}
theorem OpD.add_int {i j : Int} (h : Φ (.int (i + j)) M) : OpD K (oAdd K) (.int i) (.int j) M Φ := fun F H Mf v u Q r1 r2 s k => by
  cases r1; cases r2
  exact .inl ⟨i, j, rfl, rfl, k _ _ F H M h (.int _) (Same.refl _) s⟩
theorem OpD.add_lst {xs ys : List D} (hl : xs.length + ys.length ≤ sizeLine) (h : Φ (.lst (xs ++ ys)) M) : OpD K (oAdd K) (.lst xs) (.lst ys) M Φ := fun F H Mf v u Q r1 r2 s k => by
  cases r1 with
  | lst e1 q1 => cases r2 with
    | lst e2 q2 => exact .inr (.inl ⟨_, _, _, _, rfl, rfl, s.sub _ _ e1, s.sub _ _ e2, by rw [q1.len, q2.len]; exact hl, fun p hp => k _ _ _ _ M h (.lst upd_same ((q1.app q2).mono (s.sameF hp))) (s.sameF hp) (s.newF hp)⟩)
theorem OpD.add_own {p : Addr} {xs ys : List D} (hm : (p, O.lst xs) ∈ M) (hl : xs.length + ys.length ≤ sizeLine) (h : Φ (.lst (xs ++ ys)) M) : OpD K (oAdd K) (.ref p) (.lst ys) M Φ := fun F H Mf v u Q r1 r2 s k => by
  cases r1
  obtain ⟨vs, e1, q1⟩ := own_lst s hm
  cases r2 with
  | lst e2 q2 => exact .inr (.inl ⟨_, _, _, _, rfl, rfl, e1, s.sub _ _ e2, by rw [q1.len, q2.len]; exact hl, fun p hp => k _ _ _ _ M h (.lst upd_same ((q1.app q2).mono (s.sameF hp))) (s.sameF hp) (s.newF hp)⟩)
theorem OpD.add_tup {xs ys : List D} (h0 : xs ≠ []) (hl : xs.length + ys.length ≤ sizeLine) (h : Φ (.tup (xs ++ ys)) M) : OpD K (oAdd K) (.tup xs) (.tup ys) M Φ := fun F H Mf v u Q r1 r2 s k => by
  cases r1 with
  | tup e1 q1 => cases r2 with
    | tup e2 q2 =>
      refine .inr (.inr (.inl ⟨_, _, _, _, rfl, rfl, sqt_mono s.sub e1, sqt_mono s.sub e2, fun z => ?_, by rw [q1.len, q2.len]; exact hl, fun z => ?_, fun z p hp => k _ _ _ _ M h (.tup (.inl (.inl upd_same)) ((q1.app q2).mono (s.sameF hp))) (s.sameF hp) (s.newF hp)⟩))
      · subst z
        cases q1
        exact h0 rfl
      · subst z
        cases q2
        rw [List.append_nil] at h
        exact k _ _ F H M h (.tup e1 q1) (Same.refl _) s
theorem OpD.add_str {i j : Str} (hl : i.length + j.length ≤ sizeLine) (h : Φ (.str (i ++ j)) M) : OpD K (oAdd K) (.str i) (.str j) M Φ := fun F H Mf v u Q r1 r2 s k => by
  cases r1; cases r2
  exact .inr (.inr (.inr ⟨i, j, rfl, rfl, hl, k _ _ F H M h (.str _) (Same.refl _) s⟩))
theorem OpD.sub {i j : Int} (h : Φ (.int (i - j)) M) : OpD K oSub (.int i) (.int j) M Φ := fun F H Mf v u Q r1 r2 s k => by
  cases r1; cases r2
  exact ⟨i, j, rfl, rfl, k _ _ F H M h (.int _) (Same.refl _) s⟩
theorem OpD.mul {i j : Int} (hc : CMul i j ∨ CMulW i j) (h : Φ (.int (i * j)) M) : OpD K (oMul K) (.int i) (.int j) M Φ := fun F H Mf v u Q r1 r2 s k => by
  cases r1; cases r2
  rcases hc with hc | hc
  · exact .inl ⟨i, j, rfl, rfl, hc, k _ _ F H M h (.int _) (Same.refl _) s⟩
  · exact .inr (.inl ⟨i, j, rfl, rfl, hc, k _ _ F H M h (.int _) (Same.refl _) s⟩)
theorem OpD.rep {xs : List D} {n : Int} (h1 : -(2 ^ 63) ≤ n) (h2 : n < 2 ^ 63) (hl : xs.length * n.toNat ≤ sizeLine) (h : Φ (.lst (List.replicate n.toNat xs).flatten) M) : OpD K (oMul K) (.lst xs) (.int n) M Φ := fun F H Mf v u Q r1 r2 s k => by
  cases r2
  cases r1 with
  | lst e1 q1 => exact .inr (.inr (.inl ⟨_, n, _, rfl, rfl, s.sub _ _ e1, h1, h2, by rw [q1.len]; exact hl, fun p hp => k _ _ _ _ M h (.lst upd_same ((q1.rep _).mono (s.sameF hp))) (s.sameF hp) (s.newF hp)⟩))
theorem OpD.repT {xs : List D} {n : Int} (h0 : xs ≠ []) (h1 : 2 ≤ n) (h2 : n ≤ 1000) (hl : xs.length ≤ 1000) (h : Φ (.tup (List.replicate n.toNat xs).flatten) M) : OpD K (oMul K) (.tup xs) (.int n) M Φ := fun F H Mf v u Q r1 r2 s k => by
  cases r2
  cases r1 with
  | tup e1 q1 => exact .inr (.inr (.inr ⟨_, n, _, rfl, rfl, sqt_mono s.sub e1, fun z => by subst z; cases q1; exact h0 rfl, h1, h2, by rw [q1.len]; exact hl, fun p hp => k _ _ _ _ M h (.tup (.inl (.inl upd_same)) ((q1.rep _).mono (s.sameF hp))) (s.sameF hp) (s.newF hp)⟩))
theorem OpD.fdiv {i j : Int} (hc : CDivW i j) (h : Φ (.int (i / j)) M) : OpD K oFdiv (.int i) (.int j) M Φ := fun F H Mf v u Q r1 r2 s k => by
  cases r1; cases r2
  exact ⟨i, j, rfl, rfl, hc, k _ _ F H M h (.int _) (Same.refl _) s⟩
theorem OpD.mod {i j : Int} (hc : 0 < j) (h : Φ (.int (i % j)) M) : OpD K oMod (.int i) (.int j) M Φ := fun F H Mf v u Q r1 r2 s k => by
  cases r1; cases r2
  exact ⟨i, j, rfl, rfl, hc, k _ _ F H M h (.int _) (Same.refl _) s⟩
theorem OpD.pow {i j : Int} (hc : CPow i j) (h : Φ (.int (i ^ j.toNat)) M) : OpD K oPow (.int i) (.int j) M Φ := fun F H Mf v u Q r1 r2 s k => by
  cases r1; cases r2
  exact ⟨i, j, rfl, rfl, hc, k _ _ F H M h (.int _) (Same.refl _) s⟩
theorem OpD.iadd {i j : Int} (h : Φ (.int (i + j)) M) : OpD K oIAdd (.int i) (.int j) M Φ := fun F H Mf v u Q r1 r2 s k => by
  cases r1; cases r2
  exact ⟨i, j, rfl, rfl, k _ _ F H M h (.int _) (Same.refl _) s⟩
theorem OpD.isub {i j : Int} (h : Φ (.int (i - j)) M) : OpD K oISub (.int i) (.int j) M Φ := fun F H Mf v u Q r1 r2 s k => by
  cases r1; cases r2
  exact ⟨i, j, rfl, rfl, k _ _ F H M h (.int _) (Same.refl _) s⟩
theorem OpD.lt {i j : Int} (h : Φ (.bl (decide (i < j))) M) : OpD K oLt (.int i) (.int j) M Φ := fun F H Mf v u Q r1 r2 s k => by
  cases r1; cases r2
  exact ⟨i, j, rfl, rfl, k _ _ F H M h (.bl _) (Same.refl _) s⟩
theorem OpD.le {i j : Int} (h : Φ (.bl (decide (i ≤ j))) M) : OpD K oLe (.int i) (.int j) M Φ := fun F H Mf v u Q r1 r2 s k => by
  cases r1; cases r2
  exact ⟨i, j, rfl, rfl, k _ _ F H M h (.bl _) (Same.refl _) s⟩
theorem OpD.gt {i j : Int} (h : Φ (.bl (decide (j < i))) M) : OpD K oGt (.int i) (.int j) M Φ := fun F H Mf v u Q r1 r2 s k => by
  cases r1; cases r2
  exact ⟨i, j, rfl, rfl, k _ _ F H M h (.bl _) (Same.refl _) s⟩
theorem OpD.ge {i j : Int} (h : Φ (.bl (decide (j ≤ i))) M) : OpD K oGe (.int i) (.int j) M Φ := fun F H Mf v u Q r1 r2 s k => by
  cases r1; cases r2
  exact ⟨i, j, rfl, rfl, k _ _ F H M h (.bl _) (Same.refl _) s⟩
mutual
theorem dp_mono {F F' : Hp} (e : Same F F') : ∀ {v : V} {d : PyData}, Dp K F v d → Dp K F' v d
  | _, _, .non => .non
  | _, _, .bl b => .bl b
  | _, _, .int b => .int b
  | _, _, .str b => .str b
  | _, _, .lst h r => .lst (Same.seq e h) (dps_mono e r)
  | _, _, .tup h r => .tup (sqt_mono e h) (dps_mono e r)
theorem dps_mono {F F' : Hp} (e : Same F F') : ∀ {v : List V} {d : List PyData}, DpAll K F v d → DpAll K F' v d
  | _, _, .nil => .nil
  | _, _, .cons h r => .cons (dp_mono e h) (dps_mono e r)
end
/-- what may be compared, an own list too -/
inductive Cmp (M : Mem) : D → D → Prop
  | self {x : D} : Cmp M x x
  | own {p : Addr} {xs : List D} (h : (p, O.lst xs) ∈ M) : Cmp M (.ref p) (.lst xs)
theorem Cmp.dp {F H : Hp} {Mf : Mem} {v : V} {x y : D} (c : Cmp M x y) (hy : y.cm = true) (r : RD K F v x) (s : StC K F H (M ++ Mf)) : Dp K H v y.py := by
  have hp : y.pl = true := by
    have : y.pl = true ∧ y.dp 60 = true := by simpa [D.cm] using hy
    exact this.1
  cases c with
  | self => exact dp_mono s.sub (r.toDp hp)
  | own h =>
    cases r
    obtain ⟨vs, e, q⟩ := own_lst s h
    exact .lst (.inl (.inl e)) (dps_mono s.sub (q.toDp (by simpa [D.pl] using hp)))
theorem OpD.eq' {x y x' y' : D} (cx : Cmp M x x') (cy : Cmp M y y') (hx : x'.cm = true) (hy : y'.cm = true) (h : Φ (.bl (eqD x' y')) M) : OpD K (oEq K) x y M Φ := fun F H Mf v u Q r1 r2 s k =>
  ⟨x'.py, y'.py, cx.dp hx r1 s, cy.dp hy r2 s, D.cm_shaped hx, D.cm_shaped hy, k _ _ F H M h (.bl _) (Same.refl _) s⟩
theorem OpD.ne' {x y x' y' : D} (cx : Cmp M x x') (cy : Cmp M y y') (hx : x'.cm = true) (hy : y'.cm = true) (h : Φ (.bl (!eqD x' y')) M) : OpD K (oNe K) x y M Φ := fun F H Mf v u Q r1 r2 s k =>
  ⟨x'.py, y'.py, cx.dp hx r1 s, cy.dp hy r2 s, D.cm_shaped hx, D.cm_shaped hy, k _ _ F H M h (.bl _) (Same.refl _) s⟩
theorem OpD.eq {x y : D} (hx : x.cm = true) (hy : y.cm = true) (h : Φ (.bl (eqD x y)) M) : OpD K (oEq K) x y M Φ := .eq' .self .self hx hy h
theorem OpD.ne {x y : D} (hx : x.cm = true) (hy : y.cm = true) (h : Φ (.bl (!eqD x y)) M) : OpD K (oNe K) x y M Φ := .ne' .self .self hx hy h
theorem OpD.eq_int {i j : Int} (h : Φ (.bl (decide (i = j))) M) : OpD K (oEq K) (.int i) (.int j) M Φ := by
  refine .eq rfl rfl ?_
  have e : eqD (.int i) (.int j) = decide (i = j) := by simp [eqD, D.py, PyData.eqv, Bool.beq_eq_decide_eq]
  rw [e]
  exact h
theorem OpD.ne_int {i j : Int} (h : Φ (.bl (!decide (i = j))) M) : OpD K (oNe K) (.int i) (.int j) M Φ := by
  refine .ne rfl rfl ?_
  have e : eqD (.int i) (.int j) = decide (i = j) := by simp [eqD, D.py, PyData.eqv, Bool.beq_eq_decide_eq]
  rw [e]
  exact h
def D.isN : D → Bool
  | .non => true
  | _ => false
theorem RD.isN {F : Hp} {v : V} {x : D} (r : RD K F v x) : decide (v = .non) = x.isN := by
  cases r <;> simp [D.isN]
theorem OpD.is {x : D} (h : Φ (.bl x.isN) M) : OpD K oIs x .non M Φ := fun F H Mf v u Q r1 r2 s k => by
  cases r2
  refine ⟨rfl, ?_⟩
  rw [r1.isN]
  exact k _ _ F H M h (.bl _) (Same.refl _) s
theorem OpD.isnot {x : D} (h : Φ (.bl (!x.isN)) M) : OpD K oIsNot x .non M Φ := fun F H Mf v u Q r1 r2 s k => by
  cases r2
  refine ⟨rfl, ?_⟩
  rw [r1.isN]
  exact k _ _ F H M h (.bl _) (Same.refl _) s
theorem UnD.neg {i : Int} (h : Φ (.int (-i)) M) : UnD K uNeg (.int i) M Φ := fun F H Mf v Q r s k => by
  cases r
  exact ⟨i, rfl, k _ _ F H M h (.int _) (Same.refl _) s⟩
theorem atI_of {α : Type} {xs : List α} {i : Int} {j : Nat} {y : α} (e : ixN xs.length i = some j) (h : xs[j]? = some y) : atI xs i = some y := by
  unfold atI
  rw [e]
  exact h
/-- x[i]: the place j -/
theorem OpD.ix {x y : D} {xs : List D} {i : Int} (j : Nat) (q : Seq M x xs) (hj : ixN xs.length i = some j) (hy : xs[j]? = some y) (h : Φ y M) : OpD K (oIx K) x (.int i) M Φ := fun F H Mf v u Q r1 r2 s k => by
  cases r2
  obtain ⟨a, vs, rfl, hq, rs⟩ := q.vv r1 s
  obtain ⟨w, hw, rw'⟩ := rs.get hy
  have ha : atI vs i = some w := atI_of (by rw [rs.len]; exact hj) hw
  rcases hq with hq | hq
  · exact .inl ⟨a, vs, i, w, rfl, rfl, hq, ha, k _ _ F H M h rw' (Same.refl _) s⟩
  · exact .inr (.inl ⟨a, vs, i, w, rfl, rfl, hq, ha, k _ _ F H M h rw' (Same.refl _) s⟩)
theorem ixN_nat {n : Nat} {i : Int} (h0 : 0 ≤ i) (h : i < n) : ixN n i = some i.toNat := by
  unfold ixN
  rw [if_pos h0, if_pos h]
theorem OpD.ixN {x y : D} {xs : List D} {i : Int} (q : Seq M x xs) (h0 : 0 ≤ i) (hy : xs[i.toNat]? = some y) (h : Φ y M) : OpD K (oIx K) x (.int i) M Φ :=
  .ix i.toNat q (ixN_nat h0 (by have := (List.getElem?_eq_some_iff.mp hy).1; omega)) hy h
theorem CbD.len {x : D} {xs : List D} (q : Seq M x xs) (h : Φ (.int xs.length) M) : CbD K (cLen K) [x] M Φ := fun F H Mf vs Q r s k => by
  cases r with
  | cons r rr =>
    cases rr
    obtain ⟨a, ws, rfl, hq, rs⟩ := q.vv r s
    refine ⟨_, _, rfl, ?_, k _ _ F H M h (.int _) (Same.refl _) s⟩
    rcases hq with hq | hq
    · exact .inl ⟨ws, hq, rs.len.symm⟩
    · exact .inr ⟨ws, hq, rs.len.symm⟩
theorem CbD.lenS {x : Str} (hl : x.length ≤ sizeLine) (h : Φ (.int x.length) M) : CbD K (cLen K) [.str x] M Φ := fun F H Mf vs Q r s k => by
  cases r with
  | cons r rr =>
    cases rr
    cases r
    exact ⟨_, _, rfl, ⟨hl, rfl⟩, k _ _ F H M h (.int _) (Same.refl _) s⟩
theorem CbD.abs {i : Int} (h : Φ (.int (if i < 0 then -i else i)) M) : CbD K cAbs [.int i] M Φ := fun F H Mf vs Q r s k => by
  cases r with
  | cons r rr =>
    cases rr
    cases r
    exact ⟨_, rfl, k _ _ F H M h (.int _) (Same.refl _) s⟩
theorem CbD.max2 {i j : Int} (h : Φ (.int (if j > i then j else i)) M) : CbD K (cMax K) [.int i, .int j] M Φ := fun F H Mf vs Q r s k => by
  cases r with
  | cons r rr => cases rr with
    | cons r2 rr =>
      cases rr
      cases r
      cases r2
      exact .inl ⟨_, _, rfl, k _ _ F H M h (.int _) (Same.refl _) s⟩
theorem CbD.min2 {i j : Int} (h : Φ (.int (if j < i then j else i)) M) : CbD K (cMin K) [.int i, .int j] M Φ := fun F H Mf vs Q r s k => by
  cases r with
  | cons r rr => cases rr with
    | cons r2 rr =>
      cases rr
      cases r
      cases r2
      exact .inl ⟨_, _, rfl, k _ _ F H M h (.int _) (Same.refl _) s⟩
theorem seq_ints {F H : Hp} {Mf : Mem} {v : V} {ns : List Int} (r : RD K F v (.lst (ns.map D.int))) (s : StC K F H (M ++ Mf)) : ∃ a, v = .ref a ∧ SqL K H a (ns.map V.int) := by
  cases r with
  | lst e rs =>
    rw [RDs.ofInts rs] at e
    exact ⟨_, rfl, .inl (.inl (s.sub _ _ e))⟩
theorem CbD.maxL {ns : List Int} (h0 : 0 < ns.length) (h : ∀ m, m ∈ ns → (∀ y, y ∈ ns → y ≤ m) → Φ (.int m) M) : CbD K (cMax K) [.lst (ns.map D.int)] M Φ := fun F H Mf vs Q r s k => by
  cases r with
  | cons r rr =>
    cases rr
    obtain ⟨a, rfl, hq⟩ := seq_ints r s
    exact .inr ⟨a, ns, rfl, hq, h0, fun m h1 h2 => k _ _ F H M (h m h1 h2) (.int _) (Same.refl _) s⟩
theorem CbD.minL {ns : List Int} (h0 : 0 < ns.length) (h : ∀ m, m ∈ ns → (∀ y, y ∈ ns → m ≤ y) → Φ (.int m) M) : CbD K (cMin K) [.lst (ns.map D.int)] M Φ := fun F H Mf vs Q r s k => by
  cases r with
  | cons r rr =>
    cases rr
    obtain ⟨a, rfl, hq⟩ := seq_ints r s
    exact .inr ⟨a, ns, rfl, hq, h0, fun m h1 h2 => k _ _ F H M (h m h1 h2) (.int _) (Same.refl _) s⟩
theorem CbD.sum {ns : List Int} (h : Φ (.int ns.sum) M) : CbD K (cSum K) [.lst (ns.map D.int)] M Φ := fun F H Mf vs Q r s k => by
  cases r with
  | cons r rr =>
    cases rr
    obtain ⟨a, rfl, hq⟩ := seq_ints r s
    exact ⟨a, ns, rfl, hq, k _ _ F H M h (.int _) (Same.refl _) s⟩
theorem CbD.any {bs : List Bool} (h : Φ (.bl (bs.any id)) M) : CbD K (cAny K) [.lst (bs.map D.bl)] M Φ := fun F H Mf vs Q r s k => by
  cases r with
  | cons r rr =>
    cases rr
    cases r with
    | lst e rs =>
      rw [RDs.ofBls rs] at e
      exact ⟨_, bs, rfl, .inl (.inl (s.sub _ _ e)), k _ _ F H M h (.bl _) (Same.refl _) s⟩
theorem CbD.all {bs : List Bool} (h : Φ (.bl (bs.all id)) M) : CbD K (cAll K) [.lst (bs.map D.bl)] M Φ := fun F H Mf vs Q r s k => by
  cases r with
  | cons r rr =>
    cases rr
    cases r with
    | lst e rs =>
      rw [RDs.ofBls rs] at e
      exact ⟨_, bs, rfl, .inl (.inl (s.sub _ _ e)), k _ _ F H M h (.bl _) (Same.refl _) s⟩
theorem CbD.sorted {ns : List Int} (h0 : ns.length < 64) (h : ∀ ns' : List Int, ns'.Perm ns → ns'.Pairwise (· ≤ ·) → Φ (.lst (ns'.map D.int)) M) : CbD K (cSorted K) [.lst (ns.map D.int)] M Φ := fun F H Mf vs Q r s k => by
  cases r with
  | cons r rr =>
    cases rr
    obtain ⟨a, rfl, hq⟩ := seq_ints r s
    exact ⟨a, ns, rfl, hq, h0, fun ns' p h1 h2 hp => k _ _ _ _ M (h ns' h1 h2) (.lst upd_same RDs.ints) (s.sameF hp) (s.newF hp)⟩
theorem CbD.list {x : D} {xs : List D} (q : Seq M x xs) (h : Φ (.lst xs) M) : CbD K (cList K) [x] M Φ := fun F H Mf vs Q r s k => by
  cases r with
  | cons r rr =>
    cases rr
    obtain ⟨a, ws, rfl, hq, rs⟩ := q.vv r s
    exact ⟨a, ws, rfl, hq, fun p hp => k _ _ _ _ M h (.lst upd_same (rs.mono (s.sameF hp))) (s.sameF hp) (s.newF hp)⟩
theorem CbD.listO {x : D} {xs : List D} (q : Seq M x xs) (h : ∀ p, Φ (.ref p) ((p, .lst xs) :: M)) : CbD K (cListO K) [x] M Φ := fun F H Mf vs Q r s k => by
  cases r with
  | cons r rr =>
    cases rr
    obtain ⟨a, ws, rfl, hq, rs⟩ := q.vv r s
    exact ⟨a, ws, rfl, hq, fun p hp => k _ _ _ _ _ (h p) (.ref p) (Same.refl _) (s.newO hp rs)⟩
theorem CbD.tuple {x : D} {xs : List D} (q : Seq M x xs) (h : Φ (.tup xs) M) : CbD K (cTuple K) [x] M Φ := fun F H Mf vs Q r s k => by
  cases r with
  | cons r rr =>
    cases rr
    cases q with
    | tup =>
      cases r with
      | tup e rs => exact ⟨_, _, rfl, .inr ⟨sqt_mono s.sub e, k _ _ F H M h (.tup e rs) (Same.refl _) s⟩⟩
    | lst =>
      cases r with
      | lst e rs => exact ⟨_, _, rfl, .inl ⟨.inl (.inl (s.sub _ _ e)), fun p hp => k _ _ _ _ M h (.tup (.inl (.inl upd_same)) (rs.mono (s.sameF hp))) (s.sameF hp) (s.newF hp)⟩⟩
    | own hm =>
      cases r
      obtain ⟨ws, e, rs⟩ := own_lst s hm
      exact ⟨_, _, rfl, .inl ⟨.inl (.inl e), fun p hp => k _ _ _ _ M h (.tup (.inl (.inl upd_same)) (rs.mono (s.sameF hp))) (s.sameF hp) (s.newF hp)⟩⟩
    | scr ns =>
      cases r with
      | scr hm =>
      exact ⟨_, _, rfl, .inl ⟨Same.seq s.sub hm, fun p hp => k _ _ _ _ M h (.tup (.inl (.inl upd_same)) RDs.ints) (s.sameF hp) (s.newF hp)⟩⟩
theorem CbD.int {i : Int} (h : Φ (.int i) M) : CbD K cInt [.int i] M Φ := fun F H Mf vs Q r s k => by
  cases r with
  | cons r rr =>
    cases rr
    cases r
    exact .inl ⟨_, rfl, k _ _ F H M h (.int _) (Same.refl _) s⟩
theorem CbD.intB {b : Bool} (h : Φ (.int (if b then 1 else 0)) M) : CbD K cInt [.bl b] M Φ := fun F H Mf vs Q r s k => by
  cases r with
  | cons r rr =>
    cases rr
    cases r
    exact .inr ⟨_, rfl, k _ _ F H M h (.int _) (Same.refl _) s⟩
end
end L3

namespace L3
open PySem PySem.Spec L2

/-! ### what a loop goes through -/
structure Src where
  its : List D
  need : Mem → Prop
def JR (K : PySem.W.Frag) (F : Hp) (s : Src) (J : It) : Prop := ∀ F' H M Mf, Same F F' → StC K F' H (M ++ Mf) → s.need M →
  (∀ i, i < s.its.length → J.go i H) ∧ (∀ i, s.its.length ≤ i → J.stop i H) ∧ ∀ i x v H', s.its[i]? = some x → J.yld i H v H' → ∃ F'', Same F' F'' ∧ StC K F'' H' (M ++ Mf) ∧ RD K F'' v x
def WI (K : PySem.W.Frag) (E : WX) (wi : TI) (ρ : Env3) (M : Mem) (Θ : Src → Mem → Prop) (Ψ : PX) : Prop :=
  ∀ σ F H Mf R, EnvR K F σ ρ → StC K F H (M ++ Mf) → EK K F Mf Ψ E → (∀ s F' H' M' J, Θ s M' → Same F F' → StC K F' H' (M' ++ Mf) → JR K F' s J → R J H') → wi σ H R
section
variable {K : PySem.W.Frag} {E : WX} {Ψ : PX} {ρ : Env3} {M : Mem} {Φ : D → Mem → Prop}
theorem jr_list {F : Hp} {a : Addr} {xs : List D} {need : Mem → Prop} (h : ∀ F' H M Mf, Same F F' → StC K F' H (M ++ Mf) → need M → ∃ vs, SqL K H a vs ∧ RDs K F' vs xs) : JR K F ⟨xs, need⟩ (Itl K a) := fun F' H M Mf e s n => by
  obtain ⟨vs, hq, rs⟩ := h F' H M Mf e s n
  refine ⟨fun i hi => ?_, fun i hi => ⟨vs, hq, by rw [rs.len]; exact hi⟩, fun i x v H' hx y => ?_⟩
  · have hi : i < vs.length := by rw [rs.len]; exact hi
    exact ⟨vs, vs[i], hq, List.getElem?_eq_getElem hi⟩
  · obtain ⟨rfl, y⟩ := y
    obtain ⟨u, hu, ru⟩ := rs.get hx
    rw [y vs hq] at hu
    cases hu
    exact ⟨F', Same.refl _, s, ru⟩
theorem jr_tup {F : Hp} {a : Addr} {xs : List D} {need : Mem → Prop} (h : ∀ F' H M Mf, Same F F' → StC K F' H (M ++ Mf) → need M → ∃ vs, SqT K H a vs ∧ RDs K F' vs xs) : JR K F ⟨xs, need⟩ (Itt K a) := fun F' H M Mf e s n => by
  obtain ⟨vs, hq, rs⟩ := h F' H M Mf e s n
  refine ⟨fun i hi => ?_, fun i hi => ⟨vs, hq, by rw [rs.len]; exact hi⟩, fun i x v H' hx y => ?_⟩
  · have hi : i < vs.length := by rw [rs.len]; exact hi
    exact ⟨vs, vs[i], hq, List.getElem?_eq_getElem hi⟩
  · obtain ⟨rfl, y⟩ := y
    obtain ⟨u, hu, ru⟩ := rs.get hx
    rw [y vs hq] at hu
    cases hu
    exact ⟨F', Same.refl _, s, ru⟩
/-- it is a list, or a tuple -/
def isL (x : D) : Bool := match x with
  | .tup _ => false
  | _ => true
theorem Seq.vL {F H : Hp} {Mf : Mem} {v : V} {x : D} {xs : List D} (q : Seq M x xs) (hl : isL x = true) (r : RD K F v x) (s : StC K F H (M ++ Mf)) : ∃ a vs, v = .ref a ∧ SqL K H a vs ∧ RDs K F vs xs := by
  cases q with
  | lst =>
    cases r with
    | lst h rs => exact ⟨_, _, rfl, .inl (.inl (s.sub _ _ h)), rs⟩
  | tup => exact absurd hl Bool.false_ne_true
  | own h =>
    cases r
    obtain ⟨vs, e, r⟩ := own_lst s h
    exact ⟨_, vs, rfl, .inl (.inl e), r⟩
  | scr ns =>
    cases r with
    | scr h => exact ⟨_, _, rfl, Same.seq s.sub h, RDs.ints⟩
def iSeq (K : PySem.W.Frag) (tl : TE) : TI := fun σ H R => tl σ H fun x H1 => ∃ a, x = .ref a ∧ (((∃ xs, SqL K H1 a xs) ∧ R (Itl K a) H1) ∨ ((∃ xs, SqT K H1 a xs) ∧ R (Itt K a) H1))
theorem q_seq (K : PySem.W.Frag) {X : Cx} {tg l : Expr} {tl : TE} (hl : PE X l tl) (e : X.K = K := by rfl) : PI X tg l (iSeq K tl) := by
  subst e
  refine ⟨fun pins s σ H R I h => ?_⟩
  refine thn (hl.run pins s σ H _ I h) fun v s1 ⟨x, H1, I1, r1, q1⟩ => ?_
  obtain ⟨a, e, q1⟩ := q1
  subst e
  cases r1
  rcases q1 with ⟨⟨xs, hq⟩, q⟩ | ⟨⟨xs, hq⟩, q⟩
  · obtain ⟨its, rv, p, hz⟩ := I1.list hq
    refine wpAny_pyIter_list p.isList ?_
    refine ⟨s1.heap.objs.size, [s1.heap.objs.size], _, _, H1, rfl, I1.kept (t' := s1.toks) fun b o e => Heap.get?_push_of_some _ e, turn_list a _, ⟨_, Heap.get?_push_size _ rfl, rfl, rfl⟩, fun b hb => ?_, q⟩
    have e : b = s1.heap.objs.size := by simpa using hb
    subst e
    exact I1.fpOk (Nat.le_refl _) (I1.hok.fresh (Nat.le_refl _))
  · obtain ⟨its, rv, p, hz⟩ := I1.tuple hq
    refine PySem.wpAny_pyIter_tuple (show s1.heap.IsTuple a its.toArray from p) ?_
    refine ⟨s1.heap.objs.size, [s1.heap.objs.size], _, _, H1, rfl, I1.kept (t' := s1.toks) fun b o e => Heap.get?_push_of_some _ e, turn_tuple a _, ⟨_, Heap.get?_push_size _ rfl, rfl, rfl⟩, fun b hb => ?_, q⟩
    have e : b = s1.heap.objs.size := by simpa using hb
    subst e
    exact I1.fpOk (Nat.le_refl _) (I1.hok.fresh (Nat.le_refl _))
theorem WI.seq {tl : TE} {Θ : Src → Mem → Prop} (h : W K E tl ρ M (fun x M1 => ∃ xs, Seq M1 x xs ∧ Θ ⟨xs, fun M => Seq M x xs⟩ M1) Ψ) : WI K E (iSeq K tl) ρ M Θ Ψ := fun σ F H Mf R e s k q =>
  h σ F H Mf _ e s k fun v x F1 H1 M1 ⟨xs, hq, h1⟩ r1 s1 c1 => by
    cases hb : isL x with
    | true =>
      obtain ⟨a, vs, rfl, hl, rs⟩ := hq.vL hb r1 c1
      refine ⟨a, rfl, .inl ⟨⟨vs, hl⟩, q _ F1 H1 M1 _ h1 s1 c1 (jr_list fun F' H' M' Mf' e' s' n => ?_)⟩⟩
      obtain ⟨a', vs', e1, hl', rs'⟩ := Seq.vL n hb (r1.mono e') s'
      cases e1
      exact ⟨vs', hl', rs'⟩
    | false =>
      cases x with
      | tup ds =>
        cases hq
        cases r1 with
        | tup ht rs => exact ⟨_, rfl, .inr ⟨⟨_, sqt_mono c1.sub ht⟩, q _ F1 H1 M1 _ h1 s1 c1 (jr_tup fun F' H' M' Mf' e' s' n => ⟨_, sqt_mono (e'.trans s'.sub) ht, rs.mono e'⟩)⟩⟩
      | _ => exact absurd hb (by intro z; exact Bool.noConfusion z)
theorem jr_range {F : Hp} {lo : Int} {n : Nat} : JR K F ⟨(List.range n).map (fun (k : Nat) => D.int (lo + (k : Int))), fun _ => True⟩ (Itr lo n) := fun F' H M Mf e s _ => by
  refine ⟨fun i hi => (by simpa using hi : i < n), fun i hi => (by simpa using hi : n ≤ i), fun i x v H' hx y => ?_⟩
  obtain ⟨rfl, rfl⟩ := y
  simp only [List.getElem?_map, Option.map_eq_some_iff] at hx
  obtain ⟨j, hj, rfl⟩ := hx
  rw [List.getElem?_eq_some_iff] at hj
  obtain ⟨h1, h2⟩ := hj
  rw [List.getElem_range] at h2
  subst h2
  exact ⟨F', Same.refl _, s, .int _⟩
/-- lo, lo + 1, .. -/
def ran (lo : Int) (n : Nat) : Src := ⟨(List.range n).map (fun (k : Nat) => D.int (lo + (k : Int))), fun _ => True⟩
theorem ran_len {lo : Int} {n : Nat} : (ran lo n).its.length = n := by simp [ran]
theorem ran_get {lo : Int} {n i : Nat} {x : D} (h : (ran lo n).its[i]? = some x) : i < n ∧ x = .int (lo + (i : Int)) := by
  have hi : i < (ran lo n).its.length := (List.getElem?_eq_some_iff.mp h).1
  rw [ran_len] at hi
  refine ⟨hi, ?_⟩
  simp only [ran, List.getElem?_map, Option.map_eq_some_iff] at h
  obtain ⟨j, hj, rfl⟩ := h
  rw [List.getElem?_range hi] at hj
  cases hj
  rfl
theorem WI.rng1 {ta : TA} {Θ : Src → Mem → Prop} (h : WA K E ta ρ M (fun xs M1 => ∃ j : Int, xs = [.int j] ∧ -(2 ^ 62) ≤ j ∧ j < 2 ^ 62 ∧ Θ (ran 0 j.toNat) M1) Ψ) : WI K E (iRng1 ta) ρ M Θ Ψ := fun σ F H Mf R e s k q =>
  h σ F H Mf _ e s k fun vs xs F1 H1 M1 ⟨j, ej, h1, h2, h3⟩ r1 s1 c1 => by
    subst ej
    cases r1 with
    | cons r rr =>
      cases rr
      cases r
      exact ⟨j, rfl, h1, h2, q _ F1 H1 M1 _ h3 s1 c1 jr_range⟩
theorem WI.rng2 {ta : TA} {Θ : Src → Mem → Prop} (h : WA K E ta ρ M (fun xs M1 => ∃ i j : Int, xs = [.int i, .int j] ∧ (-(2 ^ 62) ≤ i ∧ i < 2 ^ 62 ∧ -(2 ^ 62) ≤ j ∧ j < 2 ^ 62) ∧ Θ (ran i (j - i).toNat) M1) Ψ) : WI K E (iRng2 ta) ρ M Θ Ψ := fun σ F H Mf R e s k q =>
  h σ F H Mf _ e s k fun vs xs F1 H1 M1 ⟨i, j, ej, h1, h3⟩ r1 s1 c1 => by
    subst ej
    cases r1 with
    | cons r rr =>
      cases rr with
      | cons r2 rr =>
        cases rr
        cases r
        cases r2
        exact ⟨i, j, rfl, h1, q _ F1 H1 M1 _ h3 s1 c1 jr_range⟩
/-- enumerate of a list -/
def enumD (xs : List D) : List D := (List.range xs.length).map fun (i : Nat) => .tup [.int (i : Int), xs.getD i .non]
theorem enumD_get {xs : List D} {i : Nat} {y : D} (h : (enumD xs)[i]? = some y) : ∃ x, xs[i]? = some x ∧ y = .tup [.int (i : Int), x] := by
  have hi : i < xs.length := by
    have := (List.getElem?_eq_some_iff.mp h).1
    simpa [enumD] using this
  simp only [enumD, List.getElem?_map, List.getElem?_range hi, Option.map_some, Option.some.injEq] at h
  refine ⟨xs[i], List.getElem?_eq_getElem hi, ?_⟩
  rw [← h, List.getD_eq_getElem?_getD, List.getElem?_eq_getElem hi]
  rfl
theorem enumD_len {xs : List D} : (enumD xs).length = xs.length := by simp [enumD]
theorem WI.enumL {ta : TA} {Θ : Src → Mem → Prop} (h : WA K E ta ρ M (fun ys M1 => ∃ x xs, ys = [x] ∧ Seq M1 x xs ∧ isL x = true ∧ Θ ⟨enumD xs, fun M => Seq M x xs⟩ M1) Ψ) : WI K E (iEnum K ta) ρ M Θ Ψ := fun σ F H Mf R e s k q =>
  h σ F H Mf _ e s k fun vs ys F1 H1 M1 ⟨x, xs, ey, hq, hb, h1⟩ r1 s1 c1 => by
    subst ey
    cases r1 with
    | cons r rr =>
      cases rr
      obtain ⟨a, vs, rfl, hl, rs⟩ := hq.vL hb r c1
      refine ⟨a, vs, rfl, hl, q _ F1 H1 M1 _ h1 s1 c1 fun F' H' M' Mf' e' s' n => ?_⟩
      obtain ⟨a', vs', e1, hl', rs'⟩ := Seq.vL n hb (r.mono e') s'
      cases e1
      refine ⟨fun i hi => ?_, fun i hi => ⟨vs', hl', by rw [rs'.len]; rw [enumD_len] at hi; exact hi⟩, fun i y v H'' hy yl => ?_⟩
      · have hi : i < vs'.length := by rw [rs'.len]; rw [enumD_len] at hi; exact hi
        exact ⟨vs', vs'[i], hl', List.getElem?_eq_getElem hi⟩
      · obtain ⟨T, z, rfl, hT, rfl, hz⟩ := yl
        obtain ⟨x2, hx2, rfl⟩ := enumD_get hy
        obtain ⟨u, hu, ru⟩ := rs'.get hx2
        rw [hz vs' hl'] at hu
        cases hu
        exact ⟨_, s'.sameF hT, s'.newF hT, .tup (.inl (.inl upd_same)) (.cons (.int _) (.cons (ru.mono (s'.sameF hT)) .nil))⟩
/-- zip of two lists, of two tuples -/
def zipD (xs ys : List D) : List D := (List.range (min xs.length ys.length)).map fun i => .tup [xs.getD i .non, ys.getD i .non]
theorem zipD_get {xs ys : List D} {i : Nat} {z : D} (h : (zipD xs ys)[i]? = some z) : ∃ x y, xs[i]? = some x ∧ ys[i]? = some y ∧ z = .tup [x, y] := by
  have hi : i < min xs.length ys.length := by
    have := (List.getElem?_eq_some_iff.mp h).1
    simpa [zipD] using this
  simp only [zipD, List.getElem?_map, List.getElem?_range hi, Option.map_some, Option.some.injEq] at h
  have h1 : i < xs.length := by omega
  have h2 : i < ys.length := by omega
  refine ⟨xs[i], ys[i], List.getElem?_eq_getElem h1, List.getElem?_eq_getElem h2, ?_⟩
  rw [← h, List.getD_eq_getElem?_getD, List.getElem?_eq_getElem h1, List.getD_eq_getElem?_getD, List.getElem?_eq_getElem h2]
  rfl
theorem zipD_len {xs ys : List D} : (zipD xs ys).length = min xs.length ys.length := by simp [zipD]
theorem WI.zipA {ta : TA} {Θ : Src → Mem → Prop} (h : WA K E ta ρ M (fun zs M1 => ∃ x y xs ys, zs = [x, y] ∧ Seq M1 x xs ∧ Seq M1 y ys ∧ isL x = isL y ∧ Θ ⟨zipD xs ys, fun M => Seq M x xs ∧ Seq M y ys⟩ M1) Ψ) : WI K E (RZ.iZipA K ta) ρ M Θ Ψ := fun σ F H Mf R e s k q =>
  h σ F H Mf _ e s k fun vs zs F1 H1 M1 ⟨x, y, xs, ys, ey, hx, hy, hb, h1⟩ r1 s1 c1 => by
    subst ey
    cases r1 with
    | cons r rr =>
      cases rr with
      | cons r2 rr =>
        cases rr
        cases hbx : isL x with
        | true =>
          have hby : isL y = true := hb.symm.trans hbx
          obtain ⟨a, vs, rfl, hl, rs⟩ := hx.vL hbx r c1
          obtain ⟨b, ws, rfl, hl2, rs2⟩ := hy.vL hby r2 c1
          refine ⟨a, b, vs, ws, rfl, .inl ⟨hl, hl2, q _ F1 H1 M1 _ h1 s1 c1 fun F' H' M' Mf' e' s' n => ?_⟩⟩
          obtain ⟨a', vs', e1, hl', rs'⟩ := Seq.vL n.1 hbx (r.mono e') s'
          cases e1
          obtain ⟨b', ws', e1, hl2', rs2'⟩ := Seq.vL n.2 hby (r2.mono e') s'
          cases e1
          refine ⟨fun i hi => ?_, fun i hi => ⟨vs', ws', hl', hl2', ?_⟩, fun i z v H'' hz yl => ?_⟩
          · rw [zipD_len] at hi
            have h1 : i < vs'.length := by rw [rs'.len]; omega
            have h2 : i < ws'.length := by rw [rs2'.len]; omega
            exact ⟨vs', ws', vs'[i], ws'[i], hl', hl2', List.getElem?_eq_getElem h1, List.getElem?_eq_getElem h2⟩
          · rw [zipD_len] at hi
            rw [rs'.len, rs2'.len]
            omega
          · obtain ⟨T, z1, z2, rfl, hT, rfl, hz1, hz2⟩ := yl
            obtain ⟨x2, y2, hx2, hy2, rfl⟩ := zipD_get hz
            obtain ⟨u, hu, ru⟩ := rs'.get hx2
            rw [hz1 vs' hl'] at hu
            cases hu
            obtain ⟨u, hu, ru2⟩ := rs2'.get hy2
            rw [hz2 ws' hl2'] at hu
            cases hu
            exact ⟨_, s'.sameF hT, s'.newF hT, .tup (.inl (.inl upd_same)) (.cons (ru.mono (s'.sameF hT)) (.cons (ru2.mono (s'.sameF hT)) .nil))⟩
        | false =>
          have hby : isL y = false := hb.symm.trans hbx
          cases x with
          | tup dx =>
            cases y with
            | tup dy =>
              cases hx
              cases hy
              cases r with
              | tup ht rs =>
                cases r2 with
                | tup ht2 rs2 =>
                  refine ⟨_, _, _, _, rfl, .inr ⟨sqt_mono c1.sub ht, sqt_mono c1.sub ht2, q _ F1 H1 M1 _ h1 s1 c1 fun F' H' M' Mf' e' s' n => ?_⟩⟩
                  have hl' := sqt_mono (e'.trans s'.sub) ht
                  have hl2' := sqt_mono (e'.trans s'.sub) ht2
                  refine ⟨fun i hi => ?_, fun i hi => ⟨_, _, hl', hl2', ?_⟩, fun i z v H'' hz yl => ?_⟩
                  · rw [zipD_len] at hi
                    have h1 := rs.len
                    have h2 := rs2.len
                    exact ⟨_, _, _, _, hl', hl2', List.getElem?_eq_getElem (by omega), List.getElem?_eq_getElem (by omega)⟩
                  · rw [zipD_len] at hi
                    rw [rs.len, rs2.len]
                    omega
                  · obtain ⟨T, z1, z2, rfl, hT, rfl, hz1, hz2⟩ := yl
                    obtain ⟨x2, y2, hx2, hy2, rfl⟩ := zipD_get hz
                    obtain ⟨u, hu, ru⟩ := rs.get hx2
                    rw [hz1 _ hl'] at hu
                    cases hu
                    obtain ⟨u, hu, ru2⟩ := rs2.get hy2
                    rw [hz2 _ hl2'] at hu
                    cases hu
                    exact ⟨_, s'.sameF hT, s'.newF hT, .tup (.inl (.inl upd_same)) (.cons (ru.mono (e'.trans (s'.sameF hT))) (.cons (ru2.mono (e'.trans (s'.sameF hT))) .nil))⟩
            | _ => exact absurd hby (by intro z; exact Bool.noConfusion z)
          | _ => exact absurd hbx (by intro z; exact Bool.noConfusion z)

/-! ### for, while -/
variable {d : DD}
theorem WS.for_ {wi : TI} {g : TG} {tb : TS} (h : WI K E wi ρ M (fun s M1 => ∃ I : Nat → Env3 → Mem → Prop, I 0 ρ M1 ∧ (∀ i ρ' M', i ≤ s.its.length → I i ρ' M' → s.need M') ∧
    (∀ i x ρ' M', s.its[i]? = some x → I i ρ' M' → WG K E g x ρ' M' (fun ρ2 M2 => WS K E tb ρ2 M2 ⟨I (i + 1), d.rt, d.nx, I (i + 1)⟩ Ψ) Ψ) ∧ ∀ ρ' M', I s.its.length ρ' M' → d.nx ρ' M') Ψ) : WS K E (tFor wi g tb) ρ M d Ψ := fun σ F H Mf e a s k q =>
  h σ F H Mf _ a s k fun src F1 H1 M1 J ⟨I, h0, hn, ht, he⟩ s1 c1 jr => by
    refine ⟨fun i m σ' H' => ∃ ρ' F' M', i ≤ src.its.length ∧ m = src.its.length - i ∧ I i ρ' M' ∧ EnvR K F' σ' ρ' ∧ Same F1 F' ∧ StC K F' H' (M' ++ Mf), ⟨_, ρ, F1, M1, Nat.zero_le _, rfl, h0, a.mono s1, Same.refl _, c1⟩, ?_⟩
    rintro i m σ' H' ⟨ρ', F', M', hi, rfl, hI, a', s', c'⟩
    obtain ⟨jg, js, jy⟩ := jr F' H' M' Mf s' c' (hn i ρ' M' hi hI)
    by_cases hlt : i < src.its.length
    · refine .inr ⟨jg i hlt, fun σ2 H2 => ∃ ρ2 F2 M2, I (i + 1) ρ2 M2 ∧ EnvR K F2 σ2 ρ2 ∧ Same F1 F2 ∧ StC K F2 H2 (M2 ++ Mf), fun σ2 H2 ⟨ρ2, F2, M2, h1, h2, h3, h4⟩ => ⟨src.its.length - (i + 1), by omega, ρ2, F2, M2, hlt, rfl, h1, h2, h3, h4⟩, fun v H2 y => ?_⟩
      have hx : src.its[i]? = some src.its[i] := List.getElem?_eq_getElem hlt
      obtain ⟨F2, e2, c2, r2⟩ := jy i _ v H2 hx y
      have eK2 := (k.mono s1).mono (s'.trans e2)
      refine ht i _ ρ' M' hx hI σ' F2 H2 Mf v _ r2 (a'.mono e2) c2 eK2 fun σ3 ρ3 F3 H3 M3 h3 a3 s3 c3 => ?_
      have s13 : Same F1 F3 := (s'.trans e2).trans s3
      refine h3 σ3 F3 H3 Mf _ a3 c3 (eK2.mono s3) ⟨fun σ4 ρ4 F4 H4 M4 p a4 s4 c4 => ⟨ρ4, F4, M4, p, a4, s13.trans s4, c4⟩, fun v4 x4 F4 H4 M4 p r4 s4 c4 => q.rt v4 x4 F4 H4 M4 p r4 ((s1.trans s13).trans s4) c4,
        fun σ4 ρ4 F4 H4 M4 p a4 s4 c4 => q.nx σ4 ρ4 F4 H4 M4 p a4 ((s1.trans s13).trans s4) c4, fun σ4 ρ4 F4 H4 M4 p a4 s4 c4 => ⟨ρ4, F4, M4, p, a4, s13.trans s4, c4⟩⟩
    · have e0 : i = src.its.length := by omega
      subst e0
      exact .inl ⟨js _ (Nat.le_refl _), q.nx σ' ρ' F' H' M' (he ρ' M' hI) a' (s1.trans s') c'⟩
theorem WS.while_ {c : TT} {tb : TS} (I : Nat → Env3 → Mem → Prop) (m0 : Nat) (h0 : I m0 ρ M) (hs : ∀ m ρ' M', I m ρ' M' → WT K E c ρ' M' (fun b M1 => (b = true → WS K E tb ρ' M1 ⟨fun ρ2 M2 => ∃ m', m' < m ∧ I m' ρ2 M2, d.rt, d.nx, fun ρ2 M2 => ∃ m', m' < m ∧ I m' ρ2 M2⟩ Ψ) ∧ (b = false → d.nx ρ' M1)) Ψ) :
    WS K E (tWhile c tb) ρ M d Ψ := fun σ F H Mf e a s k q => by
  refine ⟨fun m σ' H' => ∃ ρ' F' M', I m ρ' M' ∧ EnvR K F' σ' ρ' ∧ Same F F' ∧ StC K F' H' (M' ++ Mf), ⟨m0, ρ, F, M, h0, a, Same.refl _, s⟩, ?_⟩
  rintro m σ' H' ⟨ρ', F', M', hI, a', s', c'⟩
  refine hs m ρ' M' hI σ' F' H' Mf _ a' c' (k.mono s') fun b F1 H1 M1 h1 s1 c1 => ?_
  cases b with
  | true =>
    refine ⟨fun σ2 H2 => ∃ m', m' < m ∧ ∃ ρ2 F2 M2, I m' ρ2 M2 ∧ EnvR K F2 σ2 ρ2 ∧ Same F F2 ∧ StC K F2 H2 (M2 ++ Mf), fun _ _ z => z, ?_⟩
    have s01 := s'.trans s1
    exact h1.1 rfl σ' F1 H1 Mf _ (a'.mono s1) c1 (k.mono s01) ⟨fun σ4 ρ4 F4 H4 M4 ⟨m', hm, p⟩ a4 s4 c4 => ⟨m', hm, ρ4, F4, M4, p, a4, s01.trans s4, c4⟩, fun v4 x4 F4 H4 M4 p r4 s4 c4 => q.rt v4 x4 F4 H4 M4 p r4 (s01.trans s4) c4,
        fun σ4 ρ4 F4 H4 M4 p a4 s4 c4 => q.nx σ4 ρ4 F4 H4 M4 p a4 (s01.trans s4) c4, fun σ4 ρ4 F4 H4 M4 ⟨m', hm, p⟩ a4 s4 c4 => ⟨m', hm, ρ4, F4, M4, p, a4, s01.trans s4, c4⟩⟩
  | false => exact q.nx σ' ρ' F1 H1 M1 (h1.2 rfl) (a'.mono s1) (s'.trans s1) c1

/-! ### comprehensions -/
theorem wipe_set {x : Option V} {i : Nat} : ∀ {vs : List Nat} {σ : L2.St}, i ∈ vs → wipe (σ.set i x) vs = wipe σ vs
  | [], _, h => by simp at h
  | v :: vs, σ, h => by
    show (wipe (σ.set i x) vs).set v none = (wipe σ vs).set v none
    by_cases hv : i ∈ vs
    · rw [wipe_set hv]
    · have e : i = v := by
        rcases List.mem_cons.mp h with h | h
        · exact h
        · exact absurd h hv
      subst e
      have aux : ∀ {ws : List Nat} {τ : L2.St}, i ∉ ws → wipe (τ.set i x) ws = (wipe τ ws).set i x := by
        intro ws
        induction ws with
        | nil => intro τ _; rfl
        | cons w ws ih =>
          intro τ hw
          rw [List.mem_cons, not_or] at hw
          show (wipe (τ.set i x) ws).set w none = ((wipe τ ws).set w none).set i x
          rw [ih hw.2, List.set_comm _ _ hw.1]
      rw [aux hv, List.set_set]
theorem wipe_out {i : Nat} : ∀ {vs : List Nat} {σ : L2.St}, wipe (σ.set i none) vs = (wipe σ vs).set i none
  | [], _ => rfl
  | v :: vs, σ => by
    show (wipe (σ.set i none) vs).set v none = ((wipe σ vs).set v none).set i none
    rw [wipe_out]
    by_cases h : i = v
    · rw [h]
    · rw [List.set_comm _ _ h]
theorem wipe_wipe {σ : L2.St} : ∀ {vs ws : List Nat}, (∀ v ∈ vs, v ∈ ws) → wipe (wipe σ vs) ws = wipe σ ws
  | [], _, _ => rfl
  | v :: vs, ws, h => by
    show wipe ((wipe σ vs).set v none) ws = wipe σ ws
    rw [wipe_set (h v List.mem_cons_self), wipe_wipe fun u hu => h u (List.mem_cons_of_mem _ hu)]
/-- the target stores to these places alone -/
def GOnly (g : TG) (vs : List Nat) : Prop := ∀ v σ H Q, g v σ H Q → g v σ H fun σ2 H2 => wipe σ2 vs = wipe σ vs ∧ Q σ2 H2
def GsOnly (g : TGs) (vs : List Nat) : Prop := ∀ v σ H Q, g v σ H Q → g v σ H fun σ2 H2 => wipe σ2 vs = wipe σ vs ∧ Q σ2 H2
theorem gOnly_name {i : Nat} {vs : List Nat} (h : i ∈ vs) : GOnly (gName i) vs := fun v σ H Q q => ⟨wipe_set h, q⟩
theorem gOnly_tup {n : Nat} {t : TGs} {vs : List Nat} (h : GsOnly t vs) : GOnly (gTup K n t) vs := fun v σ H Q ⟨a, xs, e, hs, hl, q⟩ => ⟨a, xs, e, hs, hl, h _ _ _ _ q⟩
theorem gOnly_nil {vs : List Nat} : GsOnly gNil vs := fun v σ H Q ⟨e, q⟩ => ⟨e, rfl, q⟩
/-- more is wanted of a target -/
def GMono (g : TG) : Prop := ∀ v σ H Q Q', (∀ a b, Q a b → Q' a b) → g v σ H Q → g v σ H Q'
def GsMono (g : TGs) : Prop := ∀ v σ H Q Q', (∀ a b, Q a b → Q' a b) → g v σ H Q → g v σ H Q'
theorem gMono_name {i : Nat} : GMono (gName i) := fun v σ H Q Q' m q => m _ _ q
theorem gMono_tup {n : Nat} {t : TGs} (h : GsMono t) : GMono (gTup K n t) := fun v σ H Q Q' m ⟨a, xs, e, hs, hl, q⟩ => ⟨a, xs, e, hs, hl, h _ _ _ _ _ m q⟩
theorem gMono_nil : GsMono gNil := fun v σ H Q Q' m ⟨e, q⟩ => ⟨e, m _ _ q⟩
theorem gMono_cons {g : TG} {t : TGs} (h : GMono g) (h2 : GsMono t) : GsMono (gCons g t) := fun v σ H Q Q' m ⟨a, r, e, q⟩ => ⟨a, r, e, h _ _ _ _ _ (fun _ _ z => h2 _ _ _ _ _ m z) q⟩
theorem gOnly_cons {g : TG} {t : TGs} {vs : List Nat} (h : GOnly g vs) (m : GMono g) (h2 : GsOnly t vs) (m2 : GsMono t) : GsOnly (gCons g t) vs := fun v σ H Q ⟨a, r, e, q⟩ =>
  ⟨a, r, e, m _ _ _ _ _ (fun σ1 H1 ⟨e1, q1⟩ => m2 _ _ _ _ _ (fun σ2 H2 ⟨e2, q2⟩ => ⟨e2.trans e1, q2⟩) (h2 _ _ _ _ q1)) (h _ _ _ _ q)⟩
abbrev E0 : WX := fun _ _ _ _ => False
abbrev P0 : PX := fun _ _ _ => False
theorem ek0 {F : Hp} {Mf : Mem} : EK K F Mf P0 E0 := fun _ _ _ _ _ _ _ _ p => p.elim
/-- the new list as a cell of ours -/
def tLcO (wi : TI) (g : TG) (tt : TT) (te : TE) (vs : List Nat) : TE := tLc wi g tt te vs
theorem W.lcAny {wi : TI} {g : TG} {tt : TT} {te : TE} {vs : List Nat} {Q0 : List D → Mem → Prop} (hg : GOnly g vs) (h : WI K E wi ρ M (fun s M1 => ∃ J : Nat → List D → Mem → Prop, J 0 [] M1 ∧ (∀ i acc M', i ≤ s.its.length → J i acc M' → s.need M') ∧
    (∀ i x acc M', s.its[i]? = some x → J i acc M' → acc.length < sizeLine ∧ WG K E0 g x (wipeD ρ vs) M' (fun ρ2 M2 => WT K E0 tt ρ2 M2 (fun b M3 => (b = true → W K E0 te ρ2 M3 (fun y M4 => J (i + 1) (acc ++ [y]) M4) P0) ∧ (b = false → J (i + 1) acc M3)) P0) P0) ∧
    ∀ acc M', J s.its.length acc M' → Q0 acc M') Ψ) (fin : ∀ (σ : L2.St) (F H : Hp) (Mf : Mem) (Q : VK), (∀ v x F' H' M', Φ x M' → RD K F' v x → Same F F' → StC K F' H' (M' ++ Mf) → Q v H') → ∀ Dd acc M' F' H', Q0 acc M' → Same F F' → StC K F' H' (M' ++ (Dd, O.lst acc) :: Mf) → Q (.ref Dd) H') :
    W K E (tLc wi g tt te vs) ρ M Φ Ψ := fun σ F H Mf Q a s k q =>
  h σ F H Mf _ a s k fun src F1 H1 M1 J ⟨I, h0, hn, ht, he⟩ s1 c1 jr => by
    intro Dd hD
    refine ⟨fun i m H' => ∃ acc F' M', i ≤ src.its.length ∧ m = src.its.length - i ∧ I i acc M' ∧ Same F1 F' ∧ StC K F' H' (M' ++ (Dd, O.lst acc) :: Mf), ⟨_, [], F1, M1, Nat.zero_le _, rfl, h0, Same.refl _, (c1.newO (ho := .lst []) (o := .lst []) hD RDs.nil).perm List.perm_middle.symm⟩, ?_⟩
    rintro i m H' ⟨acc, F', M', hi, rfl, hI, s', c'⟩
    obtain ⟨jg, js, jy⟩ := jr F' H' M' _ s' c' (hn i acc M' hi hI)
    by_cases hlt : i < src.its.length
    · refine .inr ⟨jg i hlt, fun H2 => ∃ acc2 F2 M2, I (i + 1) acc2 M2 ∧ Same F1 F2 ∧ StC K F2 H2 (M2 ++ (Dd, O.lst acc2) :: Mf), fun H2 ⟨acc2, F2, M2, h1, h3, h4⟩ => ⟨src.its.length - (i + 1), by omega, acc2, F2, M2, hlt, rfl, h1, h3, h4⟩, fun v H2 y => ?_⟩
      have hx : src.its[i]? = some src.its[i] := List.getElem?_eq_getElem hlt
      obtain ⟨F2, e2, c2, r2⟩ := jy i _ v H2 hx y
      obtain ⟨hz, hw⟩ := ht i _ acc M' hx hI
      have a2 : EnvR K F2 (wipe σ vs) (wipeD ρ vs) := (a.mono ((s1.trans s').trans e2)).wipe vs
      have hw2 := hg _ _ _ _ (hw (wipe σ vs) F2 H2 ((Dd, O.lst acc) :: Mf) v (fun σ3 H3 => tt σ3 H3 fun b H4 => if b = true then te σ3 H4 fun y H5 => ∃ acc', H5 Dd = some (.lst acc') ∧ acc'.length < sizeLine ∧ (∃ acc2 F2 M2, I (i + 1) acc2 M2 ∧ Same F1 F2 ∧ StC K F2 (upd H5 Dd (.lst (acc' ++ [y]))) (M2 ++ (Dd, O.lst acc2) :: Mf)) else (∃ acc2 F2 M2, I (i + 1) acc2 M2 ∧ Same F1 F2 ∧ StC K F2 H4 (M2 ++ (Dd, O.lst acc2) :: Mf))) r2 a2 c2 ek0 fun σ3 ρ3 F3 H3 M3 h3 a3 s3 c3 => ?_)
      · rw [wipe_wipe fun v hv => hv] at hw2
        exact hw2
      · have s13 : Same F1 F3 := (s'.trans e2).trans s3
        refine h3 σ3 F3 H3 ((Dd, O.lst acc) :: Mf) _ a3 c3 ek0 fun b F4 H4 M4 h4 s4 c4 => ?_
        cases b with
        | false => exact ⟨acc, F4, M4, h4.2 rfl, s13.trans s4, c4⟩
        | true =>
          refine h4.1 rfl σ3 F4 H4 ((Dd, O.lst acc) :: Mf) _ (a3.mono s4) c4 ek0 fun v5 x5 F5 H5 M5 h5 r5 s5 c5 => ?_
          obtain ⟨ws, ew, rw5⟩ := own_lst (M := M5 ++ (Dd, O.lst acc) :: Mf) (Mf := []) (p := Dd) (xs := acc) (by rw [List.append_nil]; exact c5) (List.mem_append_right _ List.mem_cons_self)
          exact ⟨ws, ew, by rw [rw5.len]; exact hz, acc ++ [x5], F5, M5, h5, (s13.trans s4).trans s5, c5.put (rw5.app (.cons r5 .nil))⟩
    · have e0 : i = src.its.length := by omega
      subst e0
      exact .inl ⟨js _ (Nat.le_refl _), fin σ F H Mf Q q Dd acc M' F' H' (he acc M' hI) (s1.trans s') c'⟩
theorem W.lc {wi : TI} {g : TG} {tt : TT} {te : TE} {vs : List Nat} (hg : GOnly g vs) (h : WI K E wi ρ M (fun s M1 => ∃ J : Nat → List D → Mem → Prop, J 0 [] M1 ∧ (∀ i acc M', i ≤ s.its.length → J i acc M' → s.need M') ∧
    (∀ i x acc M', s.its[i]? = some x → J i acc M' → acc.length < sizeLine ∧ WG K E0 g x (wipeD ρ vs) M' (fun ρ2 M2 => WT K E0 tt ρ2 M2 (fun b M3 => (b = true → W K E0 te ρ2 M3 (fun y M4 => J (i + 1) (acc ++ [y]) M4) P0) ∧ (b = false → J (i + 1) acc M3)) P0) P0) ∧
    ∀ acc M', J s.its.length acc M' → Φ (.lst acc) M') Ψ) : W K E (tLc wi g tt te vs) ρ M Φ Ψ :=
  W.lcAny (Q0 := fun acc M' => Φ (.lst acc) M') hg h fun σ F H Mf Q q Dd acc M' F' H' p s c => by
    obtain ⟨vs, ev, rs, s2, c2⟩ := StC.frozen c
    exact q _ _ _ _ M' p (.lst upd_same (rs.mono s2)) (s.trans s2) c2
theorem W.lcO {wi : TI} {g : TG} {tt : TT} {te : TE} {vs : List Nat} (hg : GOnly g vs) (h : WI K E wi ρ M (fun s M1 => ∃ J : Nat → List D → Mem → Prop, J 0 [] M1 ∧ (∀ i acc M', i ≤ s.its.length → J i acc M' → s.need M') ∧
    (∀ i x acc M', s.its[i]? = some x → J i acc M' → acc.length < sizeLine ∧ WG K E0 g x (wipeD ρ vs) M' (fun ρ2 M2 => WT K E0 tt ρ2 M2 (fun b M3 => (b = true → W K E0 te ρ2 M3 (fun y M4 => J (i + 1) (acc ++ [y]) M4) P0) ∧ (b = false → J (i + 1) acc M3)) P0) P0) ∧
    ∀ acc M', J s.its.length acc M' → ∀ p, Φ (.ref p) ((p, .lst acc) :: M')) Ψ) : W K E (tLcO wi g tt te vs) ρ M Φ Ψ :=
  W.lcAny (Q0 := fun acc M' => ∀ p, Φ (.ref p) ((p, .lst acc) :: M')) hg h fun σ F H Mf Q q Dd acc M' F' H' p s c =>
    q _ _ F' H' _ (p Dd) (.ref Dd) s (c.perm List.perm_middle)
theorem WT.yes {Θ : Bool → Mem → Prop} (h : Θ true M) : WT K E tYes ρ M Θ Ψ := fun σ F H Mf Q a s k q => q true F H M h (Same.refl _) s

/-! ### dicts of ours -/
def getD3 (ks : List (Key × D)) (k : Key) : Option D := (ks.find? fun kv => decide (kv.1 = k)).map (·.2)
def putD3 (ks : List (Key × D)) (k : Key) (v : D) : List (Key × D) :=
  if (ks.any fun kv => decide (kv.1 = k)) = true then ks.map (fun kv => if kv.1 = k then (kv.1, v) else kv) else ks ++ [(k, v)]
def keyD : Key → D
  | .inl i => .int i
  | .inr x => .str x
theorem RK.get {F : Hp} {k : Key} : ∀ {kvs : List (Key × V)} {ks : List (Key × D)}, Paired (RK K F) kvs ks → ∀ {x : D}, getD3 ks k = some x → ∃ v, valV kvs k = some v ∧ RD K F v x
  | _, _, .nil, _, e => by simp [getD3] at e
  | (a, v) :: kvs, (b, y) :: ks, .cons h t, x, e => by
    obtain ⟨h1, h2⟩ := h
    have h1 : a = b := h1
    subst h1
    unfold getD3 at e
    unfold valV
    rw [List.find?_cons] at e ⊢
    by_cases hk : a = k
    · simp [hk] at e ⊢
      subst e
      exact h2
    · simp only [hk, decide_false] at e ⊢
      exact RK.get t e
theorem RK.getN {F : Hp} {k : Key} : ∀ {kvs : List (Key × V)} {ks : List (Key × D)}, Paired (RK K F) kvs ks → getD3 ks k = none → valV kvs k = none
  | _, _, .nil, _ => rfl
  | (a, v) :: kvs, (b, y) :: ks, .cons h t, e => by
    obtain ⟨h1, h2⟩ := h
    have h1 : a = b := h1
    subst h1
    unfold getD3 at e
    unfold valV
    rw [List.find?_cons] at e ⊢
    by_cases hk : a = k
    · simp [hk] at e
    · simp only [hk, decide_false] at e ⊢
      exact RK.getN t e
theorem RK.any {F : Hp} {k : Key} : ∀ {kvs : List (Key × V)} {ks : List (Key × D)}, Paired (RK K F) kvs ks → (kvs.any fun kv => decide (kv.1 = k)) = ks.any fun kv => decide (kv.1 = k)
  | _, _, .nil => rfl
  | (a, v) :: kvs, (b, y) :: ks, .cons h t => by
    have h1 : a = b := h.1
    subst h1
    rw [List.any_cons, List.any_cons, RK.any t]
theorem RK.app {F : Hp} : ∀ {kvs us : List (Key × V)} {ks ws : List (Key × D)}, Paired (RK K F) kvs ks → Paired (RK K F) us ws → Paired (RK K F) (kvs ++ us) (ks ++ ws)
  | _, _, _, _, .nil, r => r
  | _, _, _, _, .cons h t, r => .cons h (RK.app t r)
theorem RK.map {F : Hp} {k : Key} {v : V} {x : D} (r : RD K F v x) : ∀ {kvs : List (Key × V)} {ks : List (Key × D)}, Paired (RK K F) kvs ks → Paired (RK K F) (kvs.map (fun kv => if kv.1 = k then (kv.1, v) else kv)) (ks.map (fun kv => if kv.1 = k then (kv.1, x) else kv))
  | _, _, .nil => .nil
  | p :: kvs, q :: ks, .cons a t => by
    obtain ⟨h1, h2⟩ := a
    rw [List.map_cons, List.map_cons]
    refine .cons ?_ (RK.map r t)
    by_cases hk : p.1 = k
    · rw [if_pos hk, if_pos (h1 ▸ hk)]
      exact ⟨h1, r⟩
    · rw [if_neg hk, if_neg (h1 ▸ hk)]
      exact ⟨h1, h2⟩
theorem RK.put {F : Hp} {k : Key} {v : V} {x : D} (r : RD K F v x) {kvs : List (Key × V)} {ks : List (Key × D)} (h : Paired (RK K F) kvs ks) : Paired (RK K F) (putK kvs k v) (putD3 ks k x) := by
  unfold putK putD3
  rw [RK.any h]
  split
  · exact RK.map r h
  · exact RK.app h (.cons ⟨rfl, r⟩ .nil)
theorem keyD_v {F : Hp} {v : V} {k : Key} (r : RD K F v (keyD k)) : v = kV k := by
  cases k <;> (cases r; rfl)
/-- where a cell stands -/
inductive Sp (p : Addr) (o : O) : Mem → (O → Mem) → Prop
  | here {M : Mem} : Sp p o ((p, o) :: M) (fun u => (p, u) :: M)
  | there {q : Addr × O} {M : Mem} {f : O → Mem} (h : Sp p o M f) : Sp p o (q :: M) (fun u => q :: f u)
theorem Sp.split {p : Addr} {o : O} {M : Mem} {f : O → Mem} (h : Sp p o M f) : ∃ A B, M = A ++ (p, o) :: B ∧ f = fun u => A ++ (p, u) :: B := by
  induction h with
  | here => exact ⟨[], _, rfl, rfl⟩
  | there _ ih =>
    obtain ⟨A, B, rfl, rfl⟩ := ih
    exact ⟨_ :: A, B, rfl, rfl⟩
theorem Sp.mem {p : Addr} {o : O} {M : Mem} {f : O → Mem} (h : Sp p o M f) : (p, o) ∈ M := by
  obtain ⟨A, B, rfl, _⟩ := h.split
  exact List.mem_append_right _ List.mem_cons_self
theorem Sp.put {p : Addr} {o o' : O} {M Mf : Mem} {f : O → Mem} {F H : Hp} {ho : HO} (h : Sp p o M f) (s : StC K F H (M ++ Mf)) (r : RO K F ho o') : StC K F (upd H p ho) (f o' ++ Mf) := by
  obtain ⟨A, B, rfl, rfl⟩ := h.split
  rw [List.append_assoc] at s ⊢
  exact StC.put s r
theorem W.dget {td ty : TE} (h : W K E td ρ M (fun x M1 => W K E ty ρ M1 (fun y M2 => ∃ p ks k z, x = .ref p ∧ (p, O.dct ks) ∈ M2 ∧ y = keyD k ∧ getD3 ks k = some z ∧ Φ z M2) Ψ) Ψ) : W K E (tDGet td ty) ρ M Φ Ψ := fun σ F H Mf Q a s k q =>
  h σ F H Mf _ a s k fun v x F1 H1 M1 h1 r1 s1 c1 => h1 σ F1 H1 Mf _ (a.mono s1) c1 (k.mono s1) fun u y F2 H2 M2 ⟨p, ks, kk, z, ex, hm, ey, eg, h2⟩ r2 s2 c2 => by
    subst ex
    subst ey
    cases r1
    obtain ⟨kvs, e, rk⟩ := own_dct c2 hm
    obtain ⟨w, ew, rw'⟩ := RK.get rk eg
    refine ⟨p, w, rfl, ?_, q _ _ F2 H2 M2 h2 rw' (s1.trans s2) c2⟩
    rw [keyD_v r2, ← ew]
    exact DGet.k e
theorem WS.dput {td ty tv : TE} (h : W K E tv ρ M (fun z M1 => W K E td ρ M1 (fun x M2 => W K E ty ρ M2 (fun y M3 => ∃ p ks k f, x = .ref p ∧ Sp p (O.dct ks) M3 f ∧ y = keyD k ∧ ks.length < sizeLine ∧ d.nx ρ (f (.dct (putD3 ks k z)))) Ψ) Ψ) Ψ) : WS K E (sDPut td ty tv) ρ M d Ψ := fun σ F H Mf e a s k q =>
  h σ F H Mf _ a s k fun w z F0 H0 M0 h0 r0 s0 c0 => h0 σ F0 H0 Mf _ (a.mono s0) c0 (k.mono s0) fun v x F1 H1 M1 h1 r1 s1 c1 => h1 σ F1 H1 Mf _ (a.mono (s0.trans s1)) c1 (k.mono (s0.trans s1)) fun u y F2 H2 M2 ⟨p, ks, kk, f, ex, hm, ey, hl, h2⟩ r2 s2 c2 => by
    subst ex
    subst ey
    cases r1
    obtain ⟨kvs, e', rk⟩ := own_dct c2 hm.mem
    have hlen : kvs.length = ks.length := Paired.length rk
    refine ⟨p, _, rfl, by rw [keyD_v r2]; exact DPut.k e' (by rw [hlen]; exact hl), q.nx σ ρ F2 _ _ h2 (a.mono ((s0.trans s1).trans s2)) ((s0.trans s1).trans s2) (hm.put c2 (show RO K F2 (.dK _) (.dct _) from RK.put (r0.mono (s1.trans s2)) rk))⟩
theorem WS.daug {td ty tv : TE} {rd : R2} (h : W K E td ρ M (fun x M1 => W K E ty ρ M1 (fun y M2 => ∃ p ks k z, x = .ref p ∧ (p, O.dct ks) ∈ M2 ∧ y = keyD k ∧ getD3 ks k = some z ∧ W K E tv ρ M2 (fun u M3 => OpD K rd z u M3 (fun r M4 => ∃ ks' f, Sp p (O.dct ks') M4 f ∧ ks'.length < sizeLine ∧ d.nx ρ (f (.dct (putD3 ks' k r))))) Ψ) Ψ) Ψ) : WS K E (sDAug td ty tv rd) ρ M d Ψ := fun σ F H Mf e a s k q =>
  h σ F H Mf _ a s k fun v x F1 H1 M1 h1 r1 s1 c1 => h1 σ F1 H1 Mf _ (a.mono s1) c1 (k.mono s1) fun u y F2 H2 M2 ⟨p, ks, kk, z, ex, hm, ey, eg, h2⟩ r2 s2 c2 => by
    subst ex
    subst ey
    cases r1
    obtain ⟨kvs, e', rk⟩ := own_dct c2 hm
    obtain ⟨w, ew, rw'⟩ := RK.get rk eg
    refine ⟨p, w, rfl, ?_, ?_⟩
    · rw [keyD_v r2, ← ew]
      exact DGet.k e'
    · refine h2 σ F2 H2 Mf _ (a.mono (s1.trans s2)) c2 (k.mono (s1.trans s2)) fun v3 x3 F3 H3 M3 h3 r3 s3 c3 => h3 F3 H3 Mf w v3 _ (rw'.mono s3) r3 c3 fun v4 x4 F4 H4 M4 ⟨ks', f, hm', hl', h4⟩ r4 s4 c4 => ?_
      obtain ⟨kvs', e4, rk'⟩ := own_dct c4 hm'.mem
      have hlen : kvs'.length = ks'.length := Paired.length rk'
      have s14 := ((s1.trans s2).trans s3).trans s4
      exact ⟨_, by rw [keyD_v r2]; exact DPut.k e4 (by rw [hlen]; exact hl'), q.nx σ ρ F4 _ _ h4 (a.mono s14) s14 (hm'.put c4 (show RO K F4 (.dK _) (.dct _) from RK.put r4 rk'))⟩

/-! ### methods of built-in types -/
inductive TyM (M : Mem) : String → D → Prop
  | own {p : Addr} {xs : List D} (h : (p, O.lst xs) ∈ M) : TyM M "list" (.ref p)
  | lst {xs : List D} : TyM M "list" (.lst xs)
  | str {x : Str} : TyM M "str" (.str x)
  | int {x : Int} : TyM M "int" (.int x)
  | dct {p : Addr} {ks : List (Key × D)} (h : (p, O.dct ks) ∈ M) : TyM M "dict" (.ref p)
theorem TyM.ty {T : String} {x : D} (t : TyM M T x) {F H : Hp} {Mf : Mem} {v : V} (r : RD K F v x) (s : StC K F H (M ++ Mf)) : tyV K T v H := by
  cases t with
  | own h =>
    cases r
    obtain ⟨vs, e, _⟩ := own_lst s h
    exact .inl ⟨rfl, vs, .inl (.inl e)⟩
  | lst =>
    cases r with
    | lst h rs => exact .inl ⟨rfl, _, .inl (.inl (s.sub _ _ h))⟩
  | str => cases r; rfl
  | int => cases r; rfl
  | dct h =>
    cases r
    obtain ⟨vs, e, _⟩ := own_dct s h
    exact .inr (.inr (.inl ⟨rfl, .inl ⟨vs, e⟩⟩))
theorem W.bm {T : String} {r : V → List V → Hp → VK → Prop} {to : TE} {t : TA} (h : W K E to ρ M (fun x M1 => TyM M1 T x ∧ WA K E t ρ M1 (fun xs M2 => MtD K r x xs M2 Φ) Ψ) Ψ) : W K E (tBM K T r to t) ρ M Φ Ψ := fun σ F H Mf Q a s k q =>
  h σ F H Mf _ a s k fun v x F1 H1 M1 ⟨ht, h1⟩ r1 s1 c1 => ⟨ht.ty r1 c1, h1 σ F1 H1 Mf _ (a.mono s1) c1 (k.mono s1) fun us ys F2 H2 M2 h2 r2 s2 c2 => h2 F2 H2 Mf v us Q (r1.mono s2) r2 c2 (Kont.mono q (s1.trans s2))⟩
theorem W.bm0 {T : String} {r : V → List V → Hp → VK → Prop} {to : TE} (h : W K E to ρ M (fun x M1 => TyM M1 T x ∧ MtD K r x [] M1 Φ) Ψ) : W K E (tBM0 K T r to) ρ M Φ Ψ := fun σ F H Mf Q a s k q =>
  h σ F H Mf _ a s k fun v x F1 H1 M1 ⟨ht, h1⟩ r1 s1 c1 => ⟨ht.ty r1 c1, h1 F1 H1 Mf v [] Q r1 .nil c1 (Kont.mono q s1)⟩
theorem MtD.append {p : Addr} {xs : List D} {y : D} {f : O → Mem} (hm : Sp p (O.lst xs) M f) (hl : xs.length < sizeLine) (h : Φ .non (f (.lst (xs ++ [y])))) : MtD K mAppend (.ref p) [y] M Φ := fun F H Mf v vs Q r rs s k => by
  cases r
  cases rs with
  | cons ry rr =>
    cases rr
    obtain ⟨ws, e, rw'⟩ := own_lst s hm.mem
    exact ⟨p, ws, _, rfl, rfl, e, by rw [rw'.len]; exact hl, k _ _ F _ _ h .non (Same.refl _) (hm.put s (show RO K F (.lst _) (.lst _) from rw'.app (.cons ry .nil)))⟩

/-! ### slices -/
def WO (K : PySem.W.Frag) (E : WX) (t : TO) (ρ : Env3) (M : Mem) (Θ : Option Int → Mem → Prop) (Ψ : PX) : Prop :=
  ∀ σ F H Mf Q, EnvR K F σ ρ → StC K F H (M ++ Mf) → EK K F Mf Ψ E → (∀ o F' H' M', Θ o M' → Same F F' → StC K F' H' (M' ++ Mf) → Q o H') → t σ H Q
theorem WO.no {Θ : Option Int → Mem → Prop} (h : Θ Option.none M) : WO K E tNoPart ρ M Θ Ψ := fun σ F H Mf Q a s k q => q Option.none F H M h (Same.refl _) s
theorem WO.so {te : TE} {Θ : Option Int → Mem → Prop} (h : W K E te ρ M (fun x M1 => ∃ i, x = .int i ∧ Θ (some i) M1) Ψ) : WO K E (tPart te) ρ M Θ Ψ := fun σ F H Mf Q a s k q =>
  h σ F H Mf _ a s k fun v x F1 H1 M1 ⟨i, ex, h1⟩ r1 s1 c1 => by
    subst ex
    cases r1
    exact ⟨i, rfl, q _ F1 H1 M1 h1 s1 c1⟩
def cutD (xs : List D) (lo hi : Option Int) : List D := (xs.drop (HT.sIx xs.length 0 lo)).take (HT.sIx xs.length xs.length hi - HT.sIx xs.length 0 lo)
def SlD (K : PySem.W.Frag) (r : V → Option Int → Option Int → Hp → VK → Prop) (x : D) (lo hi : Option Int) (M : Mem) (Φ : D → Mem → Prop) : Prop := ∀ F H Mf v Q, RD K F v x → StC K F H (M ++ Mf) → Kont K F Mf Φ Q → r v lo hi H Q
theorem W.sl {r : V → Option Int → Option Int → Hp → VK → Prop} {te : TE} {tl th : TO} (h : W K E te ρ M (fun x M1 => WO K E tl ρ M1 (fun lo M2 => WO K E th ρ M2 (fun hi M3 => SlD K r x lo hi M3 Φ) Ψ) Ψ) Ψ) : W K E (tSl r te tl th) ρ M Φ Ψ := fun σ F H Mf Q a s k q =>
  h σ F H Mf _ a s k fun v x F1 H1 M1 h1 r1 s1 c1 => h1 σ F1 H1 Mf _ (a.mono s1) c1 (k.mono s1) fun lo F2 H2 M2 h2 s2 c2 => h2 σ F2 H2 Mf _ (a.mono (s1.trans s2)) c2 (k.mono (s1.trans s2)) fun hi F3 H3 M3 h3 s3 c3 =>
    h3 F3 H3 Mf v Q (r1.mono (s2.trans s3)) c3 (Kont.mono q ((s1.trans s2).trans s3))
def lOr (r r' : V → Option Int → Option Int → Hp → VK → Prop) : V → Option Int → Option Int → Hp → VK → Prop := fun x lo hi H Q => r x lo hi H Q ∨ r' x lo hi H Q
def sSeq (K : PySem.W.Frag) : V → Option Int → Option Int → Hp → VK → Prop := lOr (rSlL K) (rSlT K)
theorem q_sl (K : PySem.W.Frag) {X : Cx} (e : X.K = K := by rfl) : SlR X (sSeq K) := by subst e; exact SlR.or sl_list sl_tup
theorem cutD_rs {F : Hp} {vs : List V} {xs : List D} (r : RDs K F vs xs) (lo hi : Option Int) : RDs K F (cutV vs lo hi) (cutD xs lo hi) := by
  unfold cutV cutD
  rw [r.len]
  exact (r.drop _).take _
/-- x[lo:hi] of a list: a new list -/
theorem SlD.lst {x : D} {xs : List D} {lo hi : Option Int} (q : Seq M x xs) (hb : isL x = true) (h : Φ (.lst (cutD xs lo hi)) M) : SlD K (sSeq K) x lo hi M Φ := fun F H Mf v Q r s k => by
  obtain ⟨a, vs, rfl, hl, rs⟩ := q.vL hb r s
  exact .inl ⟨a, vs, rfl, hl, fun p hp => k _ _ _ _ M h (.lst upd_same ((cutD_rs rs lo hi).mono (s.sameF hp))) (s.sameF hp) (s.newF hp)⟩
theorem SlD.tup {xs : List D} {lo hi : Option Int} (hw : ¬ (HT.sIx xs.length 0 lo = 0 ∧ HT.sIx xs.length xs.length hi = xs.length)) (h : Φ (.tup (cutD xs lo hi)) M) : SlD K (sSeq K) (.tup xs) lo hi M Φ := fun F H Mf v Q r s k => by
  cases r with
  | tup e rs => exact .inr ⟨_, _, rfl, sqt_mono s.sub e, by rw [rs.len]; exact hw, fun p hp => k _ _ _ _ M h (.tup (.inl (.inl upd_same)) ((cutD_rs rs lo hi).mono (s.sameF hp))) (s.sameF hp) (s.newF hp)⟩
end
end L3

namespace L3
open PySem PySem.Spec L2
section
variable {K : PySem.W.Frag} {E : WX} {Ψ : PX} {ρ : Env3} {M : Mem} {Φ : D → Mem → Prop}
theorem WT.test {t : TE} {Θ : Bool → Mem → Prop} (h : W K E t ρ M (fun x M1 => ∃ b, x = .bl b ∧ Θ b M1) Ψ) : WT K E (tTest t) ρ M Θ Ψ := WT.tB h
theorem W.chain {r r' : R2} {ta tb tc : TE} (h : W K E ta ρ M (fun x M1 => W K E tb ρ M1 (fun y M2 => OpD K r x y M2 (fun z M3 => ∃ b, z = .bl b ∧ (b = true → W K E tc ρ M3 (fun w M4 => OpD K r' y w M4 Φ) Ψ) ∧ (b = false → Φ (.bl false) M3))) Ψ) Ψ) : W K E (tChain r r' ta tb tc) ρ M Φ Ψ := fun σ F H Mf Q a s k q =>
  h σ F H Mf _ a s k fun v x F1 H1 M1 h1 r1 s1 c1 => h1 σ F1 H1 Mf _ (a.mono s1) c1 (k.mono s1) fun u y F2 H2 M2 h2 r2 s2 c2 => h2 F2 H2 Mf v u _ (r1.mono s2) r2 c2 fun z w F3 H3 M3 ⟨b, eb, h3, h4⟩ r3 s3 c3 => by
    subst eb
    cases r3
    refine ⟨b, rfl, ?_⟩
    cases b with
    | true => exact h3 rfl σ F3 H3 Mf _ (a.mono ((s1.trans s2).trans s3)) c3 (k.mono ((s1.trans s2).trans s3)) fun v4 x4 F4 H4 M4 h4 r4 s4 c4 => h4 F4 H4 Mf u v4 Q (r2.mono (s3.trans s4)) r4 c4 (Kont.mono q (((s1.trans s2).trans s3).trans s4))
    | false => exact q _ _ F3 H3 M3 (h4 rfl) (.bl false) ((s1.trans s2).trans s3) c3
/-! ### a dict displayed -/
def WPs (K : PySem.W.Frag) (E : WX) (trs : List (TE × TE)) (ρ : Env3) (M : Mem) (Θ : List (D × D) → Mem → Prop) (Ψ : PX) : Prop :=
  ∀ σ F H Mf Q, EnvR K F σ ρ → StC K F H (M ++ Mf) → EK K F Mf Ψ E → (∀ vs xs F' H' M', Θ xs M' → Paired (fun p q => RD K F' p.1 q.1 ∧ RD K F' p.2 q.2) vs xs → Same F F' → StC K F' H' (M' ++ Mf) → Q vs H') → tPairs trs σ H Q
theorem WPs.nil {Θ : List (D × D) → Mem → Prop} (h : Θ [] M) : WPs K E [] ρ M Θ Ψ := fun σ F H Mf Q a s k q => q [] [] F H M h .nil (Same.refl _) s
theorem WPs.cons {tk tv : TE} {trs : List (TE × TE)} {Θ : List (D × D) → Mem → Prop} (h : W K E tk ρ M (fun x M1 => W K E tv ρ M1 (fun y M2 => WPs K E trs ρ M2 (fun ps M3 => Θ ((x, y) :: ps) M3) Ψ) Ψ) Ψ) : WPs K E ((tk, tv) :: trs) ρ M Θ Ψ := fun σ F H Mf Q a s k q =>
  h σ F H Mf _ a s k fun v x F1 H1 M1 h1 r1 s1 c1 => h1 σ F1 H1 Mf _ (a.mono s1) c1 (k.mono s1) fun u y F2 H2 M2 h2 r2 s2 c2 => h2 σ F2 H2 Mf _ (a.mono (s1.trans s2)) c2 (k.mono (s1.trans s2)) fun ws ys F3 H3 M3 h3 r3 s3 c3 =>
    q _ _ F3 H3 M3 h3 (.cons ⟨r1.mono (s2.trans s3), r2.mono s3⟩ r3) ((s1.trans s2).trans s3) c3
def mergeD (ks more : List (Key × D)) : List (Key × D) := more.foldl (fun acc kv => putD3 acc kv.1 kv.2) ks
theorem RK.merge {F : Hp} : ∀ {more : List (Key × V)} {ms : List (Key × D)} {kvs : List (Key × V)} {ks : List (Key × D)}, Paired (RK K F) more ms → Paired (RK K F) kvs ks → Paired (RK K F) (mergeK kvs more) (mergeD ks ms)
  | _, _, _, _, .nil, h => h
  | p :: more, q :: ms, kvs, ks, .cons a t, h => by
    obtain ⟨h1, h2⟩ := a
    show Paired (RK K F) (mergeK (putK kvs p.1 p.2) more) (mergeD (putD3 ks q.1 q.2) ms)
    rw [h1]
    exact RK.merge t (RK.put h2 h)
theorem pairs_keys {F : Hp} : ∀ {ms : List (Key × D)} {vs : List (V × V)}, Paired (fun (p : V × V) (q : D × D) => RD K F p.1 q.1 ∧ RD K F p.2 q.2) vs (ms.map fun kv => (keyD kv.1, kv.2)) → ∃ kvs : List (Key × V), vs = kvs.map (fun kv => (kV kv.1, kv.2)) ∧ Paired (RK K F) kvs ms
  | [], _, h => by cases h; exact ⟨[], rfl, .nil⟩
  | m :: ms, _, h => by
    cases h with
    | cons a t =>
      rename_i p _
      obtain ⟨kvs, rfl, h2⟩ := pairs_keys t
      refine ⟨(m.1, p.2) :: kvs, ?_, .cons ⟨rfl, a.2⟩ h2⟩
      rw [List.map_cons, ← keyD_v a.1]
theorem W.disp {trs : List (TE × TE)} (h : WPs K E trs ρ M (fun ps M1 => ∃ ms : List (Key × D), ps = ms.map (fun kv => (keyD kv.1, kv.2)) ∧ ms.length ≤ 15 ∧ ∀ p, Φ (.ref p) ((p, .dct (mergeD [] ms)) :: M1)) Ψ) : W K E (tDisp trs) ρ M Φ Ψ := fun σ F H Mf Q a s k q => by
  intro p hp
  refine h σ F (upd H p (.dK [])) ((p, .dct []) :: Mf) _ a ((s.newO (ho := .dK []) (o := .dct []) hp Paired.nil).perm List.perm_middle.symm) (fun x ρ' M' F' H' σ' cls d p1 p2 p3 p4 p5 => ?_) fun vs xs F1 H1 M1 ⟨ms, ex, hl, h1⟩ r1 s1 c1 => ?_
  · refine k x ρ' M' F' H' σ' cls d p1 p2 p3 ?_ p5
    exact (p4.perm (List.perm_middle)).dropM (A := [(p, O.dct [])])
  · subst ex
    obtain ⟨kvs, rfl, rk⟩ := pairs_keys r1
    obtain ⟨kvs0, e0, rk0⟩ := own_dct (M := M1 ++ (p, O.dct []) :: Mf) (Mf := []) (p := p) (ks := []) (by rw [List.append_nil]; exact c1) (List.mem_append_right _ List.mem_cons_self)
    cases rk0
    refine ⟨e0, kvs, rfl, by rw [Paired.length rk]; exact hl, q _ _ F1 _ _ (h1 p) (.ref p) s1 ?_⟩
    have c2 := StC.put (o' := .dct (mergeD [] ms)) (ho := .dK (mergeK [] kvs)) c1 (show RO K F1 (.dK _) (.dct _) from RK.merge rk .nil)
    exact c2.perm List.perm_middle
/-! ### a, b = x, y; a, b, c = x, y, z of plain names -/
theorem WS.par {i j : Nat} {ta : TA} {d : DD} (h : WA K E ta ρ M (fun xs M1 => ∃ x y, xs = [x, y] ∧ d.nx ((ρ.set i (some x)).set j (some y)) M1) Ψ) : WS K E (tPar i j ta) ρ M d Ψ := fun σ F H Mf e a s k q =>
  h σ F H Mf _ a s k fun vs xs F1 H1 M1 ⟨x, y, ex, h1⟩ r1 s1 c1 => by
    subst ex
    cases r1 with
    | cons r r1 => cases r1 with
      | cons r2 r1 =>
        cases r1
        exact ⟨_, _, rfl, q.nx _ _ F1 H1 M1 h1 (((a.mono s1).set r i).set r2 j) s1 c1⟩
/-- a tuple or a list of that length -/
def gSeq (K : PySem.W.Frag) (n : Nat) (t : TGs) : TG := fun v σ H Q => gTup K n t v σ H Q ∨ gLst K n t v σ H Q
theorem q_gseq (K : PySem.W.Frag) {X : Cx} {es : List Expr} {k : Nat} {pos : Pos} {t : TGs} {n : Nat} (hc : X.calm = true) (h : PGs X es t) (hn : (assignEach es X.env).length = n := by rfl) (hst : (assignEach es X.env).findIdx? (·.1) = none := by rfl) (e : X.K = K := by rfl) : PG X (.Tuple es k pos) (gSeq K n t) := by
  subst e
  exact ⟨fun pins s σ H v u Q I r w => w.elim ((pg_tup hc h hn hst).run pins s σ H v u Q I r) ((pg_lst hc h hn hst).run pins s σ H v u Q I r)⟩
theorem WG.seq {n : Nat} {t : TGs} {x : D} {xs : List D} {Θ : Env3 → Mem → Prop} (hs : Seq M x xs) (hl : xs.length = n) (h : WGs K E t xs ρ M Θ Ψ) : WG K E (gSeq K n t) x ρ M Θ Ψ := fun σ F H Mf v Q r a s k q => by
  obtain ⟨b, vs, rfl, hq, rs⟩ := hs.vv r s
  rcases hq with hq | hq
  · exact .inr ⟨b, vs, rfl, hq, rs.len.trans hl, h σ F H Mf _ Q rs a s k q⟩
  · exact .inl ⟨b, vs, rfl, hq, rs.len.trans hl, h σ F H Mf _ Q rs a s k q⟩
theorem gOnly_seq {n : Nat} {t : TGs} {vs : List Nat} (h : GsOnly t vs) : GOnly (gSeq K n t) vs := fun v σ H Q q => q.elim (fun ⟨a, xs, e, hs, hl, q⟩ => .inl ⟨a, xs, e, hs, hl, h _ _ _ _ q⟩) (fun ⟨a, xs, e, hs, hl, q⟩ => .inr ⟨a, xs, e, hs, hl, h _ _ _ _ q⟩)
theorem gMono_seq {n : Nat} {t : TGs} (h : GsMono t) : GMono (gSeq K n t) := fun v σ H Q Q' m q => q.elim (fun ⟨a, xs, e, hs, hl, q⟩ => .inl ⟨a, xs, e, hs, hl, h _ _ _ _ _ m q⟩) (fun ⟨a, xs, e, hs, hl, q⟩ => .inr ⟨a, xs, e, hs, hl, h _ _ _ _ _ m q⟩)
end
/-- a def as it stands behind the top -/
structure Df (K : PySem.W.Frag) (mg : Str → Option Value) (x : Str) (st : Stmt) (ps : List Str) where
  f : Addr
  fd : FuncData
  F : Fun K x x st f fd
  g : mg x = some (.ref f)
  b : Binds K fd ps []
theorem hu64 {A : Around} {k : Nat} (hr : Room k A) : A.units + 64 < cLine := hr.units
section
variable (K : PySem.W.Frag) {X : Cx}
theorem q_enum {e : Expr} {ta : TA} {p pos tpos : Pos} {elts : List Expr} {kk : Nat} (hg : Gl X "enumerate") (hm : X.mg "enumerate" = none) (ha : PA X [e] ta) (hs : starEach [e] X.env = [(false, eval e X.env)] := by rfl) (eK : X.K = K := by rfl) :
    PI X (.Tuple elts kk tpos) (.Call (.Name "enumerate" p) [e] [] pos) (iEnum K ta) := by subst eK; exact pi_enum hg hm ha hs
theorem q_zip {e e2 : Expr} {ta : TA} {p pos tpos : Pos} {elts : List Expr} {kk : Nat} (hg : Gl X "zip") (hm : X.mg "zip" = none) (ha : PA X [e, e2] ta)
    (hs : starEach [e, e2] X.env = (false, eval e X.env) :: starEach [e2] X.env := by rfl) (hpl : (backTo pos (starEach [e2] X.env)).any (·.1) = false := by rfl) (eK : X.K = K := by rfl) :
    PI X (.Tuple elts kk tpos) (.Call (.Name "zip" p) [e, e2] [] pos) (RZ.iZipA K ta) := by subst eK; exact RZ.pi_zipA hg hm ha hs hpl
theorem q_bm {o e : Expr} {es : List Expr} {to : TE} {t : TA} {name : Str} {apos cpos : Pos} {T id : String} {r : V → List V → Hp → VK → Prop} (pa : PlainAttrs T) (slot : Slot T name id) (hty : typeOf (.builtin id) = pure (.type "method_descriptor")) (hm : MtR X id r) (ho : PE X o to) (ha : PA X (e :: es) t)
    (hbase : attributeBase o name X.env (eval o X.env) = eval o X.env := by rfl)
    (hfew : ((backTo cpos (starEach (e :: es) X.env)).all (fun x => !x.1) && (backToKw cpos (keywordEach [] X.env)).all (fun x => x.1.isSome)
      && decide ((e :: es).length + ([] : List Keyword).length + (if ([] : List Keyword).isEmpty then 0 else 1) < 30)) = true := by rfl)
    (hline : (apos.endLine == cpos.line) = true := by rfl) (hs : starEach (e :: es) X.env = (false, eval e X.env) :: starEach es X.env := by rfl) (hplain : (backTo cpos (starEach es X.env)).any (·.1) = false := by rfl) (eK : X.K = K := by rfl) :
    PE X (.Call (.Attribute o name apos) (e :: es) [] cpos) (tBM K T r to t) := by subst eK; exact pe_bm pa slot hty hm ho ha hbase hfew hline hs hplain
theorem q_bm0 {o : Expr} {to : TE} {name : Str} {apos cpos : Pos} {T id : String} {r : V → List V → Hp → VK → Prop} (pa : PlainAttrs T) (slot : Slot T name id) (hty : typeOf (.builtin id) = pure (.type "method_descriptor")) (hm : MtR X id r) (ho : PE X o to)
    (hbase : attributeBase o name X.env (eval o X.env) = eval o X.env := by rfl) (hline : (apos.endLine == cpos.line) = true := by rfl) (eK : X.K = K := by rfl) : PE X (.Call (.Attribute o name apos) [] [] cpos) (tBM0 K T r to) := by subst eK; exact pe_bm0 pa slot hty hm ho hbase hline
theorem q_fld {e : Expr} {f : Str} {pos : Pos} {ta : TE} (he : PE X e ta) (hb : attributeBase e f X.env (eval e X.env) = eval e X.env := by rfl) (eK : X.K = K := by rfl) : PE X (.Attribute e f pos) (tFld K ta f) := by subst eK; exact pe_fld he hb
end
end L3

namespace L3
open PySem PySem.Spec L2
section
variable {K : PySem.W.Frag} {E : WX} {Ψ : PX} {ρ : Env3} {M : Mem} {N B C : Env3 → Mem → Prop} {R : D → Mem → Prop}
theorem S.next (h : N ρ M) : WS K E tNext ρ M ⟨N, R, B, C⟩ Ψ := WS.next h
theorem S.seq {t u : TS} (h : WS K E t ρ M ⟨fun ρ1 M1 => WS K E u ρ1 M1 ⟨N, R, B, C⟩ Ψ, R, B, C⟩ Ψ) : WS K E (tSeq t u) ρ M ⟨N, R, B, C⟩ Ψ := WS.seq h
theorem S.asg {te : TE} {g : TG} (h : W K E te ρ M (fun x M1 => WG K E g x ρ M1 N Ψ) Ψ) : WS K E (tAsg te g) ρ M ⟨N, R, B, C⟩ Ψ := WS.asg h
theorem S.aug {i : Nat} {te : TE} {ti : TIp} {x : D} (h0 : ρ[i]? = some (some x)) (h : W K E te ρ M (fun y M1 => OpD K ti x y M1 (fun z M2 => WG K E (gName i) z ρ M2 N Ψ)) Ψ) : WS K E (tAug i te ti) ρ M ⟨N, R, B, C⟩ Ψ :=
  fun σ F H Mf e a s k q => by
    obtain ⟨v, h1, h2⟩ := a.get h0
    exact ⟨v, h1, h σ F H Mf _ a s k fun u y F1 H1 M1 g1 r1 s1 c1 => g1 F1 H1 Mf v u _ (h2.mono s1) r1 c1 fun w z F2 H2 M2 g2 r2 s2 c2 =>
      g2 σ F2 H2 Mf w _ r2 (a.mono (s1.trans s2)) c2 (k.mono (s1.trans s2)) fun σ3 ρ3 F3 H3 M3 p a3 s3 c3 => q.nx σ3 ρ3 F3 H3 M3 p a3 ((s1.trans s2).trans s3) c3⟩
theorem S.ret {te : TE} (h : W K E te ρ M R Ψ) : WS K E (tRet te) ρ M ⟨N, R, B, C⟩ Ψ := WS.ret h
theorem S.retN (h : R .non M) : WS K E tRetN ρ M ⟨N, R, B, C⟩ Ψ := WS.retN h
theorem S.drop {te : TE} (h : W K E te ρ M (fun _ M1 => N ρ M1) Ψ) : WS K E (tDrop te) ρ M ⟨N, R, B, C⟩ Ψ := WS.drop h
theorem S.ite {c : TT} {t u : TS} (h : WT K E c ρ M (fun b M1 => (b = true → WS K E t ρ M1 ⟨N, R, B, C⟩ Ψ) ∧ (b = false → WS K E u ρ M1 ⟨N, R, B, C⟩ Ψ)) Ψ) : WS K E (tIfS c t u) ρ M ⟨N, R, B, C⟩ Ψ := WS.ite h
theorem S.brk (h : B ρ M) : WS K E tBreak ρ M ⟨N, R, B, C⟩ Ψ := WS.brk h
theorem S.cnt (h : C ρ M) : WS K E tCont ρ M ⟨N, R, B, C⟩ Ψ := WS.cnt h
theorem S.dput {td ty tv : TE} (h : W K E tv ρ M (fun z M1 => W K E td ρ M1 (fun x M2 => W K E ty ρ M2 (fun y M3 => ∃ p ks k f, x = .ref p ∧ Sp p (O.dct ks) M3 f ∧ y = keyD k ∧ ks.length < sizeLine ∧ N ρ (f (.dct (putD3 ks k z)))) Ψ) Ψ) Ψ) : WS K E (sDPut td ty tv) ρ M ⟨N, R, B, C⟩ Ψ := WS.dput h
theorem S.daug {td ty tv : TE} {rd : R2} (h : W K E td ρ M (fun x M1 => W K E ty ρ M1 (fun y M2 => ∃ p ks k z, x = .ref p ∧ (p, O.dct ks) ∈ M2 ∧ y = keyD k ∧ getD3 ks k = some z ∧ W K E tv ρ M2 (fun u M3 => OpD K rd z u M3 (fun r M4 => ∃ ks' f, Sp p (O.dct ks') M4 f ∧ ks'.length < sizeLine ∧ N ρ (f (.dct (putD3 ks' k r))))) Ψ) Ψ) Ψ) : WS K E (sDAug td ty tv rd) ρ M ⟨N, R, B, C⟩ Ψ := WS.daug h
theorem S.par {i j : Nat} {ta : TA} (h : WA K E ta ρ M (fun xs M1 => ∃ x y, xs = [x, y] ∧ WG K E (gName i) x ρ M1 (fun ρ2 M2 => WG K E (gName j) y ρ2 M2 N Ψ) Ψ) Ψ) : WS K E (tPar i j ta) ρ M ⟨N, R, B, C⟩ Ψ :=
  fun σ F H Mf e a s k q => h σ F H Mf _ a s k fun vs xs F1 H1 M1 ⟨x, y, ex, h1⟩ r1 s1 c1 => by
    subst ex
    cases r1 with
    | cons r r1 => cases r1 with
      | cons r2 r1 =>
        cases r1
        exact ⟨_, _, rfl, h1 σ F1 H1 Mf _ (fun σ2 H2 => e.nx (σ2.set j (some _)) H2) r (a.mono s1) c1 (k.mono s1) fun σ2 ρ2 F2 H2 M2 h2 a2 s2 c2 => h2 σ2 F2 H2 Mf _ _ (r2.mono s2) a2 c2 (k.mono (s1.trans s2)) fun σ3 ρ3 F3 H3 M3 h3 a3 s3 c3 => q.nx σ3 ρ3 F3 H3 M3 h3 a3 ((s1.trans s2).trans s3) c3⟩
theorem S.for_ {wi : TI} {g : TG} {tb : TS} (h : WI K E wi ρ M (fun s M1 => ∃ I : Nat → Env3 → Mem → Prop, I 0 ρ M1 ∧ (∀ i ρ' M', i ≤ s.its.length → I i ρ' M' → s.need M') ∧
    (∀ i x ρ' M', s.its[i]? = some x → I i ρ' M' → WG K E g x ρ' M' (fun ρ2 M2 => WS K E tb ρ2 M2 ⟨I (i + 1), R, N, I (i + 1)⟩ Ψ) Ψ) ∧ ∀ ρ' M', I s.its.length ρ' M' → N ρ' M') Ψ) : WS K E (tFor wi g tb) ρ M ⟨N, R, B, C⟩ Ψ := WS.for_ h
theorem S.while_ {c : TT} {tb : TS} (I : Nat → Env3 → Mem → Prop) (m0 : Nat) (h0 : I m0 ρ M) (hs : ∀ m ρ' M', I m ρ' M' → WT K E c ρ' M' (fun b M1 => (b = true → WS K E tb ρ' M1 ⟨fun ρ2 M2 => ∃ m', m' < m ∧ I m' ρ2 M2, R, N, fun ρ2 M2 => ∃ m', m' < m ∧ I m' ρ2 M2⟩ Ψ) ∧ (b = false → N ρ' M1)) Ψ) :
    WS K E (tWhile c tb) ρ M ⟨N, R, B, C⟩ Ψ := WS.while_ I m0 h0 hs
theorem G.name {i : Nat} {x : D} {ρ' : Env3} {Θ : Env3 → Mem → Prop} (e : ρ.set i (some x) = ρ') (h : Θ ρ' M) : WG K E (gName i) x ρ M Θ Ψ := WG.name (e ▸ h)
/-- what passes a def's frame -/
theorem pass_of {P : Program} {w : World} {mg : Str → Option Value} {base : Heap} {N : List Str} {qual : Str} {scope : Scope} {f : Addr} {cdv : Value} {A : Around} {outer : List Env} {s : Shared} {H : Hp} {E : XK} {σ : L2.St} :
    PassesAt (L2.CX P w) (cxOf (L2.CX P w) P w K mg base N qual scope f cdv A outer s H E) σ (WE (fun cls d _ H => E cls d H) σ) := passAt (takes_of rfl rfl rfl rfl) σ
theorem own_of {P : Program} {w : World} {mg : Str → Option Value} {base : Heap} {N : List Str} {qual : Str} {scope : Scope} {f : Addr} {cdv : Value} {A : Around} {outer : List Env} {s : Shared} {H : Hp} {E : XK} :
    PassesOwn (model P w) (cxOf (L2.CX P w) P w K mg base N qual scope f cdv A outer s H E).A (cxOf (L2.CX P w) P w K mg base N qual scope f cdv A outer s H E).env (cxOf (L2.CX P w) P w K mg base N qual scope f cdv A outer s H E).xe := passes_of (K := fun e s'' => L2.CX P w outer H s E e s'') rfl
theorem pass_blk {X : Cx} {σ : L2.St} : PassesAt (L2.CX X.prog X.w) X σ (WE E0 σ) := passAt takes0 σ
end
section
variable {X : Cx}
theorem q_lstO {es : List Expr} {t : TA} {pos : Pos} (h : PA X es t) : PE X (.List es pos) (tLstO t) := pe_lst h
theorem q_lcO {e : Expr} {wi : TI} {g : TG} {tt : TT} {te : TE} {vs : List Nat} (h : PE X e (tLc wi g tt te vs)) : PE X e (tLcO wi g tt te vs) := h
theorem q_setO {st : Stmt} {wi : TI} {g : TG} {tt : TT} {te : TE} {vs : List Nat} {i : Nat} (h : PS X st (tAsg (tLc wi g tt te vs) (gName i))) : PS X st (tAsg (tLcO wi g tt te vs) (gName i)) := h
end
theorem b_len : bootBuiltins "len" = some (.builtin "len") := by first | exact PySem.boot_len | exact PyProof.Rows.boot_len | decide +kernel
theorem b_abs : bootBuiltins "abs" = some (.builtin "abs") := by first | exact PySem.boot_abs | exact PyProof.Rows.boot_abs | decide +kernel
theorem b_max : bootBuiltins "max" = some (.builtin "max") := by first | exact PySem.boot_max | exact PyProof.Rows.boot_max | decide +kernel
theorem b_min : bootBuiltins "min" = some (.builtin "min") := by first | exact PySem.boot_min | exact PyProof.Rows.boot_min | decide +kernel
theorem b_sorted : bootBuiltins "sorted" = some (.builtin "sorted") := by first | exact PySem.boot_sorted | exact PyProof.Rows.boot_sorted | decide +kernel
theorem b_sum : bootBuiltins "sum" = some (.builtin "sum") := by first | exact PySem.boot_sum | exact PyProof.Rows.boot_sum | decide +kernel
theorem b_any : bootBuiltins "any" = some (.builtin "any") := by first | exact PySem.boot_any | exact PyProof.Rows.boot_any | decide +kernel
theorem b_all : bootBuiltins "all" = some (.builtin "all") := by first | exact PySem.boot_all | exact PyProof.Rows.boot_all | decide +kernel
theorem b_isinstance : bootBuiltins "isinstance" = some (.builtin "isinstance") := by first | exact PySem.boot_isinstance | exact PyProof.Rows.boot_isinstance | decide +kernel
theorem b_repr : bootBuiltins "repr" = some (.builtin "repr") := by first | exact PySem.boot_repr | exact PyProof.Rows.boot_repr | decide +kernel
theorem b_ord : bootBuiltins "ord" = some (.builtin "ord") := by first | exact PySem.boot_ord | exact PyProof.Rows.boot_ord | decide +kernel
theorem b_list : bootBuiltins "list" = some (.type "list") := by first | exact PySem.boot_list | exact PyProof.Rows.boot_list | decide +kernel
theorem b_tuple : bootBuiltins "tuple" = some (.type "tuple") := by first | exact PySem.boot_tuple | exact PyProof.Rows.boot_tuple | decide +kernel
theorem b_int : bootBuiltins "int" = some (.type "int") := by first | exact PySem.boot_int | exact PyProof.Rows.boot_int | decide +kernel
theorem b_bool : bootBuiltins "bool" = some (.type "bool") := by first | exact PySem.boot_bool | exact PyProof.Rows.boot_bool | decide +kernel
theorem b_str : bootBuiltins "str" = some (.type "str") := by first | exact PySem.boot_str | exact PyProof.Rows.boot_str | decide +kernel
theorem b_dict : bootBuiltins "dict" = some (.type "dict") := by first | exact PySem.boot_dict | exact PyProof.Rows.boot_dict | decide +kernel
/-! ### the law's def -/
def spLaw : SpD := fun xs M Φ _ => ∃ ns, xs = [.scr ns] ∧ M = [] ∧ ns.length ≤ 63 ∧ (∀ z ∈ ns, Builtin.Int.intBits z ≤ 1048576) ∧ ∀ M', Φ (.bl true) M'
theorem law_start {K : PySem.W.Frag} {H : Hp} {a : Addr} {ns : List Int} (hl : ns.length ≤ 63) (hb : ∀ z ∈ ns, Builtin.Int.intBits z ≤ 1048576) (hS : SqL K H a (ns.map V.int)) : lift K spLaw [.ref a] H (fun v _ => v = .bl true) fun _ _ _ => False :=
  ⟨[.scr ns], H, [], [], fun x _ => x = .bl true, fun _ _ => False, .cons (.scr hS) .nil, ⟨Same.refl _, (fun _ _ m => by cases m), List.nodup_nil⟩, ⟨ns, rfl, rfl, hl, hb, fun _ => rfl⟩, fun v x F' H' M' e r _ _ => by subst e; cases r; rfl, fun _ _ _ _ _ _ p => p.elim⟩
theorem cx_none {P : Program} {w : World} {H : Hp} {s : Shared} {e : Value} {s' : Shared} (z : L2.CX P w [] H s (fun _ _ _ => False) e s') : False := by
  obtain ⟨_, _, _, _, _, _, _, _, _, _, _, _, z⟩ := z
  exact z
/-! ### sizes -/
theorem cdivw {i j : Int} (h0 : 0 < j) (h : j < 2 ^ 2000) : CDivW i j := wide_div h0 (b := 2000) (by omega) (by decide) (by decide)
theorem cmulw {i j : Int} (a b : Nat) (ha : i.natAbs < 2 ^ a) (hb : j.natAbs < 2 ^ b) (h0 : 0 < a := by decide) (h1 : 0 < b := by decide) (h : a + b ≤ 1000000 := by decide) : CMulW i j := wide_mul ha hb h0 h1 h
theorem line_of {n : Nat} (h : n ≤ 100000) : n ≤ sizeLine := Nat.le_trans h (by decide)
theorem line_lt {n : Nat} (h : n < 100000) : n < sizeLine := Nat.lt_of_lt_of_le h (by decide)
end L3
namespace L3
open PySem PySem.Spec L2
theorem lenOk {xs : List D} {P : Prop} (h : xs.length ≤ 1000) (p : P) : xs.length ≤ sizeLine ∧ P := ⟨line_of (Nat.le_trans h (by decide)), p⟩
theorem bl_intro {b : Bool} {Θ : Bool → Prop} (h : Θ b) : ∃ c, D.bl b = .bl c ∧ Θ c := ⟨b, rfl, h⟩
theorem two {p A B : Prop} [Decidable p] (h1 : p → A) (h2 : ¬ p → B) : (decide p = true → A) ∧ (decide p = false → B) := ⟨fun h => h1 (of_decide_eq_true h), fun h => h2 (of_decide_eq_false h)⟩
theorem twoN {p A B : Prop} [Decidable p] (h1 : ¬ p → A) (h2 : p → B) : ((!decide p) = true → A) ∧ ((!decide p) = false → B) := ⟨fun h => h1 (of_decide_eq_false (by simpa using h)), fun h => h2 (of_decide_eq_true (by simpa using h))⟩
theorem getD3_pos {k : Key} {v : D} {r : List (Key × D)} : getD3 ((k, v) :: r) k = some v := by simp [getD3]
theorem getD3_neg {a k : Key} {v : D} {r : List (Key × D)} (h : a ≠ k) : getD3 ((a, v) :: r) k = getD3 r k := by simp [getD3, h]
theorem putD3_pos {k : Key} {v z : D} {r : List (Key × D)} (h : ∀ p ∈ r, p.1 ≠ k) : putD3 ((k, v) :: r) k z = (k, z) :: r := by
  unfold putD3
  rw [if_pos (by simp)]
  rw [List.map_cons, if_pos rfl]
  congr 1
  rw [List.map_congr_left (g := id)]
  · simp
  · intro p hp
    rw [if_neg (h p hp)]
    rfl
theorem putD3_neg {a k : Key} {v z : D} {r : List (Key × D)} (h : a ≠ k) : putD3 ((a, v) :: r) k z = (a, v) :: putD3 r k z := by
  unfold putD3
  rw [List.any_cons, decide_eq_false h, Bool.false_or]
  split
  · rw [List.map_cons, if_neg h]
  · rfl
theorem putD3_nil {k : Key} {z : D} : putD3 [] k z = [(k, z)] := rfl
end L3
namespace L3
open PySem PySem.Spec L2
theorem WS.env {K : PySem.W.Frag} {E : WX} {Ψ : PX} {ρ ρ' : Env3} {M : Mem} {t : TS} {d : DD} (e : ρ = ρ') (h : WS K E t ρ' M d Ψ) : WS K E t ρ M d Ψ := e ▸ h
theorem W.env {K : PySem.W.Frag} {E : WX} {Ψ : PX} {ρ ρ' : Env3} {M : Mem} {t : TE} {Φ : D → Mem → Prop} (e : ρ = ρ') (h : W K E t ρ' M Φ Ψ) : W K E t ρ M Φ Ψ := e ▸ h
abbrev kS (x : Str) : Key := Sum.inr x
end L3
namespace L3
open PySem PySem.Spec L2
section
variable {K : PySem.W.Frag} {E : WX} {Ψ : PX} {ρ : Env3} {M : Mem} {N B C : Env3 → Mem → Prop} {R : D → Mem → Prop}
/-- what holds between two statements -/
theorem S.cut {t u : TS} (P : Env3 → Mem → Prop) (h : WS K E t ρ M ⟨P, R, B, C⟩ Ψ) (h2 : ∀ ρ' M', P ρ' M' → WS K E u ρ' M' ⟨N, R, B, C⟩ Ψ) : WS K E (tSeq t u) ρ M ⟨N, R, B, C⟩ Ψ :=
  S.seq (WS.mono h h2 (fun _ _ h => h) (fun _ _ h => h) (fun _ _ h => h))
theorem S.iteP {c : TT} {t u : TS} (P : Bool → Mem → Prop) (h : WT K E c ρ M P Ψ) (h1 : ∀ M1, P true M1 → WS K E t ρ M1 ⟨N, R, B, C⟩ Ψ) (h2 : ∀ M1, P false M1 → WS K E u ρ M1 ⟨N, R, B, C⟩ Ψ) : WS K E (tIfS c t u) ρ M ⟨N, R, B, C⟩ Ψ :=
  S.ite (WT.mono h fun b M1 p => ⟨fun e => h1 M1 (e ▸ p), fun e => h2 M1 (e ▸ p)⟩)
theorem W.cut {t : TE} {Φ : D → Mem → Prop} (P : D → Mem → Prop) (h : W K E t ρ M P Ψ) (h2 : ∀ x M1, P x M1 → Φ x M1) : W K E t ρ M Φ Ψ := W.mono h h2
end
end L3
namespace L3
open PySem PySem.Spec L2
section
variable {K : PySem.W.Frag} {E : WX} {Ψ : PX} {ρ : Env3} {M : Mem} {Φ : D → Mem → Prop}
theorem Sp.perm {p : Addr} {o : O} {M : Mem} {f : O → Mem} (h : Sp p o M f) : ∃ R, M.Perm ((p, o) :: R) ∧ ∀ u, (f u).Perm ((p, u) :: R) := by
  obtain ⟨A, B, rfl, rfl⟩ := h.split
  exact ⟨A ++ B, List.perm_middle, fun u => List.perm_middle⟩
/-- a call that needs one cell -/
theorem W.call1 {sp : SpD} {t : TA} (h : WA K E t ρ M (fun xs M1 => ∃ p o f, Sp p o M1 f ∧ sp xs [(p, o)] (fun x M' => ∃ o', M' = [(p, o')] ∧ Φ x (f o')) (fun x M' => ∃ o', M' = [(p, o')] ∧ Ψ x ρ (f o'))) Ψ) : W K E (tCallSD (lift K sp) [] (WE E) t) ρ M Φ Ψ := fun σ F H Mf Q e s k q =>
  h σ F H Mf _ e s k fun vs xs F1 H1 M1 ⟨p, o, f, hm, hs⟩ r1 s1 c1 => by
    obtain ⟨R, h1, h2⟩ := hm.perm
    rw [List.append_nil]
    exact ⟨xs, F1, [(p, o)], R ++ Mf, _, _, r1, c1.perm (perm_fr h1), hs, fun v x F2 H2 M2 ⟨o', e2, g2⟩ r2 s2 c2 => q v x F2 H2 (f o') g2 r2 (s1.trans s2) (by subst e2; exact c2.perm (perm_fr (h2 o')).symm),
      fun x M2 F2 H2 cls d ⟨o', e2, g2⟩ s2 c2 er => k x ρ (f o') F2 H2 σ cls d g2 (e.mono (s1.trans s2)) (s1.trans s2) (by subst e2; exact c2.perm (perm_fr (h2 o')).symm) er⟩
end
end L3
namespace L3
open PySem PySem.Spec L2
section
variable {K : PySem.W.Frag} {E : WX} {Ψ : PX} {ρ : Env3} {M : Mem} {N B C : Env3 → Mem → Prop} {R : D → Mem → Prop} {Φ : D → Mem → Prop}
theorem S.to {t : TS} (P : Env3 → Mem → Prop) (h : WS K E t ρ M ⟨P, R, B, C⟩ Ψ) (h2 : ∀ ρ' M', P ρ' M' → N ρ' M') : WS K E t ρ M ⟨N, R, B, C⟩ Ψ :=
  WS.mono h h2 (fun _ _ h => h) (fun _ _ h => h) (fun _ _ h => h)
/-- xs.append(e), xs a cell of ours -/
theorem W.app {to : TE} {ta : TA} {p : Addr} {xs : List D} {f : O → Mem} (h1 : W K E to ρ M (fun x M1 => x = .ref p ∧ M1 = M) Ψ) (hm : Sp p (O.lst xs) M f) (hl : xs.length < 100000) (h2 : WA K E ta ρ M (fun ys M2 => ∃ y xs' f', ys = [y] ∧ Sp p (O.lst xs') M2 f' ∧ xs'.length < 100000 ∧ Φ .non (f' (.lst (xs' ++ [y])))) Ψ) : W K E (tBM K "list" mAppend to ta) ρ M Φ Ψ :=
  W.bm (W.mono h1 fun x M1 ⟨e1, e2⟩ => by
    subst e1
    subst e2
    exact ⟨.own hm.mem, fun σ F H Mf Q a s k q => h2 σ F H Mf Q a s k fun vs ys F' H' M' ⟨y, xs', f', ey, hm', hl', hp⟩ => q vs ys F' H' M' (by subst ey; exact MtD.append hm' (line_lt hl') hp)⟩)
end
end L3
namespace L3
open PySem PySem.Spec L2
section
variable {K : PySem.W.Frag} {E : WX} {Ψ : PX} {ρ : Env3} {M : Mem} {N B C : Env3 → Mem → Prop} {R : D → Mem → Prop} {Φ : D → Mem → Prop}
/-- no cell is needed any more -/
theorem S.clear {t : TS} (h : WS K E t ρ [] ⟨N, R, B, C⟩ Ψ) : WS K E t ρ M ⟨N, R, B, C⟩ Ψ := by
  have := WS.forget (A := M) (M := []) h
  rw [List.append_nil] at this
  exact this
theorem S.drop1 {t : TS} {c : Addr × O} (h : WS K E t ρ M ⟨N, R, B, C⟩ Ψ) : WS K E t ρ (c :: M) ⟨N, R, B, C⟩ Ψ := WS.forget (A := [c]) h
theorem paired_one {α β : Type} {R : α → β → Prop} {xs : List α} {ys : List β} (h : Paired R xs ys) (hl : xs.length = 1) : ∃ x y, xs = [x] ∧ ys = [y] ∧ R x y := by
  cases h with
  | nil => simp at hl
  | cons r t =>
    cases t with
    | nil => exact ⟨_, _, rfl, rfl, r⟩
    | cons _ _ => simp at hl
theorem Paired.app {α β : Type} {R : α → β → Prop} : ∀ {xs zs : List α} {ys ws : List β}, Paired R xs ys → Paired R zs ws → Paired R (xs ++ zs) (ys ++ ws)
  | _, _, _, _, .nil, h => h
  | _, _, _, _, .cons r t, h => .cons r (Paired.app t h)
theorem Paired.at {α β : Type} {R : α → β → Prop} : ∀ {xs : List α} {ys : List β} {i : Nat} {y : β}, Paired R xs ys → ys[i]? = some y → ∃ x, xs[i]? = some x ∧ R x y
  | _, _, _, _, .nil, h => by simp at h
  | _, _, 0, _, .cons r _, h => by simp at h; subst h; exact ⟨_, rfl, r⟩
  | _, _, i + 1, y, .cons _ t, h => Paired.at (i := i) t (by simpa using h)
theorem Paired.atL {α β : Type} {R : α → β → Prop} : ∀ {xs : List α} {ys : List β} {i : Nat} {x : α}, Paired R xs ys → xs[i]? = some x → ∃ y, ys[i]? = some y ∧ R x y
  | _, _, _, _, .nil, h => by simp at h
  | _, _, 0, _, .cons r _, h => by simp at h; subst h; exact ⟨_, rfl, r⟩
  | _, _, i + 1, y, .cons _ t, h => Paired.atL (i := i) t (by simpa using h)
theorem Paired.rep {α β : Type} {R : α → β → Prop} {x : α} {y : β} (r : R x y) : ∀ n : Nat, Paired R (List.replicate n x) (List.replicate n y)
  | 0 => .nil
  | n + 1 => .cons r (Paired.rep r n)
end
end L3
namespace L3
open PySem PySem.Spec L2
theorem tyOwn {M : Mem} {p : Addr} {xs : List D} {P : Prop} (h : (p, O.lst xs) ∈ M) (q : P) : TyM M "list" (.ref p) ∧ P := ⟨.own h, q⟩
end L3
namespace L3
open PySem PySem.Spec L2
section
variable {K : PySem.W.Frag} {E : WX} {Ψ : PX} {ρ : Env3} {M : Mem} {Φ : D → Mem → Prop}
theorem WT.yes' {t : TT} {Θ : Bool → Mem → Prop} (h : Θ true M) : WT K E tYes ρ M Θ Ψ := WT.yes h
/-- [e for x in xs], any items: each is as Py says, the cells stay as Iv says -/
theorem W.lcN {wi : TI} {g : TG} {te : TE} {vs : List Nat} (hg : GOnly g vs) (h : WI K E wi ρ M (fun s M1 => ∃ (Iv : Mem → Prop) (Py : Nat → D → Prop), s.its.length < 100000 ∧ Iv M1 ∧ (∀ M', Iv M' → s.need M') ∧
    (∀ (i : Nat) (x : D) (M' : Mem), s.its[i]? = some x → Iv M' → WG K E0 g x (wipeD ρ vs) M' (fun ρ2 M2 => W K E0 te ρ2 M2 (fun y M3 => Py i y ∧ Iv M3) P0) P0) ∧
    ∀ acc M', Iv M' → acc.length = s.its.length → (∀ (i : Nat) y, acc[i]? = some y → Py i y) → Φ (.lst acc) M') Ψ) : W K E (tLc wi g tYes te vs) ρ M Φ Ψ := by
  refine W.lc hg fun σ F H Mf R a s k q => h σ F H Mf R a s k fun sr F' H' M' J ⟨Iv, Py, hl, h0, hn, ht, he⟩ s' c' jr => q sr F' H' M' J ?_ s' c' jr
  refine ⟨fun i acc M' => Iv M' ∧ acc.length = i ∧ ∀ (i : Nat) y, acc[i]? = some y → Py i y, ⟨h0, rfl, fun i y h => by simp at h⟩, fun i acc M' _ ⟨h1, _⟩ => hn M' h1, fun i x acc M' hx ⟨h1, h2, h3⟩ => ⟨line_lt ?_, ?_⟩, fun acc M' ⟨h1, h2, h3⟩ => he acc M' h1 h2 h3⟩
  · have := (List.getElem?_eq_some_iff.mp hx).1
    omega
  · intro σ F H Mf v Q r a s k q
    refine ht i x M' hx h1 σ F H Mf v Q r a s k fun σ' ρ' F' H' M2 hw => q σ' ρ' F' H' M2 (WT.yes ⟨fun _ => W.mono hw ?_, fun z => Bool.noConfusion z⟩)
    rintro y M3 ⟨hy, hI⟩
    refine ⟨hI, by rw [List.length_append, h2]; rfl, fun j z hz => ?_⟩
    by_cases hj : j < acc.length
    · rw [List.getElem?_append_left hj] at hz
      exact h3 j z hz
    · rw [List.getElem?_append_right (by omega)] at hz
      have hj2 : j - acc.length = 0 := by
        have := (List.getElem?_eq_some_iff.mp hz).1
        simp at this
        exact this
      rw [hj2] at hz
      cases hz
      have : j = i := by omega
      subst this
      exact hy
/-- [e for x in xs], told item by item; the cells stay -/
theorem W.lcL {wi : TI} {g : TG} {te : TE} {vs : List Nat} (hg : GOnly g vs) (h : WI K E wi ρ M (fun s M1 => ∃ ds : List D, s.its.length < 100000 ∧ ds.length = s.its.length ∧ s.need M1 ∧
    (∀ (i : Nat) (x y0 : D), s.its[i]? = some x → ds[i]? = some y0 → WG K E0 g x (wipeD ρ vs) M1 (fun ρ2 M2 => W K E0 te ρ2 M2 (fun y M3 => y = y0 ∧ M3 = M1) P0) P0) ∧ Φ (.lst ds) M1) Ψ) : W K E (tLc wi g tYes te vs) ρ M Φ Ψ := by
  refine W.lcN hg fun σ F H Mf R a s k q => h σ F H Mf R a s k fun sr F' H' M' J ⟨ds, hl, hd, hn, ht, he⟩ s' c' jr => q sr F' H' M' J ?_ s' c' jr
  refine ⟨fun M2 => M2 = M', fun i y => ds[i]? = some y, hl, rfl, fun M2 e => e ▸ hn, fun i x M2 hx e => ?_, fun acc M2 e ha hp => ?_⟩
  · subst e
    have hi : i < ds.length := by
      have := (List.getElem?_eq_some_iff.mp hx).1
      omega
    intro σ F H Mf v Q r a s k q
    refine ht i x ds[i] hx (List.getElem?_eq_getElem hi) σ F H Mf v Q r a s k fun σ' ρ' F' H' M2 hw => q σ' ρ' F' H' M2 (W.mono hw ?_)
    rintro y M3 ⟨rfl, rfl⟩
    exact ⟨List.getElem?_eq_getElem hi, rfl⟩
  · subst e
    have e2 : acc = ds := by
      apply List.ext_getElem?
      intro i
      by_cases hi : i < acc.length
      · rw [List.getElem?_eq_getElem hi]
        exact (hp i _ (List.getElem?_eq_getElem hi)).symm
      · rw [List.getElem?_eq_none (by omega), List.getElem?_eq_none (by omega)]
    rw [e2]
    exact he
end
end L3
namespace L3
open PySem PySem.Spec L2
theorem Seq.more {M : Mem} {x : D} {xs : List D} {c : Addr × O} (h : Seq M x xs) : Seq (c :: M) x xs := by
  cases h with
  | lst => exact .lst _
  | tup => exact .tup _
  | scr => exact .scr _
  | own h => exact .own (List.mem_cons_of_mem _ h)
theorem cutD_to {xs : List D} {n : Nat} (h : n ≤ xs.length) : cutD xs none (some (n : Int)) = xs.take n := by
  unfold cutD
  rw [HT.sIx_none, HT.sIx_nat, Nat.min_eq_left h, List.drop_zero, Nat.sub_zero]
end L3

namespace L3
open PySem PySem.Spec L2
section
variable {K : PySem.W.Frag} {E : WX} {Ψ : PX} {ρ : Env3} {M : Mem} {Φ : D → Mem → Prop}
/-- a call that needs cells; the order of the cells is nothing, before and after -/
theorem W.callM {sp : SpD} {t : TA} (h : WA K E t ρ M (fun xs M1 => ∃ Mc Mr, M1.Perm (Mc ++ Mr) ∧ sp xs Mc (fun x Mc' => ∃ M2, (Mc' ++ Mr).Perm M2 ∧ Φ x M2) (fun x Mc' => ∃ M2, (Mc' ++ Mr).Perm M2 ∧ Ψ x ρ M2)) Ψ) : W K E (tCallSD (lift K sp) [] (WE E) t) ρ M Φ Ψ := fun σ F H Mf Q e s k q =>
  h σ F H Mf _ e s k fun vs xs F1 H1 M1 ⟨Mc, Mr, hp, hs⟩ r1 s1 c1 => by
    rw [List.append_nil]
    exact ⟨xs, F1, Mc, Mr ++ Mf, _, _, r1, c1.perm (perm_fr hp), hs, fun v x F2 H2 M2 ⟨M3, h3, h2⟩ r2 s2 c2 => q v x F2 H2 M3 h2 r2 (s1.trans s2) (c2.perm (by rw [← List.append_assoc]; exact h3.append_right Mf)),
      fun x M2 F2 H2 cls d ⟨M3, h3, h2⟩ s2 c2 er => k x ρ M3 F2 H2 σ cls d h2 (e.mono (s1.trans s2)) (s1.trans s2) (c2.perm (by rw [← List.append_assoc]; exact h3.append_right Mf)) er⟩
theorem Seq.perm {M M' : Mem} {x : D} {xs : List D} (hp : M.Perm M') (h : Seq M x xs) : Seq M' x xs := by
  cases h with
  | lst => exact .lst _
  | tup => exact .tup _
  | own h => exact .own (hp.mem_iff.mp h)
  | scr ns => exact .scr ns
end
theorem itT {A B : Prop} {b : Bool} (e : b = true) (h : A) : (b = true → A) ∧ (b = false → B) := ⟨fun _ => h, fun e2 => by rw [e] at e2; exact Bool.noConfusion e2⟩
theorem itF {A B : Prop} {b : Bool} (e : b = false) (h : B) : (b = true → A) ∧ (b = false → B) := ⟨fun e2 => by rw [e] at e2; exact Bool.noConfusion e2, fun _ => h⟩
end L3


namespace Lw
open PySem PySem.Spec L2 L3
def top (i : Nat) : Stmt := PySem.Challenge.pw_sameshown_k09_vectors_guessed.main.body.getD i (.Pass ⟨0, 0, 0, 0⟩)
abbrev s_middle : Stmt := top 1
theorem sc_middle : FnScope ["some", "low", "found", "high"] ["some"] (defScope s_middle) := ⟨rfl, rfl, rfl, by decide +kernel, rfl, by decide +kernel, by decide +kernel⟩
abbrev s_guessed_vector : Stmt := top 2
theorem sc_guessed_vector : FnScope ["vectors", "k", "across", "column", "beside", "some", "at", "vector"] ["vectors", "k", "across"] (defScope s_guessed_vector) := ⟨rfl, rfl, rfl, by decide +kernel, rfl, by decide +kernel, by decide +kernel⟩
abbrev s__law_begin : Stmt := top 4
theorem sc__law_begin : FnScope ["_law_script"] ["_law_script"] (defScope s__law_begin) := ⟨rfl, rfl, rfl, by decide +kernel, rfl, by decide +kernel, by decide +kernel⟩
abbrev s__law_more : Stmt := top 5
theorem sc__law_more : FnScope ["_law_state", "_law_k", "_law_cells", "_law_cell", "_law_number", "_law_primes", "_law_at", "_law_prime", "_law_one"] ["_law_state"] (defScope s__law_more) := ⟨rfl, rfl, rfl, by decide +kernel, rfl, by decide +kernel, by decide +kernel⟩
abbrev s__law_next : Stmt := top 6
theorem sc__law_next : FnScope ["_law_state", "_law_most", "_law_digit"] ["_law_state", "_law_most"] (defScope s__law_next) := ⟨rfl, rfl, rfl, by decide +kernel, rfl, by decide +kernel, by decide +kernel⟩
abbrev s__law_pick : Stmt := top 7
theorem sc__law_pick : FnScope ["_law_state", "_law_some"] ["_law_state", "_law_some"] (defScope s__law_pick) := ⟨rfl, rfl, rfl, by decide +kernel, rfl, by decide +kernel, by decide +kernel⟩
abbrev s__law_vector : Stmt := top 8
theorem sc__law_vector : FnScope ["_law_vectors", "_law_k", "_law_across", "_law_some", "_law_there", "_law_vector_here", "_law_one"] ["_law_vectors", "_law_k", "_law_across"] (defScope s__law_vector) := ⟨rfl, rfl, rfl, by decide +kernel, rfl, by decide +kernel, by decide +kernel⟩
abbrev s_law : Stmt := top 9
theorem sc_law : FnScope ["_law_script", "_law_state", "_law_turn", "_law_wide", "_law_some", "_law_none", "_law_k", "_law_handed", "_law_due", "_law_one", "_law_listed"] ["_law_script"] (defScope s_law) := ⟨rfl, rfl, rfl, by decide +kernel, rfl, by decide +kernel, by decide +kernel⟩

structure Tx (K : PySem.W.Frag) (mg : Str → Option Value) where
  d_middle : Df K mg "middle" s_middle ["some"]
  d_guessed_vector : Df K mg "guessed_vector" s_guessed_vector ["vectors", "k", "across"]
  d__law_begin : Df K mg "_law_begin" s__law_begin ["_law_script"]
  d__law_more : Df K mg "_law_more" s__law_more ["_law_state"]
  d__law_next : Df K mg "_law_next" s__law_next ["_law_state", "_law_most"]
  d__law_pick : Df K mg "_law_pick" s__law_pick ["_law_state", "_law_some"]
  d__law_vector : Df K mg "_law_vector" s__law_vector ["_law_vectors", "_law_k", "_law_across"]
  d_law : Df K mg "law" s_law ["_law_script"]
  n_abs : mg "abs" = none
  n_enumerate : mg "enumerate" = none
  n_len : mg "len" = none
  n_list : mg "list" = none
  n_max : mg "max" = none
  n_min : mg "min" = none
  n_range : mg "range" = none
  n_sorted : mg "sorted" = none
  n_tuple : mg "tuple" = none

local macro_rules | `(tactic| k_search 1) => `(tactic| first
  | (with_reducible refine S.seq ?_)
  | (with_reducible refine S.asg ?_)
  | (with_reducible refine S.ret ?_)
  | (with_reducible refine S.drop ?_)
  | (with_reducible refine S.next ?_)
  | (with_reducible refine S.retN ?_)
  | ((with_reducible refine itT ?e ?_); (case e => first | (with_reducible rfl) | (simp only [D.isN, Bool.not_true, Bool.not_false]; done)))
  | ((with_reducible refine itF ?e ?_); (case e => first | (with_reducible rfl) | (simp only [D.isN, Bool.not_true, Bool.not_false]; done)))
  | ((with_reducible refine W.var (x := ?y) ?e ?_); (case e => rfl))
  | (with_reducible refine W.int ?_)
  | (with_reducible refine W.str ?_)
  | (with_reducible refine W.bl ?_)
  | (with_reducible refine W.non ?_)
  | (with_reducible refine W.op ?_)
  | (with_reducible refine W.un ?_)
  | (with_reducible refine W.cb ?_)
  | (with_reducible refine WA.cons ?_)
  | (with_reducible refine WA.nil ?_)
  | ((with_reducible refine G.name (ρ' := ?r) ?e ?_); (case e => (conv => lhs; simp only [wipeD, List.map_cons, List.map_nil, List.set_cons_zero, List.set_cons_succ]); first | done | exact rfl))
  | (with_reducible refine W.tup ?_)
  | (with_reducible refine W.lst ?_)
  | ((with_reducible refine lenOk ?e ?_); (case e => exact Nat.le_of_ble_eq_true rfl))
  | (with_reducible refine WT.test ?_)
  | (with_reducible refine WT.tB ?_)
  | (with_reducible refine WT.and ?_)
  | (with_reducible refine WT.or ?_)
  | (with_reducible refine WT.not ?_)
  | (with_reducible refine W.andV ?_)
  | (with_reducible refine W.orV ?_)
  | (with_reducible refine W.notV ?_)
  | (with_reducible refine OpD.add_int ?_)
  | (with_reducible refine OpD.sub ?_)
  | ((with_reducible refine OpD.mul ?c ?_); (case c => first | (refine .inl (.inl ⟨?_, ?_⟩) <;> omega) | (refine .inl (.inr ⟨?_, ?_⟩) <;> omega)))
  | ((with_reducible refine OpD.mod ?c ?_); (case c => first | omega | decide))
  | ((with_reducible refine OpD.fdiv ?c ?_); (case c => (refine cdivw ?_ ?_ <;> omega)))
  | (with_reducible refine OpD.lt ?_)
  | (with_reducible refine OpD.le ?_)
  | (with_reducible refine OpD.gt ?_)
  | (with_reducible refine OpD.ge ?_)
  | (with_reducible refine OpD.eq_int ?_)
  | (with_reducible refine OpD.ne_int ?_)
  | (with_reducible refine OpD.is ?_)
  | (with_reducible refine OpD.isnot ?_)
  | (with_reducible refine UnD.neg ?_)
  | (with_reducible refine CbD.max2 ?_)
  | (with_reducible refine CbD.min2 ?_)
  | (with_reducible refine CbD.abs ?_)
  | (with_reducible refine bl_intro ?_)
  | ((with_reducible refine CbD.len (xs := ?xs) ?q ?_); (case q => first | exact .lst _ | exact .tup _ | exact .scr _))
  | ((with_reducible refine CbD.tuple (xs := ?xs) ?q ?_); (case q => first | exact .lst _ | exact .tup _))
  | ((with_reducible refine CbD.list (xs := ?xs) ?q ?_); (case q => first | exact .lst _ | exact .tup _ | exact .scr _))
  | (with_reducible refine W.bm ?_)
  | (with_reducible refine W.lstO ?_)
  | ((with_reducible refine tyOwn (xs := ?xs) ?q ?_); (case q => first | exact .head _ | exact .tail _ (.head _) | exact .tail _ (.tail _ (.head _)) | exact .tail _ (.tail _ (.tail _ (.head _)))))
  | ((with_reducible refine MtD.append (xs := ?xs) (f := ?f) ?s ?l ?_); (case s => first | exact .here | exact .there .here | exact .there (.there .here) | exact .there (.there (.there .here))); (case l => (refine line_lt ?_; first | omega | decide | (simp only [List.length_append, List.length_map, List.length_cons, List.length_nil, List.length_replicate]; first | done | omega))))
  | ((with_reducible refine OpD.ixN (xs := ?ys) (y := ?y) ?q ?h ?e ?_); (case q => first | exact Seq.tup _ | exact Seq.lst _); (case h => omega); (case e => rfl))
  | fail)
local macro_rules | `(tactic| k_search 2) => `(tactic| first | k_search 1 | (with_reducible refine S.ite ?_) | (with_reducible refine W.ite ?_) | fail)
local macro_rules | `(tactic| k_search 3) => `(tactic| repeat' k_search 1)
local macro_rules | `(tactic| k_search 4) => `(tactic| repeat' k_search 2)
local macro_rules | `(tactic| k_search 5) => `(tactic| ((refine WS.env (ρ' := ?r) ?e ?_); (case e => (simp only [List.map_cons, List.map_nil, List.length_cons, List.length_nil, List.cons_append, List.nil_append, Nat.reduceAdd, Nat.reduceSub, Nat.add_sub_cancel, Nat.sub_self, Nat.zero_add, List.replicate_succ, List.replicate_zero]; first | done | exact rfl))))

/-! ### the draws of the law: any numbers below what is asked -/
def drawO (left at_ : Int) (cells : List Int) : O := .dct [(kS "left", .int left), (kS "at", .int at_), (kS "cells", .lst (cells.map D.int))]
def Dr (o : O) : Prop := ∃ left at_ cells, o = drawO left at_ cells ∧ 0 ≤ left ∧ 0 ≤ at_ ∧ cells.length ≤ 63
theorem k_la : kS "left" ≠ kS "at" := by decide +kernel
theorem k_lc : kS "left" ≠ kS "cells" := by decide +kernel
theorem k_ac : kS "at" ≠ kS "cells" := by decide +kernel
abbrev drawK (l a c : D) : List (Key × D) := [(kS "left", l), (kS "at", a), (kS "cells", c)]
theorem dg_l {l a c : D} : getD3 (drawK l a c) (kS "left") = some l := getD3_pos
theorem dg_a {l a c : D} : getD3 (drawK l a c) (kS "at") = some a := (getD3_neg k_la).trans getD3_pos
theorem dg_c {l a c : D} : getD3 (drawK l a c) (kS "cells") = some c := (getD3_neg k_lc).trans ((getD3_neg k_ac).trans getD3_pos)
theorem dp_l {l a c z : D} : putD3 (drawK l a c) (kS "left") z = drawK z a c := putD3_pos (by
  intro p hp
  simp only [List.mem_cons, List.not_mem_nil, or_false] at hp
  rcases hp with rfl | rfl
  · exact k_la.symm
  · exact k_lc.symm)
theorem dp_a {l a c z : D} : putD3 (drawK l a c) (kS "at") z = drawK l z c := (putD3_neg k_la).trans (congrArg _ (putD3_pos (by
  intro p hp
  simp only [List.mem_cons, List.not_mem_nil, or_false] at hp
  subst hp
  exact k_ac.symm)))
theorem dp_new {l a c : D} : mergeD [] [(kS "left", l), (kS "at", a), (kS "cells", c)] = drawK l a c := by
  show putD3 (putD3 (putD3 [] (kS "left") l) (kS "at") a) (kS "cells") c = _
  rw [putD3_nil, putD3_neg k_la, putD3_nil, putD3_neg k_lc, putD3_neg k_ac, putD3_nil]
def spBegin : SpD := fun xs M Φ _ => ∃ ns : List Int, xs = [.scr ns] ∧ ns.length ≤ 63 ∧ M = [] ∧ ∀ p o, Dr o → Φ (.ref p) [(p, o)]
def spMore : SpD := fun xs M Φ _ => ∃ p o, xs = [.ref p] ∧ M = [(p, o)] ∧ Dr o ∧ ∀ n o', Dr o' → 0 ≤ n → Φ (.int n) [(p, o')]
def spNext : SpD := fun xs M Φ _ => ∃ p o m, xs = [.ref p, .int m] ∧ M = [(p, o)] ∧ Dr o ∧ 0 < m ∧ m < 2 ^ 2000 ∧ ∀ n o', Dr o' → 0 ≤ n → n < m → Φ (.int n) [(p, o')]
def spPick : SpD := fun xs M Φ _ => ∃ p o x ys Mr, xs = [.ref p, x] ∧ M = (p, o) :: Mr ∧ Dr o ∧ Seq M x ys ∧ (∀ o', Seq ((p, o') :: Mr) x ys) ∧ 0 < ys.length ∧ ys.length < 100000 ∧ ∀ y o', Dr o' → y ∈ ys → Φ y ((p, o') :: Mr)
theorem ok__law_begin {P : Program} {w : World} {K : PySem.W.Frag} {mg : Str → Option Value} {base : Heap} (T : Tx K mg) : FnOk P w K mg base (L2.CX P w) 1 T.d__law_begin.f T.d__law_begin.fd ["_law_script"] (lift K spBegin) := by
  refine def_ok T.d__law_begin.F sc__law_begin (fun xs M Φ Ψ h => ?_) fun cdv A outer s H E hr => ⟨_, (pss_one (ps_ret (pe_disp (pps_cons pe_str pe_int (pps_cons pe_str pe_int (pps_cons pe_str (pe_callTy (q_list K) (by rfl) T.n_list b_list (pa_cons (pv 0) pa_nil)) pps_nil))) (by rfl) (by rfl) (fun z => by cases z) (by decide)))), fun xs M Φ Ψ h => ?_⟩
  · obtain ⟨ns, rfl, _⟩ := h; rfl
  obtain ⟨ns, rfl, hl, rfl, k⟩ := h
  k_search 5
  k_search 4
  refine W.disp ?_
  refine WPs.cons ?_
  k_search 4
  refine WPs.cons ?_
  k_search 4
  refine WPs.cons ?_
  k_search 4
  refine WPs.nil ?_
  refine ⟨[(kS "left", .int 0), (kS "at", .int 0), (kS "cells", .lst (ns.map D.int))], rfl, Nat.le_of_ble_eq_true rfl, fun p => ?_⟩
  rw [dp_new]
  exact k p _ ⟨0, 0, ns, rfl, by omega, by omega, hl⟩
theorem c3 : (3 : Nat) < sizeLine := by decide
theorem ix_ints {xs : List Int} {i : Int} (h0 : 0 ≤ i) (h : i < xs.length) : (xs.map D.int)[i.toNat]? = some (.int (xs.getD i.toNat 0)) := by
  have h' : i.toNat < xs.length := by omega
  rw [List.getElem?_map, List.getElem?_eq_getElem h', List.getD_eq_getElem?_getD, List.getElem?_eq_getElem h']
  rfl
/-- the loop's state in _law_more -/
def moreI (p : Addr) (l a : Int) (cells : List Int) (ce : Int) (pr : List D) (i : Nat) (ρ : Env3) (M : Mem) : Prop :=
  M = [(p, drawO l a cells)] ∧ ∃ (n : Int) (x6 x7 x8 : Option D), 1 ≤ n ∧ ρ = [some (.ref p), some (.int (a - 1)), some (.lst (cells.map D.int)), some (.int ce), some (.int n), some (.lst pr), x6, x7, x8]
theorem cm_ints : ∀ ns : List Int, (D.lst (ns.map D.int)).cm = true := by
  intro ns
  have h1 : ∀ ns : List Int, D.plL (ns.map D.int) = true := by
    intro ns
    induction ns with
    | nil => rfl
    | cons n ns ih => simp [D.plL, D.pl, ih]
  have h2 : ∀ (ns : List Int) (k : Nat), D.dpL (ns.map D.int) k = true := by
    intro ns k
    induction ns with
    | nil => simp [D.dpL]
    | cons n ns ih => simp [D.dpL, D.dp, ih]
  simp [D.cm, D.pl, D.dp, h1, h2]
theorem eq_nil (xs : List D) : eqD (.lst xs) (.lst []) = decide (xs = []) := by
  cases xs <;> simp [eqD, D.py, D.pyL, PyData.eqv, PyData.eqvAll]
theorem ok__law_more {P : Program} {w : World} {K : PySem.W.Frag} {mg : Str → Option Value} {base : Heap} (T : Tx K mg) : FnOk P w K mg base (L2.CX P w) 1 T.d__law_more.f T.d__law_more.fd ["_law_state"] (lift K spMore) := by
  refine def_ok T.d__law_more.F sc__law_more (fun xs M Φ Ψ h => ?_) fun cdv A outer s H E hr => ⟨_, (pss_cons (ps_set (i := 1) sc__law_more.nd rfl (Or.inl rfl) (pe_dget (hu_of hr) (pv 0) pe_str (fun _ _ => rfl)))
  (pss_cons (ps_dput (hu_of hr) (pv 0) pe_str (pe_op (q_add K) (pv 1) pe_int) rfl)
  (pss_cons (ps_set (i := 2) sc__law_more.nd rfl (Or.inl rfl) (pe_dget (hu_of hr) (pv 0) pe_str (fun _ _ => rfl)))
  (pss_cons (ps_set (i := 3) sc__law_more.nd rfl (Or.inl rfl) (pe_ifExp (pt_cmpR (q_ne K (hu64 hr)) (pv 2) (pe_lst pa_nil) (nomark _)) (pe_callB q_abs (by rfl) T.n_abs b_abs (pa_cons (pe_ix (q_ix K) (pv 2) (pe_op q_mod (pv 1) (pe_callB (q_len K) (by rfl) T.n_len b_len (pa_cons (pv 2) pa_nil))) (fun _ _ => rfl)) pa_nil)) pe_int))
  (pss_cons (ps_if (PW.pt (pw_and (pt_cmpR q_lt (pv 1) (pe_callB (q_len K) (by rfl) T.n_len b_len (pa_cons (pv 2) pa_nil)) (nomark _)) (pw_and1 (pt_cmpR q_ge (pv 3) (pe_op q_pow pe_int pe_int) (nomark _)))))
  (pss_one (ps_ret (pe_op q_sub (pv 3) (pe_op q_pow pe_int pe_int))))
  pss_nil)
  (pss_cons (ps_set (i := 4) sc__law_more.nd rfl (Or.inl rfl) pe_int)
  (pss_cons (ps_set (i := 5) sc__law_more.nd rfl (Or.inl rfl) (pe_lst (pa_cons pe_int (pa_cons pe_int (pa_cons pe_int (pa_cons pe_int (pa_cons pe_int (pa_cons pe_int (pa_cons pe_int (pa_cons pe_int pa_nil))))))))))
  (pss_cons (ps_for own_of rfl (q_enum K (by rfl) T.n_enumerate (pa_cons (pv 5) pa_nil)) (q_gseq K (n := 2) rfl (pgs_cons (pg_name (i := 6) sc__law_more.nd rfl (Or.inl rfl)) (pgs_cons (pg_name (i := 7) sc__law_more.nd rfl (Or.inl rfl)) pgs_nil)))
  (pss_cons (ps_set (i := 8) sc__law_more.nd rfl (Or.inl rfl) (pe_op q_mod (pe_op (q_add K) (pe_op (q_add K) (pe_op (q_mul K) (pe_op q_mod (pv 3) (pv 7)) pe_int) (pe_op (q_mul K) pe_int (pe_op (q_add K) (pv 1) pe_int))) (pe_op (q_mul K) (pe_op (q_mul K) pe_int (pv 6)) (pv 6))) (pv 7)))
  (pss_cons (ps_set (i := 8) sc__law_more.nd rfl (Or.inl rfl) (pe_op q_mod (pe_op (q_add K) (pe_op (q_add K) (pe_op (q_mul K) (pv 8) (pv 8)) (pe_op (q_mul K) pe_int (pv 1))) (pv 6)) (pv 7)))
  (pss_one (ps_set (i := 4) sc__law_more.nd rfl (Or.inl rfl) (pe_op (q_add K) (pe_op (q_mul K) (pv 4) pe_int) (pe_op q_mod (pe_op (q_mul K) (pv 8) (pe_op (q_add K) (pe_op (q_add K) (pv 8) (pv 6)) pe_int)) (pv 7))))))))
  (pss_one (ps_ret (pv 4))))))))))), fun xs M Φ Ψ h => ?_⟩
  · obtain ⟨p, o, rfl, _⟩ := h; rfl
  obtain ⟨p, o, rfl, rfl, ⟨left, at_, cells, rfl, h1, h2, h3⟩, k⟩ := h
  k_search 5
  k_search 4
  refine W.dget ?_
  k_search 4
  refine ⟨p, _, kS "at", _, rfl, List.mem_singleton.mpr rfl, rfl, dg_a, ?_⟩
  k_search 4
  refine S.dput ?_
  k_search 4
  refine ⟨p, _, kS "at", _, rfl, .here, rfl, c3, ?_⟩
  rw [dp_a]
  k_search 4
  refine W.dget ?_
  k_search 4
  refine ⟨p, _, kS "cells", _, rfl, List.mem_singleton.mpr rfl, rfl, dg_c, ?_⟩
  iterate 3 k_search 2
  refine W.mono (Φ := fun x M1 => M1 = [(p, drawO left (at_ + 1) cells)] ∧ ∃ c : Int, x = .int c ∧ 0 ≤ c) ?_ ?_
  · k_search 4
    refine OpD.ne (cm_ints _) (by decide +kernel) ?_
    rw [eq_nil]
    k_search 4
    refine twoN (fun hc => ?_) (fun hc => ?_)
    · k_search 4
      have hne : 0 < cells.length := by
        cases cells with
        | nil => exact absurd rfl hc
        | cons _ _ => simp
      refine OpD.mod (by rw [List.length_map]; omega) ?_
      rw [List.length_map]
      have m0 : 0 ≤ at_ % (cells.length : Int) := Int.emod_nonneg _ (by omega)
      have m1 : at_ % (cells.length : Int) < cells.length := Int.emod_lt_of_pos _ (by omega)
      refine OpD.ixN (y := .int (cells.getD (at_ % (cells.length : Int)).toNat 0)) (.lst _) m0 (ix_ints m0 m1) ?_
      k_search 4
      refine ⟨rfl, _, rfl, ?_⟩
      split <;> omega
    · k_search 4
      exact ⟨rfl, 0, rfl, by omega⟩
  rintro x M1 ⟨rfl, c, rfl, hc⟩
  have e18 : (10 : Int) ^ (18 : Int).toNat = 1000000000000000000 := by decide
  iterate 2 k_search 2
  refine S.iteP (fun b M1 => M1 = [(p, drawO left (at_ + 1) cells)] ∧ (b = true → 1000000000000000000 ≤ c)) ?_ ?_ ?_
  · k_search 4
    rw [List.length_map]
    refine two (fun hk => ?_) (fun hk => ⟨rfl, fun h => Bool.noConfusion h⟩)
    k_search 4
    refine OpD.pow ⟨by decide, by decide, by decide⟩ ?_
    rw [e18]
    k_search 4
    exact ⟨rfl, fun h => of_decide_eq_true h⟩
  · rintro M1 ⟨rfl, hd⟩
    k_search 4
    refine OpD.pow ⟨by decide, by decide, by decide⟩ ?_
    rw [e18]
    k_search 4
    have := hd rfl
    exact k _ _ ⟨left, at_ + 1, cells, rfl, h1, by omega, h3⟩ (by omega)
  rintro M1 ⟨rfl, _⟩
  k_search 4
  refine S.for_ ?_
  refine WI.enumL ?_
  k_search 4
  refine ⟨_, _, rfl, .lst _, rfl, moreI p left (at_ + 1) cells c [D.int 2147483629, D.int 2147483587, D.int 2147483579, D.int 2147483563, D.int 2147483549, D.int 2147483543, D.int 2147483497, D.int 2147483489], ?_, ?_, ?_, ?_⟩
  · refine ⟨rfl, 1, none, none, none, by omega, ?_⟩
    rw [Int.add_sub_cancel]
  · intro i ρ' M' _ _
    exact .lst _
  · rintro i x ρ' M' hx ⟨rfl, n, x6, x7, x8, hn, rfl⟩
    rw [Int.add_sub_cancel]
    obtain ⟨z, hz, rfl⟩ := enumD_get hx
    have hi : i < 8 := (List.getElem?_eq_some_iff.mp hz).1
    obtain ⟨pr, hp0, hp1, rfl⟩ : ∃ pr : Int, 0 < pr ∧ pr < 2147483648 ∧ z = .int pr := by
      have h8 : ∀ z ∈ [D.int 2147483629, D.int 2147483587, D.int 2147483579, D.int 2147483563, D.int 2147483549, D.int 2147483543, D.int 2147483497, D.int 2147483489], ∃ pr : Int, 0 < pr ∧ pr < 2147483648 ∧ z = .int pr := by
        intro z hz
        simp only [List.mem_cons, List.not_mem_nil, or_false] at hz
        rcases hz with rfl | rfl | rfl | rfl | rfl | rfl | rfl | rfl <;> exact ⟨_, by decide, by decide, rfl⟩
      exact h8 z (List.mem_of_getElem? hz)
    refine WG.seq (.tup _) rfl ?_
    refine WGs.cons ?_
    k_search 2
    refine WGs.cons ?_
    k_search 2
    refine WGs.nil ?_
    have q0 : 0 ≤ c % pr := Int.emod_nonneg _ (by omega)
    have q1 : c % pr < pr := Int.emod_lt_of_pos _ hp0
    k_search 4
    generalize ho : (c % pr * 48271 + 1103515245 * (at_ + 1) + 40503 * (i : Int) * (i : Int)) % pr = one
    have o0 : 0 ≤ one := by rw [← ho]; exact Int.emod_nonneg _ (by omega)
    have o1 : one < pr := by rw [← ho]; exact Int.emod_lt_of_pos _ hp0
    clear ho q0 q1 hx hz
    k_search 4
    generalize ho : (one * one + 11 * at_ + (i : Int)) % pr = on2
    have r0 : 0 ≤ on2 := by rw [← ho]; exact Int.emod_nonneg _ (by omega)
    have r1 : on2 < pr := by rw [← ho]; exact Int.emod_lt_of_pos _ hp0
    clear ho o0 o1
    k_search 4
    refine ⟨rfl, n * 2147483647 + on2 * (on2 + (i : Int) + 1) % pr, _, _, _, ?_, by rw [Int.add_sub_cancel]⟩
    have t0 : 0 ≤ on2 * (on2 + (i : Int) + 1) % pr := Int.emod_nonneg _ (by omega)
    omega
  · rintro ρ' M' ⟨rfl, n, x6, x7, x8, hn, rfl⟩
    k_search 4
    exact k _ _ ⟨left, at_ + 1, cells, rfl, h1, by omega, h3⟩ (by omega)
theorem ok__law_next {P : Program} {w : World} {K : PySem.W.Frag} {mg : Str → Option Value} {base : Heap} (T : Tx K mg) : FnOk P w K mg base (L2.CX P w) 2 T.d__law_next.f T.d__law_next.fd ["_law_state", "_law_most"] (lift K spNext) := by
  refine def_ok T.d__law_next.F sc__law_next (fun xs M Φ Ψ h => ?_) fun cdv A outer s H E hr => ⟨_, (pss_cons (ps_if (pt_cmpR (q_eq K (hu64 hr)) (pe_dget (hu_of hr) (pv 0) pe_str (fun _ _ => rfl)) pe_int (nomark _))
  (pss_one (ps_dput (hu_of hr) (pv 0) pe_str (pe_callSD (ok__law_more T) (hr.mono (by decide)) (by rfl) T.d__law_more.g T.d__law_more.F.kp T.d__law_more.b .nil (fun σ => pass_of) (pa_cons (pv 0) pa_nil)) rfl))
  pss_nil)
  (pss_cons (ps_set (i := 2) sc__law_next.nd rfl (Or.inl rfl) (pe_op q_mod (pe_dget (hu_of hr) (pv 0) pe_str (fun _ _ => rfl)) (pv 1)))
  (pss_cons (ps_daug (hu_of hr) (pv 0) pe_str (pv 1) q_ifdiv (fun _ _ _ => rfl))
  (pss_one (ps_ret (pv 2)))))), fun xs M Φ Ψ h => ?_⟩
  · obtain ⟨p, o, m, rfl, _⟩ := h; rfl
  obtain ⟨p, o, m, rfl, rfl, ⟨left, at_, cells, rfl, h1, h2, h3⟩, hm0, hm1, k⟩ := h
  k_search 5
  refine S.cut (fun ρ M => ρ = [some (.ref p), some (.int m), none] ∧ ∃ l a cs, M = [(p, drawO l a cs)] ∧ 0 ≤ l ∧ 0 ≤ a ∧ cs.length ≤ 63) ?_ ?_
  · k_search 4
    refine W.dget ?_
    k_search 4
    refine ⟨p, _, kS "left", _, rfl, List.mem_singleton.mpr rfl, rfl, dg_l, ?_⟩
    k_search 4
    refine two (fun hk => ?_) (fun hk => ?_)
    · refine S.dput ?_
      refine W.call1 ?_
      k_search 4
      refine ⟨p, _, _, .here, p, _, rfl, rfl, ⟨left, at_, cells, rfl, h1, h2, h3⟩, ?_⟩
      rintro n _ ⟨l, a, cs, rfl, hl, ha, hc⟩ hn
      refine ⟨_, rfl, ?_⟩
      k_search 4
      refine ⟨p, _, kS "left", _, rfl, .here, rfl, c3, ?_⟩
      rw [dp_l]
      exact ⟨rfl, n, a, cs, rfl, hn, ha, hc⟩
    · k_search 4
      exact ⟨rfl, left, at_, cells, rfl, h1, h2, h3⟩
  rintro ρ M ⟨rfl, l, a, cs, rfl, hl, ha, hc⟩
  k_search 4
  refine W.dget ?_
  k_search 4
  refine ⟨p, _, kS "left", _, rfl, List.mem_singleton.mpr rfl, rfl, dg_l, ?_⟩
  k_search 4
  refine S.daug ?_
  k_search 4
  refine ⟨p, _, kS "left", _, rfl, List.mem_singleton.mpr rfl, rfl, dg_l, ?_⟩
  k_search 4
  refine ⟨_, _, .here, c3, ?_⟩
  rw [dp_l]
  k_search 4
  exact k _ _ ⟨l / m, a, cs, rfl, Int.ediv_nonneg hl (by omega), ha, hc⟩ (Int.emod_nonneg _ (by omega)) (Int.emod_lt_of_pos _ hm0)
theorem ok__law_pick {P : Program} {w : World} {K : PySem.W.Frag} {mg : Str → Option Value} {base : Heap} (T : Tx K mg) : FnOk P w K mg base (L2.CX P w) 3 T.d__law_pick.f T.d__law_pick.fd ["_law_state", "_law_some"] (lift K spPick) := by
  refine def_ok T.d__law_pick.F sc__law_pick (fun xs M Φ Ψ h => ?_) fun cdv A outer s H E hr => ⟨_, (pss_one (ps_ret (pe_ix (q_ix K) (pv 1) (pe_callSD (ok__law_next T) (hr.mono (by decide)) (by rfl) T.d__law_next.g T.d__law_next.F.kp T.d__law_next.b .nil (fun σ => pass_of) (pa_cons (pv 0) (pa_cons (pe_callB (q_len K) (by rfl) T.n_len b_len (pa_cons (pv 1) pa_nil)) pa_nil))) (fun _ _ => rfl)))), fun xs M Φ Ψ h => ?_⟩
  · obtain ⟨p, o, x, ys, Mr, rfl, _⟩ := h; rfl
  obtain ⟨p, o, x, ys, Mr, rfl, rfl, hd, hs, hs', h0, h1, k⟩ := h
  k_search 5
  k_search 4
  refine W.call1 ?_
  k_search 4
  refine CbD.len hs ?_
  k_search 4
  refine ⟨p, o, _, .here, p, o, _, rfl, rfl, hd, by omega, by omega, ?_⟩
  intro n o' hd' hn hn'
  refine ⟨o', rfl, ?_⟩
  have hl : n.toNat < ys.length := by omega
  exact OpD.ixN (y := ys[n.toNat]) (hs' o') hn (List.getElem?_eq_getElem hl) (k _ _ hd' (List.getElem_mem hl))
section
variable {K : PySem.W.Frag} {E : WX} {Ψ : PX} {ρ : Env3} {M : Mem} {Φ : D → Mem → Prop}
/-- one draw -/
theorem W.nxt {i : Nat} {p : Addr} {tm : TE} (hi : ρ[i]? = some (some (.ref p))) (h : W K E tm ρ M (fun m M1 => ∃ (n : Int), ∃ o f, m = .int n ∧ Sp p o M1 f ∧ Dr o ∧ 0 < n ∧ n < 2 ^ 2000 ∧ ∀ z o', Dr o' → 0 ≤ z → z < n → Φ (.int z) (f o')) Ψ) : W K E (tCallSD (lift K spNext) [] (WE E) (tCons (tVar i) (tCons tm tNil))) ρ M Φ Ψ := by
  refine W.callM ?_
  refine WA.cons ?_
  refine W.var hi ?_
  refine WA.cons ?_
  refine W.mono h ?_
  rintro m M1 ⟨n, o, f, rfl, hs, hd, h0, h1, k⟩
  refine WA.nil ?_
  obtain ⟨R, hp, hr⟩ := hs.perm
  exact ⟨[(p, o)], R, hp, p, o, n, rfl, rfl, hd, h0, h1, fun z o' hd' z0 z1 => ⟨f o', (hr o').symm, k z o' hd' z0 z1⟩⟩
/-- one of a row -/
theorem W.pick {i : Nat} {p : Addr} {tx : TE} (hi : ρ[i]? = some (some (.ref p))) (h : W K E tx ρ M (fun x M1 => ∃ o f ys, Sp p o M1 f ∧ Dr o ∧ Seq M1 x ys ∧ (∀ o', Seq (f o') x ys) ∧ 0 < ys.length ∧ ys.length < 100000 ∧ ∀ y o', Dr o' → y ∈ ys → Φ y (f o')) Ψ) : W K E (tCallSD (lift K spPick) [] (WE E) (tCons (tVar i) (tCons tx tNil))) ρ M Φ Ψ := by
  refine W.callM ?_
  refine WA.cons ?_
  refine W.var hi ?_
  refine WA.cons ?_
  refine W.mono h ?_
  rintro x M1 ⟨o, f, ys, hs, hd, hq, hq', h0, h1, k⟩
  refine WA.nil ?_
  obtain ⟨R, hp, hr⟩ := hs.perm
  exact ⟨(p, o) :: R, [], by rw [List.append_nil]; exact hp, p, o, x, ys, R, rfl, rfl, hd, hq.perm hp, fun o' => (hq' o').perm (hr o'), h0, h1, fun y o' hd' hy => ⟨f o', by rw [List.append_nil]; exact (hr o').symm, k y o' hd' hy⟩⟩
end

/-! ### the mathematics -/
def mid (ns : List Int) : Int := (ns.mergeSort (fun a b => decide (a ≤ b))).getD 1 0
theorem sorted_one {ns ms : List Int} (h : ns.Perm ms) (h1 : ns.Pairwise (· ≤ ·)) (h2 : ms.Pairwise (· ≤ ·)) : ns = ms := List.Perm.eq_of_pairwise (fun a b _ _ x y => by omega) h1 h2 h
theorem sort_is {ns ms : List Int} (h : ms.Perm ns) (h1 : ms.Pairwise (· ≤ ·)) : ms = ns.mergeSort (fun a b => decide (a ≤ b)) := by
  refine sorted_one (h.trans (List.mergeSort_perm ns _).symm) h1 ?_
  have h2 := List.pairwise_mergeSort (le := fun a b : Int => decide (a ≤ b)) (fun a b c x y => by simp at x y ⊢; omega) (fun a b => by simp; omega) ns
  exact h2.imp (fun h => by simpa using h)
def nb (k a : Nat) : List Nat := (if 0 < k % a then [k - 1] else []) ++ (if a ≤ k then [k - a] ++ (if k % a + 1 < a then [k - a + 1] else if 0 < k % a then [k - a - 1] else []) else [])
abbrev Vc := Option (Int × Int)
def nbv (vs : List Vc) (k a : Nat) : List (Int × Int) := (nb k a).filterMap fun i => vs.getD i none
def fill3 (s : List (Int × Int)) : List (Int × Int) := s ++ List.replicate (3 - s.length) (0, 0)
def gv (vs : List Vc) (k a : Nat) : Int × Int :=
  match nbv vs k a with
  | [v] => v
  | s => (mid ((fill3 s).map (·.1)), mid ((fill3 s).map (·.2)))
def pD (v : Int × Int) : D := .tup [.int v.1, .int v.2]
def vD : Vc → D
  | none => .non
  | some v => pD v
def spMiddle : SpD := fun xs M Φ _ => ∃ ns : List Int, xs = [.lst (ns.map D.int)] ∧ M = [] ∧ ns.length = 3 ∧ Φ (.int (mid ns)) []
theorem ok_middle {P : Program} {w : World} {K : PySem.W.Frag} {mg : Str → Option Value} {base : Heap} (T : Tx K mg) : FnOk P w K mg base (L2.CX P w) 1 T.d_middle.f T.d_middle.fd ["some"] (lift K spMiddle) := by
  refine def_ok T.d_middle.F sc_middle (fun xs M Φ Ψ h => ?_) fun cdv A outer s H E hr => ⟨_, (pss_cons (ps_asg (pe_callB (q_sorted K) (by rfl) T.n_sorted b_sorted (pa_cons (pv 0) pa_nil)) (q_gseq K (n := 3) rfl (pgs_cons (pg_name (i := 1) sc_middle.nd rfl (Or.inl rfl)) (pgs_cons (pg_name (i := 2) sc_middle.nd rfl (Or.inl rfl)) (pgs_cons (pg_name (i := 3) sc_middle.nd rfl (Or.inl rfl)) pgs_nil)))))
  (pss_one (ps_ret (pv 2)))), fun xs M Φ Ψ h => ?_⟩
  · obtain ⟨ns, rfl, _⟩ := h; rfl
  obtain ⟨ns, rfl, rfl, hl, k⟩ := h
  k_search 5
  k_search 4
  refine CbD.sorted (by omega) fun ms hp hs => ?_
  have e := sort_is hp hs
  have hl2 : ms.length = 3 := hp.length_eq.trans hl
  match ms, hl2 with
  | [a, b, c], _ =>
    refine WG.seq (.lst _) rfl ?_
    refine WGs.cons ?_
    k_search 2
    refine WGs.cons ?_
    k_search 2
    refine WGs.cons ?_
    k_search 2
    refine WGs.nil ?_
    k_search 4
    have hb : mid ns = b := by
      unfold mid
      rw [← e]
      rfl
    rw [← hb]
    exact k
/-- a vector as it stands: a tuple, a list -/
def PR (y : D) (v : Int × Int) : Prop := y = pD v ∨ y = .lst [.int v.1, .int v.2]
def VR (y : D) (v : Vc) : Prop := match v with
  | none => y = .non
  | some p => PR y p
theorem nb_lt {k a i : Nat} (ha : 0 < a) (h : i ∈ nb k a) : i < k := by
  unfold nb at h
  have h1 : k % a < a := Nat.mod_lt _ ha
  have h2 : k % a ≤ k := Nat.mod_le _ _
  rcases List.mem_append.mp h with h | h
  · split at h
    · simp at h; omega
    · simp at h
  · split at h
    · rcases List.mem_append.mp h with h | h
      · simp at h; omega
      · split at h
        · simp at h; omega
        · split at h
          · simp at h
            by_cases e : k = a
            · subst e
              rw [Nat.mod_self] at *
              omega
            · omega
          · simp at h
    · simp at h
def spGuess : SpD := fun xs M Φ _ => ∃ (x : D) (ys : List D) (vs : List Vc) (k a : Nat), xs = [x, .int (k : Int), .int (a : Int)] ∧ M = [] ∧ (∀ M, Seq M x ys) ∧ Paired VR ys vs ∧ vs.length = k ∧ k < 1000 ∧ 0 < a ∧ Φ (pD (gv vs k a)) []
theorem ok_guessed_vector {P : Program} {w : World} {K : PySem.W.Frag} {mg : Str → Option Value} {base : Heap} (T : Tx K mg) : FnOk P w K mg base (L2.CX P w) 2 T.d_guessed_vector.f T.d_guessed_vector.fd ["vectors", "k", "across"] (lift K spGuess) := by
  refine def_ok T.d_guessed_vector.F sc_guessed_vector (fun xs M Φ Ψ h => ?_) fun cdv A outer s H E hr => ⟨_, (pss_cons (ps_set (i := 3) sc_guessed_vector.nd rfl (Or.inl rfl) (pe_op q_mod (pv 1) (pv 2)))
  (pss_cons (ps_set (i := 4) sc_guessed_vector.nd rfl (Or.inl rfl) (pe_ifExp (pt_cmpR q_gt (pv 3) pe_int (nomark _)) (q_lstO (pa_cons (pe_op q_sub (pv 1) pe_int) pa_nil)) (q_lstO pa_nil)))
  (pss_cons (ps_if (pt_cmpR q_ge (pv 1) (pv 2) (nomark _))
  (pss_cons (ps_expr (q_bm K PySem.F.plainAttrs_list PySem.F.slot_list_append PySem.F.type_list_append q_append (pv 4) (pa_cons (pe_op q_sub (pv 1) (pv 2)) pa_nil)))
  (pss_one (ps_if (pt_cmpR q_lt (pv 3) (pe_op q_sub (pv 2) pe_int) (nomark _))
  (pss_one (ps_expr (q_bm K PySem.F.plainAttrs_list PySem.F.slot_list_append PySem.F.type_list_append q_append (pv 4) (pa_cons (pe_op (q_add K) (pe_op q_sub (pv 1) (pv 2)) pe_int) pa_nil))))
  (pss_one (ps_if (pt_cmpR q_gt (pv 3) pe_int (nomark _))
  (pss_one (ps_expr (q_bm K PySem.F.plainAttrs_list PySem.F.slot_list_append PySem.F.type_list_append q_append (pv 4) (pa_cons (pe_op q_sub (pe_op q_sub (pv 1) (pv 2)) pe_int) pa_nil))))
  pss_nil)))))
  pss_nil)
  (pss_cons (ps_setLc (i := 5) (own := [("at", 6)]) (by rfl) sc_guessed_vector.nd rfl rfl (sw_true rfl rfl rfl (by decide +kernel)) (q_seq K (pv 4)) (blkOk_by (N := ["vectors", "k", "across", "column", "beside", "some", "at", "vector"]) (sc := (defScope s_guessed_vector)) (by decide +kernel)) (fun _ _ _ _ _ => (pg_name (i := 6) sc_guessed_vector.nd rfl (Or.inl rfl))) (fun _ _ _ _ _ => (pts_one (pt_cmpR q_isnot (pe_ix (q_ix K) (pv 0) (pv 6) (fun _ _ => rfl)) pe_non (nomark _)))) (fun _ _ _ _ _ => (pe_ix (q_ix K) (pv 0) (pv 6) (fun _ _ => rfl))))
  (pss_cons (ps_if (pt_cmpR (q_eq K (hu64 hr)) (pe_callB (q_len K) (by rfl) T.n_len b_len (pa_cons (pv 5) pa_nil)) pe_int (nomark _))
  (pss_one (ps_ret (pe_callTy (q_tuple K) (by rfl) T.n_tuple b_tuple (pa_cons (pe_ix (q_ix K) (pv 5) pe_int (fun _ _ => rfl)) pa_nil))))
  pss_nil)
  (pss_cons (ps_set (i := 5) sc_guessed_vector.nd rfl (Or.inl rfl) (pe_op (q_add K) (pv 5) (pe_op (q_mul K) (pe_lst (pa_cons (pe_tup (pa_cons pe_int (pa_cons pe_int pa_nil))) pa_nil)) (pe_op q_sub pe_int (pe_callB (q_len K) (by rfl) T.n_len b_len (pa_cons (pv 5) pa_nil))))))
  (pss_one (ps_ret (pe_tup (pa_cons (pe_callSD (ok_middle T) (hr.mono (by decide)) (by rfl) T.d_middle.g T.d_middle.F.kp T.d_middle.b .nil (fun σ => pass_of) (pa_cons (pe_lc (own := [("vector", 7)]) (by rfl) sc_guessed_vector.nd (q_seq K (pv 5)) (blkOk_by (N := ["vectors", "k", "across", "column", "beside", "some", "at", "vector"]) (sc := (defScope s_guessed_vector)) (by decide +kernel)) (fun _ _ _ _ _ => (pg_name (i := 7) sc_guessed_vector.nd rfl (Or.inl rfl))) (fun _ _ _ _ _ => pts_nil) (fun _ _ _ _ _ => (pe_ix (q_ix K) (pv 7) pe_int (fun _ _ => rfl)))) pa_nil)) (pa_cons (pe_callSD (ok_middle T) (hr.mono (by decide)) (by rfl) T.d_middle.g T.d_middle.F.kp T.d_middle.b .nil (fun σ => pass_of) (pa_cons (pe_lc (own := [("vector", 7)]) (by rfl) sc_guessed_vector.nd (q_seq K (pv 5)) (blkOk_by (N := ["vectors", "k", "across", "column", "beside", "some", "at", "vector"]) (sc := (defScope s_guessed_vector)) (by decide +kernel)) (fun _ _ _ _ _ => (pg_name (i := 7) sc_guessed_vector.nd rfl (Or.inl rfl))) (fun _ _ _ _ _ => pts_nil) (fun _ _ _ _ _ => (pe_ix (q_ix K) (pv 7) pe_int (fun _ _ => rfl)))) pa_nil)) pa_nil))))))))))), fun xs M Φ Ψ h => ?_⟩
  · obtain ⟨x, ys, vs, kk, a, rfl, _⟩ := h; rfl
  obtain ⟨x, ys, vs, kk, a, rfl, rfl, hx, hv, hk, hk1, ha, k⟩ := h
  k_search 5
  have ha' : (0 : Int) < (a : Int) := by omega
  have em : (kk : Int) % (a : Int) = ((kk % a : Nat) : Int) := rfl
  k_search 3
  rw [em]
  refine W.cut (fun z M => ∃ p, z = .ref p ∧ M = [(p, .lst ((if 0 < kk % a then [kk - 1] else []).map fun (n : Nat) => D.int n))]) ?_ ?_
  · k_search 4
    refine two (fun hc => ?_) (fun hc => ?_)
    · refine W.lstO ?_
      k_search 4
      intro p
      refine ⟨p, rfl, ?_⟩
      have h1 : 0 < kk % a := by omega
      have h2 : kk % a ≤ kk := Nat.mod_le _ _
      rw [if_pos h1]
      have e : ((kk : Int) - 1) = ((kk - 1 : Nat) : Int) := by omega
      rw [e]
      rfl
    · refine W.lstO ?_
      k_search 4
      intro p
      refine ⟨p, rfl, ?_⟩
      have h1 : ¬ 0 < kk % a := by omega
      rw [if_neg h1]
      rfl
  rintro z M ⟨p, rfl, rfl⟩
  k_search 3
  have lA : (if 0 < kk % a then [kk - 1] else []).length ≤ 1 := by split <;> simp
  refine S.to (fun ρ M => ρ = [some x, some (.int (kk : Int)), some (.int (a : Int)), some (.int ((kk % a : Nat) : Int)), some (.ref p), none, none, none] ∧ M = [(p, .lst ((nb kk a).map fun (n : Nat) => D.int n))]) ?_ ?_
  · k_search 4
    refine two (fun hc => ?_) (fun hc => ?_)
    · have hc' : a ≤ kk := by omega
      k_search 3
      have e : ((kk : Int) - (a : Int)) = ((kk - a : Nat) : Int) := by omega
      rw [e]
      k_search 4
      refine two (fun hd => ?_) (fun hd => ?_)
      · k_search 4
        rw [e]
        refine ⟨rfl, ?_⟩
        have hd' : kk % a + 1 < a := by omega
        unfold nb
        rw [if_pos hc', if_pos hd']
        simp only [List.map_append, List.append_assoc]
        rfl
      · have hd' : ¬ kk % a + 1 < a := by omega
        k_search 4
        refine two (fun hg => ?_) (fun hg => ?_)
        · k_search 4
          rw [e]
          refine ⟨rfl, ?_⟩
          have hg' : 0 < kk % a := by omega
          have hne : kk ≠ a := fun z => by rw [z, Nat.mod_self] at hg'; omega
          have e2 : (((kk - a : Nat) : Int) - 1) = ((kk - a - 1 : Nat) : Int) := by omega
          rw [e2]
          unfold nb
          rw [if_pos hc', if_neg hd', if_pos hg', if_pos hg']
          simp only [List.map_append, List.append_assoc]
          rfl
        · k_search 4
          refine ⟨rfl, ?_⟩
          have hg' : ¬ 0 < kk % a := by omega
          unfold nb
          rw [if_pos hc', if_neg hd', if_neg hg', if_neg hg']
          simp
    · k_search 4
      refine ⟨rfl, ?_⟩
      have hc' : ¬ a ≤ kk := by omega
      unfold nb
      rw [if_neg hc', List.append_nil]
  rintro ρ M ⟨rfl, rfl⟩
  k_search 3
  have hn3 : (nb kk a).length ≤ 3 := by
    unfold nb
    rw [List.length_append]
    split <;> split <;> (try split) <;> (try split) <;> simp
  refine W.lc (gOnly_name (by decide)) ?_
  refine WI.seq ?_
  k_search 4
  refine ⟨_, .own (List.mem_singleton.mpr rfl), fun i acc M => M = [(p, .lst ((nb kk a).map fun (n : Nat) => D.int n))] ∧ acc.length ≤ i ∧ Paired PR acc (((nb kk a).take i).filterMap fun i => vs.getD i none), ⟨rfl, Nat.le_refl _, .nil⟩, ?_, ?_, ?_⟩
  · rintro i acc M' _ ⟨rfl, _⟩
    exact .own (List.mem_singleton.mpr rfl)
  · rintro i z acc M' hz ⟨rfl, hl, hp⟩
    have hi : i < (nb kk a).length := by
      have := (List.getElem?_eq_some_iff.mp hz).1
      simpa using this
    refine ⟨line_lt (by omega), ?_⟩
    simp only [List.getElem?_map, List.getElem?_eq_getElem hi, Option.map_some, Option.some.injEq] at hz
    subst hz
    generalize hm : (nb kk a)[i] = m
    have hm1 : m < kk := nb_lt ha (by rw [← hm]; exact List.getElem_mem hi)
    have hv1 : vs[m]? = some vs[m] := List.getElem?_eq_getElem (by omega)
    obtain ⟨y, hy, ry⟩ := Paired.at hv hv1
    have ht : (nb kk a).take (i + 1) = (nb kk a).take i ++ [m] := by
      rw [List.take_add_one, List.getElem?_eq_getElem hi, hm]
      rfl
    have hg : vs.getD m none = vs[m] := by rw [List.getD_eq_getElem?_getD, hv1]; rfl
    k_search 4
    refine OpD.ixN (y := y) (hx _) (by omega) (by simpa using hy) ?_
    k_search 4
    have tk : ∀ z, (((nb kk a).take (i + 1)).filterMap fun i => vs.getD i none) = (((nb kk a).take i).filterMap fun i => vs.getD i none) ++ z ↔ ([m].filterMap fun i => vs.getD i none) = z := by
      intro z
      rw [ht, List.filterMap_append]
      exact List.append_cancel_left_eq ..|>.to_iff
    cases e : vs[m] with
    | none =>
      rw [e] at ry
      have ry : y = .non := ry
      subst ry
      refine ⟨fun h => Bool.noConfusion h, fun _ => ⟨rfl, by omega, ?_⟩⟩
      rw [(tk []).mpr (by simp [hv1, e]), List.append_nil]
      exact hp
    | some v =>
      rw [e] at ry
      have ry : PR y v := ry
      have hn : y.isN = false := by rcases ry with rfl | rfl <;> rfl
      rw [hn]
      refine ⟨fun _ => ?_, fun h => Bool.noConfusion h⟩
      k_search 4
      refine OpD.ixN (y := y) (hx _) (by omega) (by simpa using hy) ?_
      refine ⟨rfl, by simp; omega, ?_⟩
      rw [(tk [v]).mpr (by simp [hv1, e])]
      exact hp.snoc ry
  · rintro acc M' ⟨rfl, hl, hp⟩
    have hln : (List.map (fun (n : Nat) => D.int n) (nb kk a)).length = (nb kk a).length := List.length_map _
    rw [show (Src.mk (List.map (fun (n : Nat) => D.int n) (nb kk a)) _).its.length = (nb kk a).length from hln] at hl hp
    rw [List.take_length] at hp
    have hla : acc.length = (nbv vs kk a).length := Paired.length hp
    have hp : Paired PR acc (nbv vs kk a) := hp
    k_search 4
    refine two (fun h1 => ?_) (fun h1 => ?_)
    · obtain ⟨y, v, rfl, e2, ry⟩ := paired_one hp (by omega)
      have eg : gv vs kk a = v := by unfold gv; rw [e2]
      refine S.clear ?_
      k_search 4
      rw [eg] at k
      rcases ry with rfl | rfl
      · exact CbD.tuple (.tup _) k
      · exact CbD.tuple (.lst _) k
    · refine S.clear ?_
      k_search 4
      refine OpD.rep (by omega) (by omega) ?_ ?_
      · exact line_of (by simp; omega)
      have hrep : (List.replicate ((3 : Int) - (acc.length : Nat)).toNat [D.tup [D.int 0, D.int 0]]).flatten = List.replicate (3 - acc.length) (pD (0, 0)) := by
        have e3 : ((3 : Int) - (acc.length : Nat)).toNat = 3 - acc.length := by omega
        rw [e3]
        have : ∀ n, (List.replicate n [D.tup [D.int 0, D.int 0]]).flatten = List.replicate n (pD (0, 0)) := by
          intro n
          induction n with
          | zero => rfl
          | succ n ih => rw [List.replicate_succ, List.flatten_cons, ih]; rfl
        exact this _
      rw [hrep]
      refine OpD.add_lst (line_of (by simp; omega)) ?_
      have hf : Paired PR (acc ++ List.replicate (3 - acc.length) (pD (0, 0))) (fill3 (nbv vs kk a)) := by
        unfold fill3
        rw [← hla]
        exact Paired.app hp (Paired.rep (.inl rfl) _)
      have hlf : (fill3 (nbv vs kk a)).length = 3 := by
        rw [← Paired.length hf]
        simp
        omega
      have eg : gv vs kk a = (mid ((fill3 (nbv vs kk a)).map (·.1)), mid ((fill3 (nbv vs kk a)).map (·.2))) := by
        unfold gv
        split
        · rename_i v e
          rw [e] at hla
          simp at hla
          omega
        · rfl
      rw [eg] at k
      generalize acc ++ List.replicate (3 - acc.length) (pD (0, 0)) = xs at hf ⊢
      generalize fill3 (nbv vs kk a) = zs at hf hlf k ⊢
      have hlx : xs.length = 3 := (Paired.length hf).trans hlf
      have get : ∀ (i : Nat) (y : D), xs[i]? = some y → ∃ v, zs[i]? = some v ∧ PR y v := fun i y h => Paired.atL hf h
      k_search 4
      refine W.callP ?_
      k_search 4
      refine W.lcL (gOnly_name (by decide)) ?_
      refine WI.seq ?_
      k_search 4
      refine ⟨xs, .lst _, (zs.map fun v => D.int v.1), by simp [hlx], by simp [hlx, hlf], .lst _, ?_, ?_⟩
      · intro i y y0 hy hy0
        obtain ⟨v, hv, r⟩ := get i y hy
        rw [List.getElem?_map, hv] at hy0
        cases hy0
        rcases r with rfl | rfl
        · unfold pD
          k_search 4
          exact ⟨rfl, rfl⟩
        · k_search 4
          exact ⟨rfl, rfl⟩
      · k_search 4
        refine ⟨zs.map (·.1), by simp, rfl, by simp [hlf], ?_⟩
        k_search 4
        refine W.callP ?_
        k_search 4
        refine W.lcL (gOnly_name (by decide)) ?_
        refine WI.seq ?_
        k_search 4
        refine ⟨xs, .lst _, (zs.map fun v => D.int v.2), by simp [hlx], by simp [hlx, hlf], .lst _, ?_, ?_⟩
        · intro i y y0 hy hy0
          obtain ⟨v, hv, r⟩ := get i y hy
          rw [List.getElem?_map, hv] at hy0
          cases hy0
          rcases r with rfl | rfl
          · unfold pD
            k_search 4
            exact ⟨rfl, rfl⟩
          · k_search 4
            exact ⟨rfl, rfl⟩
        · k_search 4
          refine ⟨zs.map (·.2), by simp, rfl, by simp [hlf], ?_⟩
          k_search 4
          exact k
/-! ### the law's own guess -/
def spLawVec : SpD := fun xs M Φ _ => ∃ (x : D) (vs : List Vc) (k a : Nat), xs = [x, .int (k : Int), .int (a : Int)] ∧ Seq M x (vs.map vD) ∧ vs.length = k ∧ k < 1000 ∧ 0 < a ∧ ∃ c, M = [c] ∧ Φ (pD (gv vs k a)) M
theorem ok__law_vector {P : Program} {w : World} {K : PySem.W.Frag} {mg : Str → Option Value} {base : Heap} (T : Tx K mg) : FnOk P w K mg base (L2.CX P w) 1 T.d__law_vector.f T.d__law_vector.fd ["_law_vectors", "_law_k", "_law_across"] (lift K spLawVec) := by
  refine def_ok T.d__law_vector.F sc__law_vector (fun xs M Φ Ψ h => ?_) fun cdv A outer s H E hr => ⟨_, (pss_cons (ps_set (i := 3) sc__law_vector.nd rfl (Or.inl rfl) (q_lstO pa_nil))
  (pss_cons (ps_if (pt_cmpR q_gt (pe_op q_mod (pv 1) (pv 2)) pe_int (nomark _))
  (pss_one (ps_expr (q_bm K PySem.F.plainAttrs_list PySem.F.slot_list_append PySem.F.type_list_append q_append (pv 3) (pa_cons (pe_ix (q_ix K) (pv 0) (pe_op q_sub (pv 1) pe_int) (fun _ _ => rfl)) pa_nil))))
  pss_nil)
  (pss_cons (ps_if (pt_cmpR q_ge (pv 1) (pv 2) (nomark _))
  (pss_cons (ps_expr (q_bm K PySem.F.plainAttrs_list PySem.F.slot_list_append PySem.F.type_list_append q_append (pv 3) (pa_cons (pe_ix (q_ix K) (pv 0) (pe_op q_sub (pv 1) (pv 2)) (fun _ _ => rfl)) pa_nil)))
  (pss_one (ps_if (pt_cmpR q_lt (pe_op (q_add K) (pe_op q_mod (pv 1) (pv 2)) pe_int) (pv 2) (nomark _))
  (pss_one (ps_expr (q_bm K PySem.F.plainAttrs_list PySem.F.slot_list_append PySem.F.type_list_append q_append (pv 3) (pa_cons (pe_ix (q_ix K) (pv 0) (pe_op (q_add K) (pe_op q_sub (pv 1) (pv 2)) pe_int) (fun _ _ => rfl)) pa_nil))))
  (pss_one (ps_if (pt_cmpR q_gt (pv 2) pe_int (nomark _))
  (pss_one (ps_expr (q_bm K PySem.F.plainAttrs_list PySem.F.slot_list_append PySem.F.type_list_append q_append (pv 3) (pa_cons (pe_ix (q_ix K) (pv 0) (pe_op q_sub (pe_op q_sub (pv 1) (pv 2)) pe_int) (fun _ _ => rfl)) pa_nil))))
  pss_nil)))))
  pss_nil)
  (pss_cons (ps_setLc (i := 4) (own := [("_law_vector_here", 5)]) (by rfl) sc__law_vector.nd rfl rfl (sw_true rfl rfl rfl (by decide +kernel)) (q_seq K (pv 3)) (blkOk_by (N := ["_law_vectors", "_law_k", "_law_across", "_law_some", "_law_there", "_law_vector_here", "_law_one"]) (sc := (defScope s__law_vector)) (by decide +kernel)) (fun _ _ _ _ _ => (pg_name (i := 5) sc__law_vector.nd rfl (Or.inl rfl))) (fun _ _ _ _ _ => (pts_one (pt_cmpR q_isnot (pv 5) pe_non (nomark _)))) (fun _ _ _ _ _ => (pv 5)))
  (pss_cons (ps_if (pt_cmpR (q_eq K (hu64 hr)) (pe_callB (q_len K) (by rfl) T.n_len b_len (pa_cons (pv 4) pa_nil)) pe_int (nomark _))
  (pss_one (ps_ret (pe_ix (q_ix K) (pv 4) pe_int (fun _ _ => rfl))))
  pss_nil)
  (pss_cons (ps_set (i := 4) sc__law_vector.nd rfl (Or.inl rfl) (pe_slice (q_sl K) (pe_op (q_add K) (pv 4) (pe_op (q_mul K) (pe_lst (pa_cons (pe_tup (pa_cons pe_int (pa_cons pe_int pa_nil))) pa_nil)) pe_int)) po_none (po_some pe_int)))
  (pss_one (ps_ret (pe_tup (pa_cons (pe_ix (q_ix K) (pe_callB (q_sorted K) (by rfl) T.n_sorted b_sorted (pa_cons (pe_lc (own := [("_law_one", 6)]) (by rfl) sc__law_vector.nd (q_seq K (pv 4)) (blkOk_by (N := ["_law_vectors", "_law_k", "_law_across", "_law_some", "_law_there", "_law_vector_here", "_law_one"]) (sc := (defScope s__law_vector)) (by decide +kernel)) (fun _ _ _ _ _ => (pg_name (i := 6) sc__law_vector.nd rfl (Or.inl rfl))) (fun _ _ _ _ _ => pts_nil) (fun _ _ _ _ _ => (pe_ix (q_ix K) (pv 6) pe_int (fun _ _ => rfl)))) pa_nil)) pe_int (fun _ _ => rfl)) (pa_cons (pe_ix (q_ix K) (pe_callB (q_sorted K) (by rfl) T.n_sorted b_sorted (pa_cons (pe_lc (own := [("_law_one", 6)]) (by rfl) sc__law_vector.nd (q_seq K (pv 4)) (blkOk_by (N := ["_law_vectors", "_law_k", "_law_across", "_law_some", "_law_there", "_law_vector_here", "_law_one"]) (sc := (defScope s__law_vector)) (by decide +kernel)) (fun _ _ _ _ _ => (pg_name (i := 6) sc__law_vector.nd rfl (Or.inl rfl))) (fun _ _ _ _ _ => pts_nil) (fun _ _ _ _ _ => (pe_ix (q_ix K) (pv 6) pe_int (fun _ _ => rfl)))) pa_nil)) pe_int (fun _ _ => rfl)) pa_nil))))))))))), fun xs M Φ Ψ h => ?_⟩
  · obtain ⟨x, vs, kk, a, rfl, _⟩ := h; rfl
  obtain ⟨x, vs, kk, a, rfl, hx, hk, hk1, ha, c, rfl, k⟩ := h
  k_search 5
  have ha' : (0 : Int) < (a : Int) := by omega
  have em : (kk : Int) % (a : Int) = ((kk % a : Nat) : Int) := rfl
  have at_ : ∀ (n : Nat), n < kk → (vs.map vD)[n]? = some (vD (vs.getD n none)) := fun n hn => by
    rw [List.getElem?_map, List.getElem?_eq_getElem (by omega), List.getD_eq_getElem?_getD, List.getElem?_eq_getElem (by omega)]
    rfl
  let it : Nat → D := fun n => vD (vs.getD n none)
  k_search 4
  intro p
  k_search 3
  refine S.to (fun ρ M => ρ = [some x, some (.int (kk : Int)), some (.int (a : Int)), some (.ref p), none, none, none] ∧ M = [(p, .lst ((if 0 < kk % a then [kk - 1] else []).map it)), c]) ?_ ?_
  · k_search 4
    rw [em]
    refine two (fun hc => ?_) (fun hc => ?_)
    · have h1 : 0 < kk % a := by omega
      have h2 : kk % a ≤ kk := Nat.mod_le _ _
      k_search 4
      refine OpD.ixN (y := it (kk - 1)) hx.more (by omega) ?_ ?_
      · have e : ((kk : Int) - 1).toNat = kk - 1 := by omega
        rw [e]
        exact at_ _ (by omega)
      · k_search 4
        refine ⟨rfl, ?_⟩
        rw [if_pos h1]
        rfl
    · have h1 : ¬ 0 < kk % a := by omega
      k_search 4
      refine ⟨rfl, ?_⟩
      rw [if_neg h1]
      rfl
  rintro ρ M ⟨rfl, rfl⟩
  have lA : (if 0 < kk % a then [kk - 1] else []).length ≤ 1 := by split <;> simp
  k_search 3
  refine S.to (fun ρ M => ρ = [some x, some (.int (kk : Int)), some (.int (a : Int)), some (.ref p), none, none, none] ∧ M = [(p, .lst ((nb kk a).map it)), c]) ?_ ?_
  · k_search 4
    refine two (fun hc => ?_) (fun hc => ?_)
    · have hc' : a ≤ kk := by omega
      have e : ((kk : Int) - (a : Int)).toNat = kk - a := by omega
      k_search 4
      refine OpD.ixN (y := it (kk - a)) hx.more (by omega) (by rw [e]; exact at_ _ (by omega)) ?_
      k_search 4
      rw [em]
      refine two (fun hd => ?_) (fun hd => ?_)
      · have hd' : kk % a + 1 < a := by omega
        have e2 : ((kk : Int) - (a : Int) + 1).toNat = kk - a + 1 := by omega
        k_search 4
        refine OpD.ixN (y := it (kk - a + 1)) hx.more (by omega) (by rw [e2]; exact at_ _ (by omega)) ?_
        k_search 4
        refine ⟨rfl, ?_⟩
        unfold nb
        rw [if_pos hc', if_pos hd']
        simp only [List.map_append, List.append_assoc]
        rfl
      · have hd' : ¬ kk % a + 1 < a := by omega
        k_search 4
        have hl : kk % a < a := Nat.mod_lt _ ha
        refine two (fun hg => ?_) (fun hg => ?_)
        · have hg' : 0 < kk % a := by omega
          have hne : kk ≠ a := fun z => by rw [z, Nat.mod_self] at hg'; omega
          have e2 : ((kk : Int) - (a : Int) - 1).toNat = kk - a - 1 := by omega
          k_search 4
          refine OpD.ixN (y := it (kk - a - 1)) hx.more (by omega) (by rw [e2]; exact at_ _ (by omega)) ?_
          k_search 4
          refine ⟨rfl, ?_⟩
          unfold nb
          rw [if_pos hc', if_neg hd', if_pos hg', if_pos hg']
          simp only [List.map_append, List.append_assoc]
          rfl
        · have hg' : ¬ 0 < kk % a := by omega
          k_search 4
          refine ⟨rfl, ?_⟩
          unfold nb
          rw [if_pos hc', if_neg hd', if_neg hg', if_neg hg']
          simp only [List.map_append, List.append_nil]
          rfl
    · have hc' : ¬ a ≤ kk := by omega
      k_search 4
      refine ⟨rfl, ?_⟩
      unfold nb
      rw [if_neg hc', List.append_nil]
  rintro ρ M ⟨rfl, rfl⟩
  have hn3 : (nb kk a).length ≤ 3 := by
    unfold nb
    rw [List.length_append]
    split <;> split <;> (try split) <;> (try split) <;> simp
  k_search 3
  refine W.lc (gOnly_name (by decide)) ?_
  refine WI.seq ?_
  k_search 4
  refine ⟨_, .own (.head _), fun i acc M => M = [(p, .lst ((nb kk a).map it)), c] ∧ acc.length ≤ i ∧ acc = ((((nb kk a).take i).filterMap fun i => vs.getD i none)).map pD, ⟨rfl, Nat.le_refl _, rfl⟩, ?_, ?_, ?_⟩
  · rintro i acc M' _ ⟨rfl, _⟩
    exact .own (.head _)
  · rintro i z acc M' hz ⟨rfl, hl, rfl⟩
    have hi : i < (nb kk a).length := by
      have := (List.getElem?_eq_some_iff.mp hz).1
      simpa using this
    refine ⟨line_lt (by omega), ?_⟩
    simp only [List.getElem?_map, List.getElem?_eq_getElem hi, Option.map_some, Option.some.injEq] at hz
    subst hz
    generalize hm : (nb kk a)[i] = m
    have ht : (nb kk a).take (i + 1) = (nb kk a).take i ++ [m] := by
      rw [List.take_add_one, List.getElem?_eq_getElem hi, hm]
      rfl
    have tk : ∀ z, (((nb kk a).take (i + 1)).filterMap fun i => vs.getD i none) = (((nb kk a).take i).filterMap fun i => vs.getD i none) ++ z ↔ ([m].filterMap fun i => vs.getD i none) = z := by
      intro z
      rw [ht, List.filterMap_append]
      exact List.append_cancel_left_eq ..|>.to_iff
    show WG K L3.E0 (gName 5) (vD (vs.getD m none)) _ _ _ _
    k_search 4
    cases e : vs.getD m none with
    | none =>
      refine ⟨fun h => Bool.noConfusion h, fun _ => ⟨rfl, by omega, ?_⟩⟩
      rw [(tk []).mpr (by rw [List.filterMap_cons, e]; rfl), List.append_nil]
    | some v =>
      refine ⟨fun _ => ?_, fun h => Bool.noConfusion h⟩
      k_search 4
      refine ⟨rfl, by simp at hl ⊢; omega, ?_⟩
      rw [(tk [v]).mpr (by rw [List.filterMap_cons, e]; rfl), List.map_append]
      rfl
  · rintro acc M' ⟨rfl, hl, rfl⟩
    have hln : (List.map it (nb kk a)).length = (nb kk a).length := List.length_map _
    rw [show (Src.mk (List.map it (nb kk a)) _).its.length = (nb kk a).length from hln] at hl ⊢
    rw [List.take_length] at hl ⊢
    have hl : ((nbv vs kk a).map pD).length ≤ (nb kk a).length := hl
    rw [List.length_map] at hl
    show WG K _ (gName 4) (.lst ((nbv vs kk a).map pD)) _ _ _ _
    k_search 4
    rw [List.length_map]
    refine two (fun h1 => ?_) (fun h1 => ?_)
    · refine S.drop1 ?_
      obtain ⟨v, e2⟩ : ∃ v, nbv vs kk a = [v] := List.length_eq_one_iff.mp (by omega)
      have eg : gv vs kk a = v := by unfold gv; rw [e2]
      rw [e2]
      rw [eg] at k
      k_search 4
      exact k
    · refine S.drop1 ?_
      k_search 3
      refine W.sl ?_
      k_search 3
      refine OpD.rep (n := 3) (by decide) (by decide) (line_of (by decide)) ?_
      refine OpD.add_lst (line_of (by simp; omega)) ?_
      refine WO.no ?_
      refine WO.so ?_
      k_search 3
      refine ⟨3, rfl, ?_⟩
      refine SlD.lst (.lst _) rfl ?_
      rw [show (some (3 : Int)) = some ((3 : Nat) : Int) from rfl, cutD_to (by simp)]
      have e3 : ((nbv vs kk a).map pD ++ (List.replicate (Int.toNat 3) [D.tup [D.int 0, D.int 0]]).flatten).take 3 = (fill3 (nbv vs kk a)).map pD := by
        unfold fill3
        rw [List.map_append, List.map_replicate, List.take_append, List.take_of_length_le (by rw [List.length_map]; omega), List.length_map]
        congr 1
        show List.take (3 - (nbv vs kk a).length) (List.replicate 3 (pD (0, 0))) = _
        rw [List.take_replicate]
        congr 1
        omega
      rw [e3]
      have hlf : (fill3 (nbv vs kk a)).length = 3 := by unfold fill3; simp; omega
      have eg : gv vs kk a = (mid ((fill3 (nbv vs kk a)).map (·.1)), mid ((fill3 (nbv vs kk a)).map (·.2))) := by
        unfold gv
        split
        · rename_i v e
          rw [e] at h1
          exact absurd rfl h1
        · rfl
      rw [eg] at k
      generalize fill3 (nbv vs kk a) = zs at hlf k ⊢
      k_search 3
      refine W.lcL (gOnly_name (by decide)) ?_
      refine WI.seq ?_
      k_search 3
      refine ⟨_, .lst _, (zs.map fun v => D.int v.1), by simp [hlf], by simp [hlf], .lst _, ?_, ?_⟩
      · intro i y y0 hy hy0
        rw [List.getElem?_map] at hy hy0
        cases hv : zs[i]? with
        | none => rw [hv] at hy; cases hy
        | some v =>
          rw [hv] at hy hy0
          cases hy
          cases hy0
          unfold pD
          k_search 3
          exact ⟨rfl, rfl⟩
      k_search 3
      rw [show (zs.map fun v => D.int v.1) = (zs.map (·.1)).map D.int by rw [List.map_map]; rfl]
      refine CbD.sorted (by simp [hlf]) fun ms1 hp1 hs1 => ?_
      have hm1 : mid (zs.map (·.1)) = ms1.getD 1 0 := by unfold mid; rw [← sort_is hp1 hs1]
      have hml1 : ms1.length = 3 := by rw [hp1.length_eq]; simp [hlf]
      k_search 3
      refine OpD.ixN (y := .int (ms1.getD (Int.toNat 1) 0)) (.lst _) (by omega) (ix_ints (by omega) (by omega)) ?_
      rw [show Int.toNat 1 = 1 from rfl, ← hm1]
      k_search 3
      refine W.lcL (gOnly_name (by decide)) ?_
      refine WI.seq ?_
      k_search 3
      refine ⟨_, .lst _, (zs.map fun v => D.int v.2), by simp [hlf], by simp [hlf], .lst _, ?_, ?_⟩
      · intro i y y0 hy hy0
        rw [List.getElem?_map] at hy hy0
        cases hv : zs[i]? with
        | none => rw [hv] at hy; cases hy
        | some v =>
          rw [hv] at hy hy0
          cases hy
          cases hy0
          unfold pD
          k_search 3
          exact ⟨rfl, rfl⟩
      k_search 3
      rw [show (zs.map fun v => D.int v.2) = (zs.map (·.2)).map D.int by rw [List.map_map]; rfl]
      refine CbD.sorted (by simp [hlf]) fun ms2 hp2 hs2 => ?_
      have hm2 : mid (zs.map (·.2)) = ms2.getD 1 0 := by unfold mid; rw [← sort_is hp2 hs2]
      have hml2 : ms2.length = 3 := by rw [hp2.length_eq]; simp [hlf]
      k_search 3
      refine OpD.ixN (y := .int (ms2.getD (Int.toNat 1) 0)) (.lst _) (by omega) (ix_ints (by omega) (by omega)) ?_
      rw [show Int.toNat 1 = 1 from rfl, ← hm2]
      k_search 3
      exact k
/-! ### the law -/
theorem cm_vecs : ∀ vs : List Vc, (D.lst (vs.map vD)).cm = true := by
  intro vs
  have h1 : ∀ vs : List Vc, D.plL (vs.map vD) = true ∧ D.dpL (vs.map vD) 59 = true := by
    intro vs
    induction vs with
    | nil => exact ⟨rfl, rfl⟩
    | cons v vs ih => cases v <;> simp [D.plL, D.pl, D.dpL, D.dp, vD, pD, ih]
  simp [D.cm, D.pl, D.dp, h1]
theorem cm_p (v : Int × Int) : (pD v).cm = true := by simp [D.cm, D.pl, D.plL, D.dp, D.dpL, pD]
theorem cm_pl {x : D} (h : x.cm = true) : x.pl = true := by
  have h' : x.pl = true ∧ x.dp 60 = true := by simpa [D.cm] using h
  exact h'.1
def lsI (v : Vc) : D := match v with
  | none => .non
  | some p => .lst [.int p.1, .int p.2]
theorem ok_law {P : Program} {w : World} {K : PySem.W.Frag} {mg : Str → Option Value} {base : Heap} (T : Tx K mg) : FnOk P w K mg base (L2.CX P w) 4 T.d_law.f T.d_law.fd ["_law_script"] (lift K spLaw) := by
  refine def_ok T.d_law.F sc_law (fun xs M Φ Ψ h => ?_) fun cdv A outer s H E hr => ⟨_, (pss_cons (ps_set (i := 1) sc_law.nd rfl (Or.inl rfl) (pe_callSD (ok__law_begin T) (hr.mono (by decide)) (by rfl) T.d__law_begin.g T.d__law_begin.F.kp T.d__law_begin.b .nil (fun σ => pass_of) (pa_cons (pv 0) pa_nil)))
  (pss_cons (ps_for own_of rfl (pi_range1 (by rfl) T.n_range (pa_cons (pe_callB (q_max K rfl) (by rfl) T.n_max b_max (pa_cons pe_int (pa_cons (pe_callB (q_min K rfl) (by rfl) T.n_min b_min (pa_cons (pe_callB (q_len K) (by rfl) T.n_len b_len (pa_cons (pv 0) pa_nil)) (pa_cons pe_int pa_nil))) pa_nil))) pa_nil)) (pg_name (i := 2) sc_law.nd rfl (Or.inl rfl))
  (pss_cons (ps_par (i := 3) (j := 4) rfl sc_law.nd rfl rfl (by decide) rfl rfl (pa_cons (pe_op (q_add K) pe_int (pe_callSD (ok__law_next T) (hr.mono (by decide)) (by rfl) T.d__law_next.g T.d__law_next.F.kp T.d__law_next.b .nil (fun σ => pass_of) (pa_cons (pv 1) (pa_cons pe_int pa_nil)))) (pa_cons (q_lstO pa_nil) pa_nil)) (by rfl))
  (pss_cons (ps_set (i := 5) sc_law.nd rfl (Or.inl rfl) (pe_callSD (ok__law_pick T) (hr.mono (by decide)) (by rfl) T.d__law_pick.g T.d__law_pick.F.kp T.d__law_pick.b .nil (fun σ => pass_of) (pa_cons (pv 1) (pa_cons (pe_lst (pa_cons pe_int (pa_cons pe_int (pa_cons pe_int (pa_cons pe_int pa_nil))))) pa_nil))))
  (pss_one (ps_for own_of rfl (pi_range1 (by rfl) T.n_range (pa_cons (pe_op (q_add K) pe_int (pe_callSD (ok__law_next T) (hr.mono (by decide)) (by rfl) T.d__law_next.g T.d__law_next.F.kp T.d__law_next.b .nil (fun σ => pass_of) (pa_cons (pv 1) (pa_cons (pe_op (q_mul K) pe_int (pv 3)) pa_nil)))) pa_nil)) (pg_name (i := 6) sc_law.nd rfl (Or.inl rfl))
  (pss_cons (ps_set (i := 7) sc_law.nd rfl (Or.inl rfl) (pe_callTy (q_list K) (by rfl) T.n_list b_list (pa_cons (pv 4) pa_nil)))
  (pss_cons (ps_set (i := 8) sc_law.nd rfl (Or.inl rfl) (pe_callSD (ok__law_vector T) (hr.mono (by decide)) (by rfl) T.d__law_vector.g T.d__law_vector.F.kp T.d__law_vector.b .nil (fun σ => pass_of) (pa_cons (pv 4) (pa_cons (pv 6) (pa_cons (pv 3) pa_nil)))))
  (pss_cons (ps_set (i := 10) sc_law.nd rfl (Or.inl rfl) (pe_callTy (q_tuple K) (by rfl) T.n_tuple b_tuple (pa_cons (pe_lc (own := [("_law_one", 9)]) (by rfl) sc_law.nd (q_seq K (pv 4)) (blkOk_by (N := ["_law_script", "_law_state", "_law_turn", "_law_wide", "_law_some", "_law_none", "_law_k", "_law_handed", "_law_due", "_law_one", "_law_listed"]) (sc := (defScope s_law)) (by decide +kernel)) (fun _ _ _ _ _ => (pg_name (i := 9) sc_law.nd rfl (Or.inl rfl))) (fun _ _ _ _ _ => pts_nil) (fun _ _ _ _ _ => (pe_ifExp (pt_cmpR q_is (pv 9) pe_non (nomark _)) (pv 9) (pe_callTy (q_list K) (by rfl) T.n_list b_list (pa_cons (pv 9) pa_nil))))) pa_nil)))
  (pss_cons (ps_if (PW.pt (pw_or (pt_cmpR (q_ne K (hu64 hr)) (pe_callSD (ok_guessed_vector T) (hr.mono (by decide)) (by rfl) T.d_guessed_vector.g T.d_guessed_vector.F.kp T.d_guessed_vector.b .nil (fun σ => pass_of) (pa_cons (pv 7) (pa_cons (pv 6) (pa_cons (pv 3) pa_nil)))) (pv 8) (nomark _)) (pw_or1 (pt_cmpR (q_ne K (hu64 hr)) (pe_callSD (ok_guessed_vector T) (hr.mono (by decide)) (by rfl) T.d_guessed_vector.g T.d_guessed_vector.F.kp T.d_guessed_vector.b .nil (fun σ => pass_of) (pa_cons (pv 10) (pa_cons (pv 6) (pa_cons (pv 3) pa_nil)))) (pv 8) (nomark _)))))
  (pss_one (ps_ret pe_bl))
  pss_nil)
  (pss_cons (ps_if (pt_cmpR (q_ne K (hu64 hr)) (pv 7) (pv 4) (nomark _))
  (pss_one (ps_ret pe_bl))
  pss_nil)
  (pss_cons (ps_set (i := 9) sc_law.nd rfl (Or.inl rfl) (pe_tup (pa_cons (pe_op q_sub (pe_callSD (ok__law_next T) (hr.mono (by decide)) (by rfl) T.d__law_next.g T.d__law_next.F.kp T.d__law_next.b .nil (fun σ => pass_of) (pa_cons (pv 1) (pa_cons pe_int pa_nil))) pe_int) (pa_cons (pe_callSD (ok__law_pick T) (hr.mono (by decide)) (by rfl) T.d__law_pick.g T.d__law_pick.F.kp T.d__law_pick.b .nil (fun σ => pass_of) (pa_cons (pv 1) (pa_cons (pe_lst (pa_cons (pe_un q_neg pe_int) (pa_cons pe_int (pa_cons pe_int (pa_cons pe_int (pa_cons (pe_un q_neg pe_int) (pa_cons (pe_op q_sub (pe_callSD (ok__law_next T) (hr.mono (by decide)) (by rfl) T.d__law_next.g T.d__law_next.F.kp T.d__law_next.b .nil (fun σ => pass_of) (pa_cons (pv 1) (pa_cons pe_int pa_nil))) pe_int) pa_nil))))))) pa_nil))) pa_nil))))
  (pss_cons (ps_if (PW.pt (pw_and (pt_cmpR (q_ne K (hu64 hr)) (pv 4) (pe_lst pa_nil) (nomark _)) (pw_and1 (pt_cmpR (q_eq K (hu64 hr)) (pe_callSD (ok__law_next T) (hr.mono (by decide)) (by rfl) T.d__law_next.g T.d__law_next.F.kp T.d__law_next.b .nil (fun σ => pass_of) (pa_cons (pv 1) (pa_cons pe_int pa_nil))) pe_int (nomark _)))))
  (pss_one (ps_set (i := 9) sc_law.nd rfl (Or.inl rfl) (pe_callSD (ok__law_pick T) (hr.mono (by decide)) (by rfl) T.d__law_pick.g T.d__law_pick.F.kp T.d__law_pick.b .nil (fun σ => pass_of) (pa_cons (pv 1) (pa_cons (pv 4) pa_nil)))))
  pss_nil)
  (pss_one (ps_expr (q_bm K PySem.F.plainAttrs_list PySem.F.slot_list_append PySem.F.type_list_append q_append (pv 4) (pa_cons (pe_ifExp (pt_cmpR q_lt (pe_callSD (ok__law_next T) (hr.mono (by decide)) (by rfl) T.d__law_next.g T.d__law_next.F.kp T.d__law_next.b .nil (fun σ => pass_of) (pa_cons (pv 1) (pa_cons pe_int pa_nil))) (pv 5) (nomark _)) pe_non (pv 9)) pa_nil))))))))))))))))
  (pss_one (ps_ret pe_bl)))), fun xs M Φ Ψ h => ?_⟩
  · obtain ⟨ns, rfl, _⟩ := h; rfl
  obtain ⟨ns, rfl, rfl, hl, _, k⟩ := h
  k_search 5
  k_search 3
  refine W.callP ?_
  k_search 3
  refine ⟨ns, rfl, hl, rfl, ?_⟩
  intro p o hd
  k_search 3
  refine S.for_ ?_
  refine WI.rng1 ?_
  k_search 3
  refine ⟨_, rfl, by omega, by omega, fun _ ρ M => ∃ o R x2 x3 x4 x5 x6 x7 x8 x9 x10, ρ = [some (.scr ns), some (.ref p), x2, x3, x4, x5, x6, x7, x8, x9, x10] ∧ M = R ++ [(p, o)] ∧ Dr o, ⟨o, [], _, _, _, _, _, _, _, _, _, rfl, rfl, hd⟩, fun _ _ _ _ _ => trivial, ?_, ?_⟩
  · rintro i x ρ M hx ⟨o, R, x2, x3, x4, x5, x6, x7, x8, x9, x10, rfl, rfl, hd⟩
    k_search 1
    refine WS.forget ?_
    clear hx
    k_search 1
    refine S.par ?_
    k_search 3
    refine W.nxt rfl ?_
    k_search 3
    refine ⟨_, _, _, rfl, .here, hd, by omega, by omega, fun n o hd n0 n1 => ?_⟩
    obtain ⟨a, ha⟩ : ∃ a : Nat, 1 + n = (a : Int) := ⟨(1 + n).toNat, by omega⟩
    k_search 3
    intro q
    k_search 3
    refine ⟨_, _, rfl, ?_⟩
    rw [ha]
    have a0 : 0 < a := by omega
    have a1 : a ≤ 8 := by omega
    clear ha n0 n1
    k_search 3
    refine W.pick rfl ?_
    k_search 3
    refine ⟨_, _, _, .there .here, hd, .lst _, fun _ => .lst _, by simp, by simp, fun y o hd hy => ?_⟩
    obtain ⟨no, rfl⟩ : ∃ no : Int, y = .int no := by
      simp only [List.mem_cons, List.not_mem_nil, or_false] at hy
      rcases hy with rfl | rfl | rfl | rfl <;> exact ⟨_, rfl⟩
    clear hy
    k_search 3
    refine S.for_ ?_
    refine WI.rng1 ?_
    k_search 3
    refine W.nxt rfl ?_
    k_search 3
    refine ⟨_, _, _, rfl, .there .here, hd, by omega, by omega, fun n2 o hd n0 n1 => ?_⟩
    k_search 3
    refine ⟨_, rfl, by omega, by omega, fun i ρ M => ∃ (vs : List Vc), ∃ o x6 x7 x8 x9 x10, ρ = [some (.scr ns), some (.ref p), x, some (.int (a : Int)), some (.ref q), some (.int no), x6, x7, x8, x9, x10] ∧ M = [(q, .lst (vs.map vD)), (p, o)] ∧ Dr o ∧ vs.length = i, ⟨[], o, _, _, _, _, _, rfl, rfl, hd, rfl⟩, fun _ _ _ _ _ => trivial, ?_, ?_⟩
    · rintro i y ρ M hy ⟨vs, o, x6, x7, x8, x9, x10, rfl, rfl, hd, hvl⟩
      obtain ⟨hi, rfl⟩ := ran_get hy
      have hi2 : i < 100 := by omega
      clear hy hi
      rw [Int.zero_add]
      have hs0 : ∀ o', Seq [(q, .lst (vs.map vD)), (p, o')] (.ref q) (vs.map vD) := fun o' => .own (.head _)
      k_search 3
      refine CbD.list (hs0 o) ?_
      k_search 3
      refine W.call1 ?_
      k_search 3
      refine ⟨q, _, _, .here, .ref q, vs, i, a, rfl, .own (.head _), hvl, by omega, a0, _, rfl, _, rfl, ?_⟩
      k_search 3
      refine W.lcL (gOnly_name (by decide)) ?_
      refine WI.seq ?_
      k_search 3
      refine ⟨_, .own (.head _), vs.map lsI, ?_, ?_, .own (.head _), ?_, ?_⟩
      · show (vs.map vD).length < 100000
        rw [List.length_map]
        omega
      · show (vs.map lsI).length = (vs.map vD).length
        rw [List.length_map, List.length_map]
      · intro j z z0 hz hz0
        have hz : (vs.map vD)[j]? = some z := hz
        rw [List.getElem?_map] at hz hz0
        cases e : vs[j]? with
        | none => rw [e] at hz; cases hz
        | some v =>
          rw [e] at hz hz0
          cases hz
          cases hz0
          cases v with
          | none =>
            show WG K _ _ D.non _ _ _ _
            k_search 4
            exact ⟨rfl, rfl⟩
          | some v =>
            show WG K _ _ (pD v) _ _ _ _
            unfold pD
            k_search 4
            exact ⟨rfl, rfl⟩
      k_search 4
      have pv1 : Paired VR (vs.map vD) vs := by
        clear hvl hs0
        induction vs with
        | nil => exact .nil
        | cons v vs ih =>
          refine .cons ?_ ih
          cases v
          · rfl
          · exact .inl rfl
      have pv2 : Paired VR (vs.map lsI) vs := by
        clear hvl hs0 pv1
        induction vs with
        | nil => exact .nil
        | cons v vs ih =>
          refine .cons ?_ ih
          cases v
          · rfl
          · exact .inr rfl
      refine W.callP ?_
      k_search 4
      refine ⟨_, _, vs, i, a, rfl, rfl, fun _ => .lst _, pv1, hvl, by omega, a0, ?_⟩
      k_search 4
      refine OpD.ne (cm_p _) (cm_p _) ?_
      rw [eqD_refl (cm_pl (cm_p _))]
      k_search 4
      refine W.callP ?_
      k_search 4
      refine ⟨_, _, vs, i, a, rfl, rfl, fun _ => .tup _, pv2, hvl, by omega, a0, ?_⟩
      k_search 4
      refine OpD.ne (cm_p _) (cm_p _) ?_
      rw [eqD_refl (cm_pl (cm_p _))]
      k_search 4
      refine OpD.ne' .self (.own (.head _)) (cm_vecs _) (cm_vecs _) ?_
      rw [eqD_refl (cm_pl (cm_vecs _))]
      k_search 3
      refine W.nxt rfl ?_
      k_search 3
      refine ⟨_, _, _, rfl, .there .here, hd, by omega, by omega, fun u o hd _ _ => ?_⟩
      k_search 3
      refine W.pick rfl ?_
      k_search 3
      refine W.nxt rfl ?_
      k_search 3
      refine ⟨_, _, _, rfl, .there .here, hd, by omega, by omega, fun u2 o hd _ _ => ?_⟩
      k_search 3
      refine ⟨_, _, _, .there .here, hd, .lst _, fun _ => .lst _, by simp, by simp, fun y o hd hy => ?_⟩
      obtain ⟨u3, rfl⟩ : ∃ no : Int, y = .int no := by
        simp only [List.mem_cons, List.not_mem_nil, or_false] at hy
        rcases hy with rfl | rfl | rfl | rfl | rfl | rfl <;> exact ⟨_, rfl⟩
      clear hy
      k_search 3
      refine S.to (fun ρ M => ∃ v o x7 x8 x10, ρ = [some (.scr ns), some (.ref p), x, some (.int (a : Int)), some (.ref q), some (.int no), some (.int (i : Int)), x7, x8, some (vD v), x10] ∧ M = [(q, .lst (vs.map vD)), (p, o)] ∧ Dr o) ?_ ?_
      · k_search 4
        refine OpD.ne' (.own (.head _)) .self (cm_vecs _) (by decide +kernel) ?_
        rw [eq_nil]
        k_search 4
        refine twoN (fun hc => ?_) (fun hc => ?_)
        · k_search 4
          refine W.nxt rfl ?_
          k_search 4
          refine ⟨_, _, _, rfl, .there .here, hd, by omega, by omega, fun u4 o hd _ _ => ?_⟩
          k_search 4
          refine two (fun _ => ?_) (fun _ => ?_)
          · k_search 4
            refine W.pick rfl ?_
            k_search 4
            refine ⟨_, _, _, .there .here, hd, .own (.head _), hs0, ?_, by rw [List.length_map]; omega, fun y o hd hy => ?_⟩
            · rw [List.length_map]
              cases vs with
              | nil => exact absurd rfl hc
              | cons _ _ => simp
            obtain ⟨v, _, rfl⟩ := List.mem_map.mp hy
            k_search 4
            exact ⟨v, o, _, _, _, rfl, rfl, hd⟩
          · k_search 4
            exact ⟨some (u - 32, u3), o, _, _, _, rfl, rfl, hd⟩
        · k_search 4
          exact ⟨some (u - 32, u3), o, _, _, _, rfl, rfl, hd⟩
      rintro ρ M ⟨v, o, x7, x8, x10, rfl, rfl, hd⟩
      k_search 4
      refine W.nxt rfl ?_
      k_search 4
      refine ⟨_, _, _, rfl, .there .here, hd, by omega, by omega, fun u4 o hd _ _ => ?_⟩
      k_search 4
      refine two (fun _ => ?_) (fun _ => ?_)
      · k_search 4
        refine ⟨vs ++ [none], o, _, _, _, _, _, rfl, ?_, hd, by simp [hvl]⟩
        rw [List.map_append]
        rfl
      · k_search 4
        refine ⟨vs ++ [v], o, _, _, _, _, _, rfl, ?_, hd, by simp [hvl]⟩
        rw [List.map_append]
        rfl
    · rintro ρ M ⟨vs, o, x6, x7, x8, x9, x10, rfl, rfl, hd, hvl⟩
      exact ⟨o, [_], _, _, _, _, _, _, _, _, _, rfl, rfl, hd⟩
  · rintro ρ M ⟨o, R, x2, x3, x4, x5, x6, x7, x8, x9, x10, rfl, rfl, hd⟩
    k_search 3
    exact k _
theorem all_mk {P : Program} {w : World} {K : PySem.W.Frag} {h : Heap} {mg : Str → Option Value} {fa : Addr} (X : K.In h) (G : h.Ns mainGlobals mg) (hfa : mg "law" = some (.ref fa))
    {f1 : Addr} {od1 an1 : Option Addr} {sl1 : Array (Option Value)} {oc1 kV1 dc1 pm1 cd1 ct1 : Value}
    (a1 : PySem.W.nsIn K mainGlobals "middle" = some (some (.ref f1))) (l1 : K.lookup f1 = some ⟨oc1, od1, .func (PySem.W.fnOf "middle" "middle" (defArgs s_middle) (defBody s_middle) (defScope s_middle) .none kV1 dc1 pm1 an1 cd1 ct1), sl1⟩) (c1 : PySem.W.codeIn K cd1 "middle" = true) (k1 : PySem.W.keepIn K (.ref f1) = true)
    {f2 : Addr} {od2 an2 : Option Addr} {sl2 : Array (Option Value)} {oc2 kV2 dc2 pm2 cd2 ct2 : Value}
    (a2 : PySem.W.nsIn K mainGlobals "guessed_vector" = some (some (.ref f2))) (l2 : K.lookup f2 = some ⟨oc2, od2, .func (PySem.W.fnOf "guessed_vector" "guessed_vector" (defArgs s_guessed_vector) (defBody s_guessed_vector) (defScope s_guessed_vector) .none kV2 dc2 pm2 an2 cd2 ct2), sl2⟩) (c2 : PySem.W.codeIn K cd2 "guessed_vector" = true) (k2 : PySem.W.keepIn K (.ref f2) = true)
    {f3 : Addr} {od3 an3 : Option Addr} {sl3 : Array (Option Value)} {oc3 kV3 dc3 pm3 cd3 ct3 : Value}
    (a3 : PySem.W.nsIn K mainGlobals "_law_begin" = some (some (.ref f3))) (l3 : K.lookup f3 = some ⟨oc3, od3, .func (PySem.W.fnOf "_law_begin" "_law_begin" (defArgs s__law_begin) (defBody s__law_begin) (defScope s__law_begin) .none kV3 dc3 pm3 an3 cd3 ct3), sl3⟩) (c3 : PySem.W.codeIn K cd3 "_law_begin" = true) (k3 : PySem.W.keepIn K (.ref f3) = true)
    {f4 : Addr} {od4 an4 : Option Addr} {sl4 : Array (Option Value)} {oc4 kV4 dc4 pm4 cd4 ct4 : Value}
    (a4 : PySem.W.nsIn K mainGlobals "_law_more" = some (some (.ref f4))) (l4 : K.lookup f4 = some ⟨oc4, od4, .func (PySem.W.fnOf "_law_more" "_law_more" (defArgs s__law_more) (defBody s__law_more) (defScope s__law_more) .none kV4 dc4 pm4 an4 cd4 ct4), sl4⟩) (c4 : PySem.W.codeIn K cd4 "_law_more" = true) (k4 : PySem.W.keepIn K (.ref f4) = true)
    {f5 : Addr} {od5 an5 : Option Addr} {sl5 : Array (Option Value)} {oc5 kV5 dc5 pm5 cd5 ct5 : Value}
    (a5 : PySem.W.nsIn K mainGlobals "_law_next" = some (some (.ref f5))) (l5 : K.lookup f5 = some ⟨oc5, od5, .func (PySem.W.fnOf "_law_next" "_law_next" (defArgs s__law_next) (defBody s__law_next) (defScope s__law_next) .none kV5 dc5 pm5 an5 cd5 ct5), sl5⟩) (c5 : PySem.W.codeIn K cd5 "_law_next" = true) (k5 : PySem.W.keepIn K (.ref f5) = true)
    {f6 : Addr} {od6 an6 : Option Addr} {sl6 : Array (Option Value)} {oc6 kV6 dc6 pm6 cd6 ct6 : Value}
    (a6 : PySem.W.nsIn K mainGlobals "_law_pick" = some (some (.ref f6))) (l6 : K.lookup f6 = some ⟨oc6, od6, .func (PySem.W.fnOf "_law_pick" "_law_pick" (defArgs s__law_pick) (defBody s__law_pick) (defScope s__law_pick) .none kV6 dc6 pm6 an6 cd6 ct6), sl6⟩) (c6 : PySem.W.codeIn K cd6 "_law_pick" = true) (k6 : PySem.W.keepIn K (.ref f6) = true)
    {f7 : Addr} {od7 an7 : Option Addr} {sl7 : Array (Option Value)} {oc7 kV7 dc7 pm7 cd7 ct7 : Value}
    (a7 : PySem.W.nsIn K mainGlobals "_law_vector" = some (some (.ref f7))) (l7 : K.lookup f7 = some ⟨oc7, od7, .func (PySem.W.fnOf "_law_vector" "_law_vector" (defArgs s__law_vector) (defBody s__law_vector) (defScope s__law_vector) .none kV7 dc7 pm7 an7 cd7 ct7), sl7⟩) (c7 : PySem.W.codeIn K cd7 "_law_vector" = true) (k7 : PySem.W.keepIn K (.ref f7) = true)
    {f8 : Addr} {od8 an8 : Option Addr} {sl8 : Array (Option Value)} {oc8 kV8 dc8 pm8 cd8 ct8 : Value}
    (a8 : PySem.W.nsIn K mainGlobals "law" = some (some (.ref f8))) (l8 : K.lookup f8 = some ⟨oc8, od8, .func (PySem.W.fnOf "law" "law" (defArgs s_law) (defBody s_law) (defScope s_law) .none kV8 dc8 pm8 an8 cd8 ct8), sl8⟩) (c8 : PySem.W.codeIn K cd8 "law" = true) (k8 : PySem.W.keepIn K (.ref f8) = true)
    (z_abs : PySem.W.nsIn K mainGlobals "abs" = some none)
    (z_enumerate : PySem.W.nsIn K mainGlobals "enumerate" = some none)
    (z_len : PySem.W.nsIn K mainGlobals "len" = some none)
    (z_list : PySem.W.nsIn K mainGlobals "list" = some none)
    (z_max : PySem.W.nsIn K mainGlobals "max" = some none)
    (z_min : PySem.W.nsIn K mainGlobals "min" = some none)
    (z_range : PySem.W.nsIn K mainGlobals "range" = some none)
    (z_sorted : PySem.W.nsIn K mainGlobals "sorted" = some none)
    (z_tuple : PySem.W.nsIn K mainGlobals "tuple" = some none) :
    ∃ fd : FuncData, (∀ (s : Shared) (u : Value), BindsTo s fd ⟨[u], []⟩ [("_law_script", u)]) ∧ ∀ base : Heap, K.In base → base.Ns mainGlobals mg → FnOk P w K mg base (L2.CX P w) 4 fa fd ["_law_script"] (lift K spLaw) := by
  have e := hfa.symm.trans (PySem.W.mg_of X G a8)
  cases e
  have F1 := fun_mk (st := s_middle) l1 c1 k1
  have b1 := F1.binds (ps := ["some"]) fun _ _ _ _ _ _ us hl => match us, hl with | [_], _ => rfl
  have F2 := fun_mk (st := s_guessed_vector) l2 c2 k2
  have b2 := F2.binds (ps := ["vectors", "k", "across"]) fun _ _ _ _ _ _ us hl => match us, hl with | [_, _, _], _ => rfl
  have F3 := fun_mk (st := s__law_begin) l3 c3 k3
  have b3 := F3.binds (ps := ["_law_script"]) fun _ _ _ _ _ _ us hl => match us, hl with | [_], _ => rfl
  have F4 := fun_mk (st := s__law_more) l4 c4 k4
  have b4 := F4.binds (ps := ["_law_state"]) fun _ _ _ _ _ _ us hl => match us, hl with | [_], _ => rfl
  have F5 := fun_mk (st := s__law_next) l5 c5 k5
  have b5 := F5.binds (ps := ["_law_state", "_law_most"]) fun _ _ _ _ _ _ us hl => match us, hl with | [_, _], _ => rfl
  have F6 := fun_mk (st := s__law_pick) l6 c6 k6
  have b6 := F6.binds (ps := ["_law_state", "_law_some"]) fun _ _ _ _ _ _ us hl => match us, hl with | [_, _], _ => rfl
  have F7 := fun_mk (st := s__law_vector) l7 c7 k7
  have b7 := F7.binds (ps := ["_law_vectors", "_law_k", "_law_across"]) fun _ _ _ _ _ _ us hl => match us, hl with | [_, _, _], _ => rfl
  have F8 := fun_mk (st := s_law) l8 c8 k8
  have b8 := F8.binds (ps := ["_law_script"]) fun _ _ _ _ _ _ us hl => match us, hl with | [_], _ => rfl
  let T : Tx K mg := { d_middle := ⟨_, _, F1, PySem.W.mg_of X G a1, b1⟩, d_guessed_vector := ⟨_, _, F2, PySem.W.mg_of X G a2, b2⟩, d__law_begin := ⟨_, _, F3, PySem.W.mg_of X G a3, b3⟩, d__law_more := ⟨_, _, F4, PySem.W.mg_of X G a4, b4⟩, d__law_next := ⟨_, _, F5, PySem.W.mg_of X G a5, b5⟩, d__law_pick := ⟨_, _, F6, PySem.W.mg_of X G a6, b6⟩, d__law_vector := ⟨_, _, F7, PySem.W.mg_of X G a7, b7⟩, d_law := ⟨_, _, F8, PySem.W.mg_of X G a8, b8⟩, n_abs := PySem.W.mg_none_of X G z_abs, n_enumerate := PySem.W.mg_none_of X G z_enumerate, n_len := PySem.W.mg_none_of X G z_len, n_list := PySem.W.mg_none_of X G z_list, n_max := PySem.W.mg_none_of X G z_max, n_min := PySem.W.mg_none_of X G z_min, n_range := PySem.W.mg_none_of X G z_range, n_sorted := PySem.W.mg_none_of X G z_sorted, n_tuple := PySem.W.mg_none_of X G z_tuple }
  exact ⟨_, fun s v => .of_eq rfl, fun base _ _ => ok_law T⟩
theorem walk {l : PySem.W.OpenLaw} {q : Program} {loose : List Str} {XP : (Str → Option Value) → Heap → Prop} {YP : World → Heap → Prop} {d : DefRec} {K : Params → PySem.W.Frag} (hn : l.most = some 63) (hdf : d.params.defaults = [])
    (hY : ∀ (w : World) (h : Heap), YP w h → (K w.params).In h)
    (F : ∀ (w : World) (mg : Str → Option Value) (fa : Addr) (h : Heap), (K w.params).In h → h.Ns mainGlobals mg → mg d.name = some (.ref fa) →
      ∃ fd : FuncData, (∀ (s : Shared) (u : Value), BindsTo s fd ⟨[u], []⟩ [("_law_script", u)]) ∧ ∀ base : Heap, (K w.params).In base → base.Ns mainGlobals mg → FnOk l.prog w (K w.params) mg base (L2.CX l.prog w) 4 fa fd ["_law_script"] (lift (K w.params) spLaw)) :
    PySem.W.WalkO q loose XP YP l.row.toRowW d [] (fun f vs => PySem.call f vs) :=
  L2.walk_ofB (n := 63) (k := 4) (x := "_law_script") (CX := fun w => L2.CX l.prog w) (sp := fun w => lift (K w.params) spLaw) hn (by decide) hdf ⟨rfl, by decide, by decide⟩ hY F (fun _ H a ns hl hb _ hS => law_start hl hb hS) fun w H s e s' z => cx_none z

end Lw
open PySem PySem.W PyProof.Rows in
set_option maxRecDepth 100000 in
set_option maxHeartbeats 0 in
theorem PySem.Challenge.cw_sameshown_k09_vectors_guessed_holds : PySem.Challenge.rw_sameshown_k09_vectors_guessed.Holds := by
  w_on; o_law; k_head; (case hw => w_witness2)
  k_fill
  refine Lw.walk (l := PySem.Challenge.rw_sameshown_k09_vectors_guessed) rfl rfl (fun w h Y => PySem.W.kIn_of Y) ?F
  case F =>
    intro w mg fa h KX G hmg
    refine' Lw.all_mk KX G hmg ?a1 ?l1 ?c1 ?k1 ?a2 ?l2 ?c2 ?k2 ?a3 ?l3 ?c3 ?k3 ?a4 ?l4 ?c4 ?k4 ?a5 ?l5 ?c5 ?k5 ?a6 ?l6 ?c6 ?k6 ?a7 ?l7 ?c7 ?k7 ?a8 ?l8 ?c8 ?k8 ?z_abs ?z_enumerate ?z_len ?z_list ?z_max ?z_min ?z_range ?z_sorted ?z_tuple
    (case a1 => k_is)
    (case l1 => k_is)
    (case c1 => k_is)
    (case k1 => k_is)
    (case a2 => k_is)
    (case l2 => k_is)
    (case c2 => k_is)
    (case k2 => k_is)
    (case a3 => k_is)
    (case l3 => k_is)
    (case c3 => k_is)
    (case k3 => k_is)
    (case a4 => k_is)
    (case l4 => k_is)
    (case c4 => k_is)
    (case k4 => k_is)
    (case a5 => k_is)
    (case l5 => k_is)
    (case c5 => k_is)
    (case k5 => k_is)
    (case a6 => k_is)
    (case l6 => k_is)
    (case c6 => k_is)
    (case k6 => k_is)
    (case a7 => k_is)
    (case l7 => k_is)
    (case c7 => k_is)
    (case k7 => k_is)
    (case a8 => k_is)
    (case l8 => k_is)
    (case c8 => k_is)
    (case k8 => k_is)
    (case z_abs => k_is)
    (case z_enumerate => k_is)
    (case z_len => k_is)
    (case z_list => k_is)
    (case z_max => k_is)
    (case z_min => k_is)
    (case z_range => k_is)
    (case z_sorted => k_is)
    (case z_tuple => k_is)
#print axioms PySem.Challenge.cw_sameshown_k09_vectors_guessed_holds

