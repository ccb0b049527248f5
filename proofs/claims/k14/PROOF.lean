import PyProof.Rows.All
import Wide.All
import OpenK.AllK
import Wide.FinOn
import HandS.ForMost
import HandS.ForExc
import HandS.WideMore
import HandS.IsInst
import HandS.ExcIs
import HandS.TryOnly
import HandS.TryMany
import HandS.CallSlots
import HandS.Zip
import HandS.TupMul
import HandS.Deep
import HandS.Lambda
import HandS.Style
import HandS.ExcOwn
import PyProof.ExcBaseAll.ValueError
import PyProof.InstNe
import KE.KRevSl
import HandS.OwnEq
import HandS.More
import HandS.ClsMeth
import HandS.EndTab
import HandS.SetFor
import HandS.RevRange
import KE.KUnpackStar
import HandS.Strs
import KE.GoesMore
import KE.GoesEnum
import PyProof.EnumMake
import HandS.FStr
import HandS.TupAny
import HandS.EndBits
import PySem.Challenge.RW_sameshown_k14_what_are_choices
set_option Elab.async false
set_option linter.all false
set_option autoImplicit false
set_option maxRecDepth 100000
set_option maxHeartbeats 4000000
open PySem PySem.W PyProof.Rows in
set_option maxRecDepth 100000 in
set_option maxHeartbeats 0 in
theorem Lw.look (h : PySem.Challenge.rw_sameshown_k14_what_are_choices.row.Holds) : PySem.Challenge.rw_sameshown_k14_what_are_choices.Holds := by
  w_on; o_law; exact h
/-! L3: plain data above the hand layer: frozen heap F, own cells M, readings by data. -/
namespace L3
open PySem PySem.Spec L2

inductive D where
  | non | bl (b : Bool) | int (i : Int) | str (x : Str) | ty (n : String) | ref (a : Addr)
  | lst (xs : List D) | tup (xs : List D) | ob (C : Addr) (fs : List (Str × D)) | scr (ns : List Int) | dic (kvs : List (Key × D))

section
variable (K : PySem.W.Frag)
mutual
inductive RD : Hp → V → D → Prop
  | non {F} : RD F .non .non
  | bl {F} (b : Bool) : RD F (.bl b) (.bl b)
  | int {F} (i : Int) : RD F (.int i) (.int i)
  | str {F} (x : Str) : RD F (.str x) (.str x)
  | ty {F} (n : String) : RD F (.ty n) (.ty n)
  | ref {F} (a : Addr) : RD F (.ref a) (.ref a)
  | lst {F} {a : Addr} {vs : List V} {ds : List D} : F a = some (.lst vs) → RDs F vs ds → RD F (.ref a) (.lst ds)
  | tup {F} {a : Addr} {vs : List V} {ds : List D} : SqT K F a vs → RDs F vs ds → RD F (.ref a) (.tup ds)
  | scr {F} {a : Addr} {ns : List Int} : SqL K F a (ns.map V.int) → RD F (.ref a) (.scr ns)
  | ob {F} {a C dx : Addr} {fs : List (Str × V)} {gs : List (Str × D)} : F a = some (.ins C dx fs) → RDf F fs gs → RD F (.ref a) (.ob C gs)
  | dic {F} {a : Addr} {vs : List (Key × V)} {ds : List (Key × D)} : F a = some (.dK vs) → RDk F vs ds → RD F (.ref a) (.dic ds)
inductive RDk : Hp → List (Key × V) → List (Key × D) → Prop
  | nil {F} : RDk F [] []
  | cons {F} {k : Key} {v : V} {vs : List (Key × V)} {d : D} {ds : List (Key × D)} : RD F v d → RDk F vs ds → RDk F ((k, v) :: vs) ((k, d) :: ds)
inductive RDs : Hp → List V → List D → Prop
  | nil {F} : RDs F [] []
  | cons {F} {v : V} {vs : List V} {d : D} {ds : List D} : RD F v d → RDs F vs ds → RDs F (v :: vs) (d :: ds)
inductive RDf : Hp → List (Str × V) → List (Str × D) → Prop
  | nil {F} : RDf F [] []
  | cons {F} {f : Str} {v : V} {vs : List (Str × V)} {d : D} {ds : List (Str × D)} : RD F v d → RDf F vs ds → RDf F ((f, v) :: vs) ((f, d) :: ds)
end
end

theorem sqt_mono {K : PySem.W.Frag} {H H' : Hp} {a : Addr} {xs : List V} (e : Same H H') (h : SqT K H a xs) : SqT K H' a xs :=
  h.elim (fun h => .inl (h.elim (fun h => .inl (e _ _ h)) fun ⟨o, h⟩ => .inr ⟨o, e _ _ h⟩)) fun h => .inr h
section
variable {K : PySem.W.Frag} {F F' : Hp}
mutual
theorem RD.mono (e : Same F F') : ∀ {v : V} {d : D}, RD K F v d → RD K F' v d
  | _, _, .non => .non
  | _, _, .bl b => .bl b
  | _, _, .int i => .int i
  | _, _, .str x => .str x
  | _, _, .ty n => .ty n
  | _, _, .ref a => .ref a
  | _, _, .lst h r => .lst (e _ _ h) (RDs.mono e r)
  | _, _, .tup h r => .tup (sqt_mono e h) (RDs.mono e r)
  | _, _, .scr h => .scr (Same.seq e h)
  | _, _, .ob h r => .ob (e _ _ h) (RDf.mono e r)
  | _, _, .dic h r => .dic (e _ _ h) (RDk.mono e r)
theorem RDk.mono (e : Same F F') : ∀ {v : List (Key × V)} {d : List (Key × D)}, RDk K F v d → RDk K F' v d
  | _, _, .nil => .nil
  | _, _, .cons h r => .cons (RD.mono e h) (RDk.mono e r)
theorem RDs.mono (e : Same F F') : ∀ {v : List V} {d : List D}, RDs K F v d → RDs K F' v d
  | _, _, .nil => .nil
  | _, _, .cons h r => .cons (RD.mono e h) (RDs.mono e r)
theorem RDf.mono (e : Same F F') : ∀ {v : List (Str × V)} {d : List (Str × D)}, RDf K F v d → RDf K F' v d
  | _, _, .nil => .nil
  | _, _, .cons h r => .cons (RD.mono e h) (RDf.mono e r)
end
theorem RDs.len : ∀ {v : List V} {d : List D}, RDs K F v d → v.length = d.length
  | _, _, .nil => rfl
  | _, _, .cons _ r => congrArg (· + 1) (RDs.len r)
theorem RDs.get : ∀ {v : List V} {d : List D} {i : Nat} {x : D}, RDs K F v d → d[i]? = some x → ∃ u, v[i]? = some u ∧ RD K F u x
  | _, _, _, _, .nil, e => by simp at e
  | _, _, 0, _, .cons h _, e => by simp at e; subst e; exact ⟨_, rfl, h⟩
  | _, _, i + 1, x, .cons _ r, e => RDs.get (i := i) r (by simpa using e)
theorem RDs.getV : ∀ {v : List V} {d : List D} {i : Nat} {u : V}, RDs K F v d → v[i]? = some u → ∃ x, d[i]? = some x ∧ RD K F u x
  | _, _, _, _, .nil, e => by simp at e
  | _, _, 0, _, .cons h _, e => by simp at e; subst e; exact ⟨_, rfl, h⟩
  | _, _, i + 1, x, .cons _ r, e => RDs.getV (i := i) r (by simpa using e)
theorem RDs.app : ∀ {v w : List V} {d e : List D}, RDs K F v d → RDs K F w e → RDs K F (v ++ w) (d ++ e)
  | _, _, _, _, .nil, r => r
  | _, _, _, _, .cons h t, r => .cons h (RDs.app t r)
theorem RDs.take : ∀ {v : List V} {d : List D} (n : Nat), RDs K F v d → RDs K F (v.take n) (d.take n)
  | _, _, 0, _ => .nil
  | _, _, _ + 1, .nil => .nil
  | _, _, n + 1, .cons h t => .cons h (RDs.take n t)
theorem RDs.drop : ∀ {v : List V} {d : List D} (n : Nat), RDs K F v d → RDs K F (v.drop n) (d.drop n)
  | _, _, 0, r => r
  | _, _, _ + 1, .nil => .nil
  | _, _, n + 1, .cons _ t => RDs.drop n t
theorem RDs.set {u : V} {x : D} (h : RD K F u x) : ∀ {v : List V} {d : List D} (n : Nat), RDs K F v d → RDs K F (v.set n u) (d.set n x)
  | _, _, _, .nil => .nil
  | _, _, 0, .cons _ t => .cons h t
  | _, _, n + 1, .cons q t => .cons q (RDs.set h n t)
theorem RDs.rep {v : List V} {d : List D} (h : RDs K F v d) : ∀ n : Nat, RDs K F (List.replicate n v).flatten (List.replicate n d).flatten
  | 0 => .nil
  | n + 1 => by
    rw [List.replicate_succ, List.replicate_succ, List.flatten_cons, List.flatten_cons]
    exact h.app (RDs.rep h n)
theorem RDs.rev : ∀ {v : List V} {d : List D}, RDs K F v d → RDs K F v.reverse d.reverse
  | _, _, .nil => .nil
  | _, _, .cons h t => by
    rw [List.reverse_cons, List.reverse_cons]
    exact (RDs.rev t).app (.cons h .nil)
theorem RDs.ints : ∀ {ns : List Int}, RDs K F (ns.map V.int) (ns.map D.int)
  | [] => .nil
  | n :: _ => .cons (.int n) RDs.ints
theorem RDs.ofInts : ∀ {ns : List Int} {vs : List V}, RDs K F vs (ns.map D.int) → vs = ns.map V.int
  | [], _, h => by cases h; rfl
  | n :: ns, _, h => by
    cases h with
    | cons h t =>
      cases h
      rw [List.map_cons, ← RDs.ofInts t]
theorem RDs.bls : ∀ {ns : List Bool}, RDs K F (ns.map V.bl) (ns.map D.bl)
  | [] => .nil
  | n :: _ => .cons (.bl n) RDs.bls
theorem RDs.ofBls : ∀ {ns : List Bool} {vs : List V}, RDs K F vs (ns.map D.bl) → vs = ns.map V.bl
  | [], _, h => by cases h; rfl
  | n :: ns, _, h => by
    cases h with
    | cons h t =>
      cases h
      rw [List.map_cons, ← RDs.ofBls t]
theorem RDf.look : ∀ {v : List (Str × V)} {d : List (Str × D)} {f : Str} {x : D}, RDf K F v d → d.lookup f = some x → ∃ u, v.lookup f = some u ∧ RD K F u x
  | _, _, _, _, .nil, e => by simp at e
  | _, _, f, x, .cons (f := g) h r, e => by
    rw [List.lookup_cons] at e ⊢
    cases hb : f == g with
    | true =>
      rw [hb] at e
      cases e
      exact ⟨_, rfl, h⟩
    | false =>
      rw [hb] at e
      exact RDf.look r e
theorem RDf.lookN : ∀ {v : List (Str × V)} {d : List (Str × D)} {f : Str}, RDf K F v d → d.lookup f = none → v.lookup f = none
  | _, _, _, .nil, e => rfl
  | _, _, f, .cons (f := g) h r, e => by
    rw [List.lookup_cons] at e ⊢
    cases hb : f == g with
    | true =>
      rw [hb] at e
      cases e
    | false =>
      rw [hb] at e
      exact RDf.lookN r e
theorem RDf.len : ∀ {v : List (Str × V)} {d : List (Str × D)}, RDf K F v d → v.length = d.length
  | _, _, .nil => rfl
  | _, _, .cons _ r => congrArg (· + 1) (RDf.len r)
end

/-! ### own cells -/
inductive O where
  | lst (xs : List D) | dct (kvs : List (Key × D)) | ins (C dx : Addr) (fs : List (Str × D)) | drw
  | grd (rs : List (Addr × List D)) | mpT (f : List Key → Option D) (n : Nat) | mpK (f : Key → Option D) (n : Nat) | tab (q : Str)
  | drwS (F0 : Hp) (c : Addr) (q : Str)
  | nst
  | ktp (xs : List Str)
abbrev Mem := List (Addr × O)
abbrev Env3 := List (Option D)

def putD (f : Str) (v : D) : List (Str × D) → List (Str × D)
  | [] => [(f, v)]
  | (g, x) :: r => if g = f then (g, v) :: r else (g, x) :: putD f v r

/-- a law's draws, as they stand in their dict -/
abbrev kS (x : Str) : Key := Sum.inr x
abbrev drawL (l a c : D) : List (Key × D) := [(kS "left", l), (kS "at", a), (kS "cells", c)]
def RK (K : PySem.W.Frag) (F : Hp) (p : Key × V) (q : Key × D) : Prop := p.1 = q.1 ∧ RD K F p.2 q.2
def RO (K : PySem.W.Frag) (F : Hp) : HO → O → Prop
  | .lst vs, .lst xs => RDs K F vs xs
  | .lst vs, .nst => ∃ l : Int, 0 ≤ l ∧ vs = [.int l]
  | .dK kvs, .dct ks => Paired (RK K F) kvs ks
  | .ins C dx fs, .ins C' dx' gs => C = C' ∧ dx = dx' ∧ RDf K F fs gs
  | .dT kvs, .mpT f n => kvs.length ≤ n ∧ ∀ k, match f k with | none => valV kvs k = none | some x => ∃ v, valV kvs k = some v ∧ RD K F v x
  | .dK kvs, .mpK f n => kvs.length ≤ n ∧ ∀ k, match f k with | none => valV kvs k = none | some x => ∃ v, valV kvs k = some v ∧ RD K F v x
  | .tbl ps, .tab q => TriplesOk ps.toList ∧ ∀ (pos : Pos) (cv : Value), codeAmong pos ps.toList = some cv → ∃ c, cv = .ref c ∧ F c = some (LamX.CodeO c q)
  | .dK kvs, .drw => ∃ (l a : Int) (cs : List Int), 0 ≤ l ∧ 0 ≤ a ∧ cs.length ≤ 63 ∧ Paired (RK K F) kvs (drawL (.int l) (.int a) (.lst (cs.map D.int)))
  | .frz o u, .ktp xs => o.cls = .type "tuple" ∧ o.dict = none ∧ u = .tup (xs.map V.str)
  | .dK kvs, .drwS F0 c q => (∃ (l a : Int) (cs : List Int), 0 ≤ l ∧ 0 ≤ a ∧ cs.length ≤ 63 ∧ Paired (RK K F) kvs (drawL (.int l) (.int a) (.lst (cs.map D.int)))) ∧ F c = some (LamX.CodeO c q) ∧ Same F0 F
  | _, _ => False
section
variable {K : PySem.W.Frag} {F F' : Hp}
theorem Paired.mp {α β : Type} {P Q : α → β → Prop} (h : ∀ a b, P a b → Q a b) : ∀ {l : List α} {r : List β}, Paired P l r → Paired Q l r
  | _, _, .nil => .nil
  | _, _, .cons a t => .cons (h _ _ a) (Paired.mp h t)
theorem RO.mono (e : Same F F') {ho : HO} {o : O} (h : RO K F ho o) : RO K F' ho o := by
  cases ho with
  | lst vs => cases o with
    | lst xs => exact RDs.mono e h
    | _ => exact h
  | dK kvs => cases o with
    | dct ks => exact Paired.mp (fun a b p => ⟨p.1, p.2.mono e⟩) h
    | drw =>
      obtain ⟨l, a, cs, h1, h2, h3, h4⟩ := h
      exact ⟨l, a, cs, h1, h2, h3, Paired.mp (fun a b p => ⟨p.1, p.2.mono e⟩) h4⟩
    | drwS F0 c q =>
      obtain ⟨⟨l, a, cs, h1, h2, h3, h4⟩, h5, h6⟩ := h
      exact ⟨⟨l, a, cs, h1, h2, h3, Paired.mp (fun a b p => ⟨p.1, p.2.mono e⟩) h4⟩, e _ _ h5, h6.trans e⟩
    | mpK f n =>
      refine ⟨h.1, fun k => ?_⟩
      have h2 := h.2 k
      cases hf : f k with
      | none => rw [hf] at h2; exact h2
      | some x => rw [hf] at h2; obtain ⟨v, a, b⟩ := h2; exact ⟨v, a, b.mono e⟩
    | _ => exact h
  | dT kvs => cases o with
    | mpT f n =>
      refine ⟨h.1, fun k => ?_⟩
      have h2 := h.2 k
      cases hf : f k with
      | none => rw [hf] at h2; exact h2
      | some x => rw [hf] at h2; obtain ⟨v, a, b⟩ := h2; exact ⟨v, a, b.mono e⟩
    | _ => exact h
  | tbl ps => cases o with
    | tab q => exact ⟨h.1, fun pos cv hc => let ⟨c, h1, h2⟩ := h.2 pos cv hc; ⟨c, h1, e _ _ h2⟩⟩
    | _ => exact h
  | ins C dx fs => cases o with
    | ins C' dx' gs => exact ⟨h.1, h.2.1, RDf.mono e h.2.2⟩
    | _ => exact h
  | frz ob u => cases o <;> exact h
  | _ => cases o <;> exact h
end

/-- cells that are several -/
def exO : Addr × O → Mem
  | (g, .grd rs) => (g, .lst (rs.map fun p => .ref p.1)) :: rs.map fun p => (p.1, .lst p.2)
  | c => [c]
def exM (M : Mem) : Mem := M.flatMap exO
def O.ord : O → Bool
  | .grd _ => false
  | _ => true
theorem exO_ord {p : Addr} {o : O} (h : o.ord = true) : exO (p, o) = [(p, o)] := by
  cases o <;> first | rfl | cases h
theorem exM_app {A B : Mem} : exM (A ++ B) = exM A ++ exM B := List.flatMap_append
theorem exM_cons {c : Addr × O} {B : Mem} : exM (c :: B) = exO c ++ exM B := List.flatMap_cons
theorem exM_one {p : Addr} {o : O} {B : Mem} (h : o.ord = true) : exM ((p, o) :: B) = (p, o) :: exM B := by rw [exM_cons, exO_ord h]; rfl
theorem exM_mem {p : Addr} {o : O} {M : Mem} (m : (p, o) ∈ M) (h : o.ord = true) : (p, o) ∈ exM M := List.mem_flatMap.mpr ⟨_, m, by rw [exO_ord h]; exact List.mem_cons_self⟩
theorem exM_perm {M M' : Mem} (h : M.Perm M') : (exM M).Perm (exM M') := h.flatMap_right _
theorem exM_sub {M M' : Mem} (h : M'.Sublist M) : (exM M').Sublist (exM M) := by
  induction h with
  | slnil => exact .slnil
  | cons a h ih => rw [exM_cons]; exact ih.trans (List.sublist_append_right _ _)
  | cons_cons a h ih => rw [exM_cons, exM_cons]; exact (List.Sublist.refl _).append ih

structure StR (K : PySem.W.Frag) (F H : Hp) (M : Mem) : Prop where
  sub : Same F H
  own : ∀ p o, (p, o) ∈ M → F p = none ∧ ∃ ho, H p = some ho ∧ RO K F ho o
  nd : (M.map Prod.fst).Nodup
  ntb : ∀ p ps, F p ≠ some (.tbl ps)
section
variable {K : PySem.W.Frag} {F F' H H' : Hp} {M M' : Mem} {p : Addr} {o : O}
theorem StR.perm (s : StR K F H M) (h : M.Perm M') : StR K F H M' :=
  ⟨s.sub, fun p o m => s.own p o (h.mem_iff.mpr m), (h.map _).nodup_iff.mp s.nd, s.ntb⟩
theorem ntb_upd {ho : HO} (h : ∀ p ps, F p ≠ some (.tbl ps)) (n : ∀ ps, ho ≠ .tbl ps) : ∀ q ps, upd F p ho q ≠ some (.tbl ps) := fun q ps e => by
  by_cases hb : q = p
  · subst hb
    rw [upd_same] at e
    exact n ps (Option.some.inj e)
  · rw [upd_ne hb] at e
    exact h q ps e
/-- a new object, frozen at once -/
theorem StR.newF (s : StR K F H M) {ho : HO} (hp : H p = none) (nt : ∀ ps, ho ≠ .tbl ps) : StR K (upd F p ho) (upd H p ho) M := by
  refine ⟨fun b x e => ?_, fun q o m => ?_, s.nd, ntb_upd s.ntb nt⟩
  · by_cases hb : b = p
    · subst hb
      rw [upd_same] at e ⊢
      exact e
    · rw [upd_ne hb] at e ⊢
      exact s.sub _ _ e
  · obtain ⟨n, ho', e, r⟩ := s.own q o m
    have hne : q ≠ p := fun z => by rw [z, hp] at e; cases e
    have hF : F p = none := by
      cases hq : F p with
      | none => rfl
      | some u => rw [s.sub _ _ hq] at hp; cases hp
    refine ⟨by rw [upd_ne hne]; exact n, ho', by rw [upd_ne hne]; exact e, r.mono fun b x e => ?_⟩
    rw [upd_ne (ne_of_none e hF)]
    exact e
theorem StR.freeF (s : StR K F H M) (hp : H p = none) : F p = none := by
  cases hq : F p with
  | none => rfl
  | some u => rw [s.sub _ _ hq] at hp; cases hp
/-- a new object, a cell of ours -/
theorem StR.newO (s : StR K F H M) {ho : HO} (hp : H p = none) (r : RO K F ho o) : StR K F (upd H p ho) ((p, o) :: M) := by
  refine ⟨fun b x e => ?_, fun q o' m => ?_, ?_, s.ntb⟩
  · have hb : b ≠ p := fun z => by rw [z, s.freeF hp] at e; cases e
    rw [upd_ne hb]
    exact s.sub _ _ e
  · rcases List.mem_cons.mp m with h | h
    · cases h
      exact ⟨s.freeF hp, ho, upd_same, r⟩
    · obtain ⟨n, ho', e, r'⟩ := s.own q o' h
      exact ⟨n, ho', by rw [upd_ne (ne_of_none e hp)]; exact e, r'⟩
  · rw [List.map_cons, List.nodup_cons]
    refine ⟨fun m => ?_, s.nd⟩
    obtain ⟨⟨q, o'⟩, hm, e⟩ := List.mem_map.mp m
    obtain ⟨n, ho', e', r'⟩ := s.own q o' hm
    have e2 : q = p := e
    rw [e2, hp] at e'
    cases e'
/-- untracked objects come -/
theorem StR.more (s : StR K F H M) (e : Same H H') : StR K F H' M := ⟨s.sub.trans e, fun p o m => let ⟨n, ho, h, r⟩ := s.own p o m; ⟨n, ho, e _ _ h, r⟩, s.nd, s.ntb⟩
/-- a cell is written -/
theorem StR.put {A B : Mem} {o' : O} {ho : HO} (s : StR K F H (A ++ (p, o) :: B)) (r : RO K F ho o') : StR K F (upd H p ho) (A ++ (p, o') :: B) := by
  have hm : (p, o) ∈ A ++ (p, o) :: B := List.mem_append_right _ List.mem_cons_self
  obtain ⟨n, ho', e, r'⟩ := s.own p o hm
  have nd := s.nd
  rw [List.map_append, List.map_cons] at nd
  have key : ∀ q u, (q, u) ∈ A ++ B → q ≠ p := fun q u hq z => by
    have z : q = p := z
    subst z
    rw [List.nodup_append, List.nodup_cons] at nd
    rcases List.mem_append.mp hq with h | h
    · exact nd.2.2 q (List.mem_map.mpr ⟨_, h, rfl⟩) q List.mem_cons_self rfl
    · exact nd.2.1.1 (List.mem_map.mpr ⟨_, h, rfl⟩)
  refine ⟨fun b x e => ?_, fun q u m => ?_, ?_, s.ntb⟩
  · have hb : b ≠ p := fun z => by rw [z, n] at e; cases e
    rw [upd_ne hb]
    exact s.sub _ _ e
  · have h3 : (q, u) = (p, o') ∨ (q, u) ∈ A ++ B := by
      rcases List.mem_append.mp m with h | h
      · exact .inr (List.mem_append_left _ h)
      · rcases List.mem_cons.mp h with h | h
        · exact .inl h
        · exact .inr (List.mem_append_right _ h)
    rcases h3 with h | h
    · cases h
      exact ⟨n, ho, upd_same, r⟩
    · have hm2 : (q, u) ∈ A ++ (p, o) :: B := by
        rcases List.mem_append.mp h with h | h
        · exact List.mem_append_left _ h
        · exact List.mem_append_right _ (List.mem_cons_of_mem _ h)
      obtain ⟨n2, ho2, e2, r2⟩ := s.own q u hm2
      exact ⟨n2, ho2, by rw [upd_ne (key q u h)]; exact e2, r2⟩
  · rw [List.map_append, List.map_cons]
    exact nd
/-- a cell is frozen: nobody will write it any more -/
theorem StR.frozen {A B : Mem} {ho : HO} (s : StR K F H (A ++ (p, o) :: B)) (e : H p = some ho) (nt : ∀ ps, ho ≠ .tbl ps) : Same F (upd F p ho) ∧ StR K (upd F p ho) H (A ++ B) := by
  have hm : (p, o) ∈ A ++ (p, o) :: B := List.mem_append_right _ List.mem_cons_self
  obtain ⟨n, ho', e', r⟩ := s.own p _ hm
  have sm : Same F (upd F p ho) := fun b x q => by
    rw [upd_ne (ne_of_none q n)]
    exact q
  refine ⟨sm, fun b x q => ?_, fun q u m => ?_, ?_, ntb_upd s.ntb nt⟩
  · by_cases hb : b = p
    · subst hb
      rw [upd_same] at q
      rw [e, q]
    · rw [upd_ne hb] at q
      exact s.sub _ _ q
  · have nd := s.nd
    rw [List.map_append, List.map_cons, List.nodup_append, List.nodup_cons] at nd
    have hq : q ≠ p := fun z => by
      have z : q = p := z
      subst z
      rcases List.mem_append.mp m with h | h
      · exact nd.2.2 q (List.mem_map.mpr ⟨_, h, rfl⟩) q List.mem_cons_self rfl
      · exact nd.2.1.1 (List.mem_map.mpr ⟨_, h, rfl⟩)
    have hm2 : (q, u) ∈ A ++ (p, o) :: B := by
      rcases List.mem_append.mp m with h | h
      · exact List.mem_append_left _ h
      · exact List.mem_append_right _ (List.mem_cons_of_mem _ h)
    obtain ⟨n2, ho2, e2, r2⟩ := s.own q u hm2
    exact ⟨by rw [upd_ne hq]; exact n2, ho2, e2, r2.mono sm⟩
  · have nd := s.nd
    rw [List.map_append, List.map_cons] at nd
    rw [List.map_append]
    exact (List.nodup_append.mpr ⟨(List.nodup_append.mp nd).1, (List.nodup_cons.mp (List.nodup_append.mp nd).2.1).2, fun a ha b hb => (List.nodup_append.mp nd).2.2 a ha b (List.mem_cons_of_mem _ hb)⟩)
theorem StR.subM (h : M'.Sublist M) (s : StR K F H M) : StR K F H M' := ⟨s.sub, fun p o m => s.own p o (h.subset m), (h.map Prod.fst).nodup s.nd, s.ntb⟩
end
def StC (K : PySem.W.Frag) (F H : Hp) (M : Mem) : Prop := StR K F H (exM M)
section
variable {K : PySem.W.Frag} {F F' H H' : Hp} {M M' : Mem} {p : Addr} {o : O}
theorem StC.sub (s : StC K F H M) : Same F H := StR.sub s
theorem StC.own (s : StC K F H M) (p : Addr) (o : O) (m : (p, o) ∈ M) (h : o.ord = true := by rfl) : F p = none ∧ ∃ ho, H p = some ho ∧ RO K F ho o := StR.own s p o (exM_mem m h)
theorem StC.perm (s : StC K F H M) (h : M.Perm M') : StC K F H M' := StR.perm s (exM_perm h)
theorem StC.freeF (s : StC K F H M) (hp : H p = none) : F p = none := StR.freeF s hp
theorem StC.newF (s : StC K F H M) {ho : HO} (hp : H p = none) (nt : ∀ ps, ho ≠ .tbl ps := by intro _ z; cases z) : StC K (upd F p ho) (upd H p ho) M := StR.newF s hp nt
theorem StC.sameF (s : StC K F H M) {ho : HO} (hp : H p = none) : Same F (upd F p ho) := fun b x e => by
  rw [upd_ne (ne_of_none e (s.freeF hp))]
  exact e
/-- a new object, a cell of ours -/
theorem StC.newO (s : StC K F H M) {ho : HO} (hp : H p = none) (r : RO K F ho o) (h : o.ord = true := by rfl) : StC K F (upd H p ho) ((p, o) :: M) := by
  unfold StC
  rw [exM_one h]
  exact StR.newO s hp r
/-- untracked objects come -/
theorem StC.more (s : StC K F H M) (e : Same H H') : StC K F H' M := StR.more s e
/-- a cell is written -/
theorem StC.put {A B : Mem} {o' : O} {ho : HO} (s : StC K F H (A ++ (p, o) :: B)) (r : RO K F ho o') (h : o.ord = true := by rfl) (h' : o'.ord = true := by rfl) : StC K F (upd H p ho) (A ++ (p, o') :: B) := by
  unfold StC at s ⊢
  rw [exM_app, exM_one h] at s
  rw [exM_app, exM_one h']
  exact StR.put s r
/-- a cell is frozen: nobody will write it any more -/
theorem StC.frozen {A B : Mem} {xs : List D} (s : StC K F H (A ++ (p, .lst xs) :: B)) : ∃ vs, H p = some (.lst vs) ∧ RDs K F vs xs ∧ Same F (upd F p (.lst vs)) ∧ StC K (upd F p (.lst vs)) H (A ++ B) := by
  have hm : (p, O.lst xs) ∈ A ++ (p, O.lst xs) :: B := List.mem_append_right _ List.mem_cons_self
  obtain ⟨n, ho, e, r⟩ := s.own p _ hm
  cases ho with
  | lst vs =>
    unfold StC at s ⊢
    rw [exM_app, exM_one rfl] at s
    obtain ⟨h1, h2⟩ := StR.frozen s e (fun _ z => by cases z)
    exact ⟨vs, e, r, h1, by rw [exM_app]; exact h2⟩
  | _ => exact absurd r (by intro z; exact z)
/-- .. an instance -/
theorem StC.frozenI {C dx : Addr} {gs : List (Str × D)} {A B : Mem} (s : StC K F H (A ++ (p, .ins C dx gs) :: B)) : ∃ fs, H p = some (.ins C dx fs) ∧ RDf K F fs gs ∧ Same F (upd F p (.ins C dx fs)) ∧ StC K (upd F p (.ins C dx fs)) H (A ++ B) := by
  have hm : (p, O.ins C dx gs) ∈ A ++ (p, O.ins C dx gs) :: B := List.mem_append_right _ List.mem_cons_self
  obtain ⟨n, ho, e, r⟩ := s.own p _ hm
  cases ho with
  | ins C' dx' fs =>
    obtain ⟨rfl, rfl, r⟩ := r
    unfold StC at s ⊢
    rw [exM_app, exM_one rfl] at s
    obtain ⟨h1, h2⟩ := StR.frozen s e (fun _ z => by cases z)
    exact ⟨fs, e, r, h1, by rw [exM_app]; exact h2⟩
  | _ => exact absurd r (by intro z; exact z)
/-- .. a dict -/
theorem RDk.ofP : ∀ {vs : List (Key × V)} {ds : List (Key × D)}, Paired (RK K F) vs ds → RDk K F vs ds
  | _, _, .nil => .nil
  | (a, v) :: vs, (b, d) :: ds, .cons ⟨h1, h2⟩ t => by
    have h1 : a = b := h1
    subst h1
    exact .cons h2 (RDk.ofP t)
theorem RDk.toP : ∀ {vs : List (Key × V)} {ds : List (Key × D)}, RDk K F vs ds → Paired (RK K F) vs ds
  | _, _, .nil => .nil
  | _, _, .cons h t => .cons ⟨rfl, h⟩ (RDk.toP t)
theorem StC.frozenK {ks : List (Key × D)} {A B : Mem} (s : StC K F H (A ++ (p, .dct ks) :: B)) : ∃ kvs, H p = some (.dK kvs) ∧ RDk K F kvs ks ∧ Same F (upd F p (.dK kvs)) ∧ StC K (upd F p (.dK kvs)) H (A ++ B) := by
  have hm : (p, O.dct ks) ∈ A ++ (p, O.dct ks) :: B := List.mem_append_right _ List.mem_cons_self
  obtain ⟨n, ho, e, r⟩ := s.own p _ hm
  cases ho with
  | dK kvs =>
    unfold StC at s ⊢
    rw [exM_app, exM_one rfl] at s
    obtain ⟨h1, h2⟩ := StR.frozen s e (fun _ z => by cases z)
    exact ⟨kvs, e, .ofP r, h1, by rw [exM_app]; exact h2⟩
  | _ => exact absurd r (by intro z; exact z)
theorem StC.dropM {A B : Mem} (s : StC K F H (A ++ B)) : StC K F H B := StR.subM (exM_sub (List.sublist_append_right _ _)) s
/-- own rows of an own list, as one cell -/
theorem StC.grd {g : Addr} {rs : List (Addr × List D)} : StC K F H ((g, .grd rs) :: M) ↔ StC K F H ((g, .lst (rs.map fun p => .ref p.1)) :: (rs.map (fun p => (p.1, O.lst p.2)) ++ M)) := by
  have e : exM (rs.map fun p => (p.1, O.lst p.2)) = rs.map fun p => (p.1, O.lst p.2) := by
    induction rs with
    | nil => rfl
    | cons r rs ih => rw [List.map_cons, exM_one rfl, ih]
  have e1 : exM ((g, .grd rs) :: M) = ((g, .lst (rs.map fun p => .ref p.1)) :: rs.map fun p => (p.1, .lst p.2)) ++ exM M := exM_cons
  have e2 : exM ((g, .lst (rs.map fun p => .ref p.1)) :: (rs.map (fun p => (p.1, O.lst p.2)) ++ M)) = ((g, .lst (rs.map fun p => .ref p.1)) :: rs.map fun p => (p.1, .lst p.2)) ++ exM M := by
    rw [exM_one rfl, exM_app, e]
    rfl
  unfold StC
  rw [e1, e2]
end

/-! ### names -/
def RS (K : PySem.W.Frag) (F : Hp) (s : Option V) (r : Option D) : Prop := match r with
  | none => True
  | some x => ∃ v, s = some v ∧ RD K F v x
abbrev EnvR (K : PySem.W.Frag) (F : Hp) (σ : St) (ρ : Env3) : Prop := Paired (RS K F) σ ρ
section
variable {K : PySem.W.Frag} {F F' : Hp}
theorem EnvR.mono (e : Same F F') {σ : L2.St} {ρ : Env3} (h : EnvR K F σ ρ) : EnvR K F' σ ρ := Paired.mp (fun a b r => by
  cases b with
  | none => exact True.intro
  | some x =>
    obtain ⟨v, h1, h2⟩ := r
    exact ⟨v, h1, h2.mono e⟩) h
theorem EnvR.get : ∀ {σ : L2.St} {ρ : Env3} {i : Nat} {x : D}, EnvR K F σ ρ → ρ[i]? = some (some x) → ∃ v, σ[i]? = some (some v) ∧ RD K F v x
  | _, _, _, _, .nil, e => by simp at e
  | _, _, 0, _, .cons h _, e => by
    simp at e
    subst e
    obtain ⟨v, rfl, r⟩ := h
    exact ⟨v, rfl, r⟩
  | _, _, i + 1, x, .cons _ r, e => EnvR.get (i := i) r (by simpa using e)
theorem EnvR.set {v : V} {x : D} (h : RD K F v x) : ∀ {σ : L2.St} {ρ : Env3} (i : Nat), EnvR K F σ ρ → EnvR K F (σ.set i (some v)) (ρ.set i (some x))
  | _, _, _, .nil => .nil
  | _, _, 0, .cons _ t => .cons ⟨v, rfl, h⟩ t
  | _, _, i + 1, .cons q t => .cons q (EnvR.set h i t)
theorem EnvR.clr : ∀ {σ : L2.St} {ρ : Env3} (i : Nat) (z : Option V), EnvR K F σ ρ → EnvR K F (σ.set i z) (ρ.set i none)
  | _, _, _, _, .nil => .nil
  | _, _, 0, _, .cons _ t => .cons True.intro t
  | _, _, i + 1, z, .cons q t => .cons q (EnvR.clr i z t)
theorem EnvR.len : ∀ {σ : L2.St} {ρ : Env3}, EnvR K F σ ρ → σ.length = ρ.length
  | _, _, .nil => rfl
  | _, _, .cons _ t => congrArg (· + 1) (EnvR.len t)
end
def wipeD (ρ : Env3) : List Nat → Env3
  | [] => ρ
  | v :: vs => (wipeD ρ vs).set v none
theorem EnvR.wipe {K : PySem.W.Frag} {F : Hp} {σ : L2.St} {ρ : Env3} (h : EnvR K F σ ρ) : ∀ vs : List Nat, EnvR K F (L2.wipe σ vs) (wipeD ρ vs)
  | [] => h
  | v :: vs => (EnvR.wipe h vs).clr v none

/-! ### errors -/
structure Ex where
  cls : Value
  fs : Option (List (Str × D))
def ExR (K : PySem.W.Frag) (F H : Hp) (cls : Value) (d : Option Addr) (x : Ex) : Prop := cls = x.cls ∧ match x.fs with
  | none => d = none
  | some gs => ∃ dd vs, d = some dd ∧ H dd = some (.xd vs) ∧ RDf K F vs gs

/-! ### readings by data -/
abbrev PX := Ex → Env3 → Mem → Prop
def EK (K : PySem.W.Frag) (F : Hp) (Mf : Mem) (Ψ : PX) (E : WX) : Prop :=
  ∀ x ρ M F' H' σ cls d, Ψ x ρ M → EnvR K F' σ ρ → Same F F' → StC K F' H' (M ++ Mf) → ExR K F' H' cls d x → E cls d σ H'
theorem EK.mono {K : PySem.W.Frag} {F F' : Hp} {Mf : Mem} {Ψ : PX} {E : WX} (h : EK K F Mf Ψ E) (e : Same F F') : EK K F' Mf Ψ E :=
  fun x ρ M F2 H2 σ cls d p r s => h x ρ M F2 H2 σ cls d p r (e.trans s)

def W (K : PySem.W.Frag) (E : WX) (t : TE) (ρ : Env3) (M : Mem) (Φ : D → Mem → Prop) (Ψ : PX) : Prop :=
  ∀ σ F H Mf Q, EnvR K F σ ρ → StC K F H (M ++ Mf) → EK K F Mf Ψ E → (∀ v x F' H' M', Φ x M' → RD K F' v x → Same F F' → StC K F' H' (M' ++ Mf) → Q v H') → t σ H Q
def WT (K : PySem.W.Frag) (E : WX) (t : TT) (ρ : Env3) (M : Mem) (Φ : Bool → Mem → Prop) (Ψ : PX) : Prop :=
  ∀ σ F H Mf Q, EnvR K F σ ρ → StC K F H (M ++ Mf) → EK K F Mf Ψ E → (∀ b F' H' M', Φ b M' → Same F F' → StC K F' H' (M' ++ Mf) → Q b H') → t σ H Q
def WA (K : PySem.W.Frag) (E : WX) (t : TA) (ρ : Env3) (M : Mem) (Φ : List D → Mem → Prop) (Ψ : PX) : Prop :=
  ∀ σ F H Mf Q, EnvR K F σ ρ → StC K F H (M ++ Mf) → EK K F Mf Ψ E → (∀ vs xs F' H' M', Φ xs M' → RDs K F' vs xs → Same F F' → StC K F' H' (M' ++ Mf) → Q vs H') → t σ H Q
structure DD where
  nx : Env3 → Mem → Prop
  rt : D → Mem → Prop
  bk : Env3 → Mem → Prop
  ct : Env3 → Mem → Prop
structure DR (K : PySem.W.Frag) (F : Hp) (Mf : Mem) (d : DD) (e : Ends) : Prop where
  nx : ∀ σ ρ F' H M, d.nx ρ M → EnvR K F' σ ρ → Same F F' → StC K F' H (M ++ Mf) → e.nx σ H
  rt : ∀ v x F' H M, d.rt x M → RD K F' v x → Same F F' → StC K F' H (M ++ Mf) → e.rt v H
  bk : ∀ σ ρ F' H M, d.bk ρ M → EnvR K F' σ ρ → Same F F' → StC K F' H (M ++ Mf) → e.bk σ H
  ct : ∀ σ ρ F' H M, d.ct ρ M → EnvR K F' σ ρ → Same F F' → StC K F' H (M ++ Mf) → e.ct σ H
theorem DR.mono {K : PySem.W.Frag} {F F' : Hp} {Mf : Mem} {d : DD} {e : Ends} (h : DR K F Mf d e) (s : Same F F') : DR K F' Mf d e :=
  ⟨fun a b c x y p q r => h.nx a b c x y p q (s.trans r), fun a b c x y p q r => h.rt a b c x y p q (s.trans r), fun a b c x y p q r => h.bk a b c x y p q (s.trans r), fun a b c x y p q r => h.ct a b c x y p q (s.trans r)⟩
def WS (K : PySem.W.Frag) (E : WX) (t : TS) (ρ : Env3) (M : Mem) (d : DD) (Ψ : PX) : Prop :=
  ∀ σ F H Mf e, EnvR K F σ ρ → StC K F H (M ++ Mf) → EK K F Mf Ψ E → DR K F Mf d e → t e σ H
def WG (K : PySem.W.Frag) (E : WX) (g : TG) (x : D) (ρ : Env3) (M : Mem) (Θ : Env3 → Mem → Prop) (Ψ : PX) : Prop :=
  ∀ σ F H Mf v Q, RD K F v x → EnvR K F σ ρ → StC K F H (M ++ Mf) → EK K F Mf Ψ E → (∀ σ' ρ' F' H' M', Θ ρ' M' → EnvR K F' σ' ρ' → Same F F' → StC K F' H' (M' ++ Mf) → Q σ' H') → g v σ H Q
def WGs (K : PySem.W.Frag) (E : WX) (g : TGs) (xs : List D) (ρ : Env3) (M : Mem) (Θ : Env3 → Mem → Prop) (Ψ : PX) : Prop :=
  ∀ σ F H Mf vs Q, RDs K F vs xs → EnvR K F σ ρ → StC K F H (M ++ Mf) → EK K F Mf Ψ E → (∀ σ' ρ' F' H' M', Θ ρ' M' → EnvR K F' σ' ρ' → Same F F' → StC K F' H' (M' ++ Mf) → Q σ' H') → g vs σ H Q
end L3

namespace L3
open PySem PySem.Spec L2
section
variable {K : PySem.W.Frag} {E : WX} {Ψ : PX} {ρ : Env3} {M : Mem} {Φ : D → Mem → Prop}
/-- whatever the new place is -/
def AllA (P : Addr → Prop) : Prop := ∀ p, P p
theorem AllA.mk {P : Addr → Prop} (h : ∀ p, P p) : AllA P := h
theorem W.mono {t : TE} {Φ' : D → Mem → Prop} (h : W K E t ρ M Φ Ψ) (m : ∀ x M', Φ x M' → Φ' x M') : W K E t ρ M Φ' Ψ :=
  fun σ F H Mf Q e s k q => h σ F H Mf Q e s k fun v x F' H' M' p => q v x F' H' M' (m _ _ p)
theorem WS.mono {t : TS} {d d' : DD} (h : WS K E t ρ M d Ψ) (m : ∀ ρ' M', d.nx ρ' M' → d'.nx ρ' M') (m2 : ∀ x M', d.rt x M' → d'.rt x M') (m3 : ∀ ρ' M', d.bk ρ' M' → d'.bk ρ' M') (m4 : ∀ ρ' M', d.ct ρ' M' → d'.ct ρ' M') : WS K E t ρ M d' Ψ :=
  fun σ F H Mf e a s k q => h σ F H Mf e a s k ⟨fun a b c x y p => q.nx a b c x y (m _ _ p), fun a b c x y p => q.rt a b c x y (m2 _ _ p), fun a b c x y p => q.bk a b c x y (m3 _ _ p), fun a b c x y p => q.ct a b c x y (m4 _ _ p)⟩
theorem W.var {i : Nat} {x : D} (h : ρ[i]? = some (some x)) (q : Φ x M) : W K E (tVar i) ρ M Φ Ψ := fun σ F H Mf Q e s _ k => by
  obtain ⟨v, h1, h2⟩ := e.get h
  exact ⟨v, h1, k v x F H M q h2 (Same.refl _) s⟩
theorem W.cst {v : V} {x : D} (r : ∀ F, RD K F v x) (q : Φ x M) : W K E (tC v) ρ M Φ Ψ := fun σ F H Mf Q e s _ k => k v x F H M q (r F) (Same.refl _) s
theorem W.int {i : Int} (q : Φ (.int i) M) : W K E (tC (.int i)) ρ M Φ Ψ := W.cst (fun _ => .int i) q
theorem W.bl {i : Bool} (q : Φ (.bl i) M) : W K E (tC (.bl i)) ρ M Φ Ψ := W.cst (fun _ => .bl i) q
theorem W.str {i : Str} (q : Φ (.str i) M) : W K E (tC (.str i)) ρ M Φ Ψ := W.cst (fun _ => .str i) q
theorem W.non (q : Φ .non M) : W K E (tC .non) ρ M Φ Ψ := W.cst (fun _ => .non) q
theorem W.ty {i : String} (q : Φ (.ty i) M) : W K E (tC (.ty i)) ρ M Φ Ψ := W.cst (fun _ => .ty i) q
theorem W.ref {i : Addr} (q : Φ (.ref i) M) : W K E (tC (.ref i)) ρ M Φ Ψ := W.cst (fun _ => .ref i) q

/-! ### what a step wants of values -/
abbrev Kont (K : PySem.W.Frag) (F : Hp) (Mf : Mem) (Φ : D → Mem → Prop) (Q : VK) : Prop := ∀ v x F' H' M', Φ x M' → RD K F' v x → Same F F' → StC K F' H' (M' ++ Mf) → Q v H'
def OpD (K : PySem.W.Frag) (r : R2) (x y : D) (M : Mem) (Φ : D → Mem → Prop) : Prop := ∀ F H Mf v u Q, RD K F v x → RD K F u y → StC K F H (M ++ Mf) → Kont K F Mf Φ Q → r v u H Q
def UnD (K : PySem.W.Frag) (r : V → Hp → VK → Prop) (x : D) (M : Mem) (Φ : D → Mem → Prop) : Prop := ∀ F H Mf v Q, RD K F v x → StC K F H (M ++ Mf) → Kont K F Mf Φ Q → r v H Q
def CbD (K : PySem.W.Frag) (r : List V → Hp → VK → Prop) (xs : List D) (M : Mem) (Φ : D → Mem → Prop) : Prop := ∀ F H Mf vs Q, RDs K F vs xs → StC K F H (M ++ Mf) → Kont K F Mf Φ Q → r vs H Q
def MtD (K : PySem.W.Frag) (r : V → List V → Hp → VK → Prop) (x : D) (xs : List D) (M : Mem) (Φ : D → Mem → Prop) : Prop := ∀ F H Mf v vs Q, RD K F v x → RDs K F vs xs → StC K F H (M ++ Mf) → Kont K F Mf Φ Q → r v vs H Q
theorem Kont.mono {F F' : Hp} {Mf : Mem} {Q : VK} (k : Kont K F Mf Φ Q) (e : Same F F') : Kont K F' Mf Φ Q := fun v x F2 H2 M2 p r s => k v x F2 H2 M2 p r (e.trans s)
theorem W.op {r : R2} {ta tb : TE} (h : W K E ta ρ M (fun x M1 => W K E tb ρ M1 (fun y M2 => OpD K r x y M2 Φ) Ψ) Ψ) : W K E (tOp r ta tb) ρ M Φ Ψ := fun σ F H Mf Q e s k q =>
  h σ F H Mf _ e s k fun v x F1 H1 M1 h1 r1 s1 c1 => h1 σ F1 H1 Mf _ (e.mono s1) c1 (k.mono s1) fun u y F2 H2 M2 h2 r2 s2 c2 =>
    h2 F2 H2 Mf v u Q (r1.mono s2) r2 c2 (Kont.mono q (s1.trans s2))
theorem W.un {r : V → Hp → VK → Prop} {ta : TE} (h : W K E ta ρ M (fun x M1 => UnD K r x M1 Φ) Ψ) : W K E (tUn r ta) ρ M Φ Ψ := fun σ F H Mf Q e s k q =>
  h σ F H Mf _ e s k fun v x F1 H1 M1 h1 r1 s1 c1 => h1 F1 H1 Mf v Q r1 c1 (Kont.mono q s1)
theorem WA.nil {Φ : List D → Mem → Prop} (h : Φ [] M) : WA K E tNil ρ M Φ Ψ := fun σ F H Mf Q e s k q => q [] [] F H M h .nil (Same.refl _) s
theorem WA.cons {ta : TE} {tr : TA} {Φ : List D → Mem → Prop} (h : W K E ta ρ M (fun x M1 => WA K E tr ρ M1 (fun xs M2 => Φ (x :: xs) M2) Ψ) Ψ) : WA K E (tCons ta tr) ρ M Φ Ψ := fun σ F H Mf Q e s k q =>
  h σ F H Mf _ e s k fun v x F1 H1 M1 h1 r1 s1 c1 => h1 σ F1 H1 Mf _ (e.mono s1) c1 (k.mono s1) fun us ys F2 H2 M2 h2 r2 s2 c2 =>
    q _ _ F2 H2 M2 h2 (.cons (r1.mono s2) r2) (s1.trans s2) c2
theorem W.cb {r : List V → Hp → VK → Prop} {t : TA} (h : WA K E t ρ M (fun xs M1 => CbD K r xs M1 Φ) Ψ) : W K E (tCB r t) ρ M Φ Ψ := fun σ F H Mf Q e s k q =>
  h σ F H Mf _ e s k fun v x F1 H1 M1 h1 r1 s1 c1 => h1 F1 H1 Mf v Q r1 c1 (Kont.mono q s1)
/-- a tuple, a list displayed: frozen -/
theorem W.tup {t : TA} (h : WA K E t ρ M (fun xs M1 => xs.length ≤ sizeLine ∧ Φ (.tup xs) M1) Ψ) : W K E (tTup t) ρ M Φ Ψ := fun σ F H Mf Q e s k q =>
  h σ F H Mf _ e s k fun v x F1 H1 M1 h1 r1 s1 c1 => ⟨by rw [r1.len]; exact h1.1, fun p hp =>
    q _ _ _ _ M1 h1.2 (.tup (.inl (.inl upd_same)) (r1.mono (c1.sameF hp))) (s1.trans (c1.sameF hp)) (c1.newF hp)⟩
theorem W.lst {t : TA} (h : WA K E t ρ M (fun xs M1 => xs.length ≤ sizeLine ∧ Φ (.lst xs) M1) Ψ) : W K E (tLst t) ρ M Φ Ψ := fun σ F H Mf Q e s k q =>
  h σ F H Mf _ e s k fun v x F1 H1 M1 h1 r1 s1 c1 => ⟨by rw [r1.len]; exact h1.1, fun p hp =>
    q _ _ _ _ M1 h1.2 (.lst upd_same (r1.mono (c1.sameF hp))) (s1.trans (c1.sameF hp)) (c1.newF hp)⟩
/-- a list displayed: a cell of ours -/
def tLstO (t : TA) : TE := tLst t
theorem W.lstO {t : TA} (h : WA K E t ρ M (fun xs M1 => xs.length ≤ sizeLine ∧ AllA fun p => Φ (.ref p) ((p, .lst xs) :: M1)) Ψ) : W K E (tLstO t) ρ M Φ Ψ := fun σ F H Mf Q e s k q =>
  h σ F H Mf _ e s k fun v x F1 H1 M1 h1 r1 s1 c1 => ⟨by rw [r1.len]; exact h1.1, fun p hp =>
    q _ _ _ _ _ (h1.2 p) (.ref p) s1 (c1.newO hp r1)⟩

/-! ### tests -/
theorem WT.mono {t : TT} {Θ Θ' : Bool → Mem → Prop} (h : WT K E t ρ M Θ Ψ) (m : ∀ x M', Θ x M' → Θ' x M') : WT K E t ρ M Θ' Ψ :=
  fun σ F H Mf Q e s k q => h σ F H Mf Q e s k fun b F' H' M' p => q b F' H' M' (m _ _ p)
theorem WT.tB {t : TE} {Θ : Bool → Mem → Prop} (h : W K E t ρ M (fun x M1 => ∃ b, x = .bl b ∧ Θ b M1) Ψ) : WT K E (tB t) ρ M Θ Ψ := fun σ F H Mf Q e s k q =>
  h σ F H Mf _ e s k fun v x F1 H1 M1 h1 r1 s1 c1 => by
    obtain ⟨b, rfl, h1⟩ := h1
    cases r1
    exact ⟨b, rfl, q b F1 H1 M1 h1 s1 c1⟩
theorem WT.and {t u : TT} {Θ : Bool → Mem → Prop} (h : WT K E t ρ M (fun b M1 => (b = true → WT K E u ρ M1 Θ Ψ) ∧ (b = false → Θ false M1)) Ψ) : WT K E (tAnd t u) ρ M Θ Ψ := fun σ F H Mf Q e s k q =>
  h σ F H Mf _ e s k fun b F1 H1 M1 h1 s1 c1 => by
    cases b with
    | true => exact h1.1 rfl σ F1 H1 Mf _ (e.mono s1) c1 (k.mono s1) fun c F2 H2 M2 h2 s2 c2 => q c F2 H2 M2 h2 (s1.trans s2) c2
    | false => exact q false F1 H1 M1 (h1.2 rfl) s1 c1
theorem WT.or {t u : TT} {Θ : Bool → Mem → Prop} (h : WT K E t ρ M (fun b M1 => (b = true → Θ true M1) ∧ (b = false → WT K E u ρ M1 Θ Ψ)) Ψ) : WT K E (tOr t u) ρ M Θ Ψ := fun σ F H Mf Q e s k q =>
  h σ F H Mf _ e s k fun b F1 H1 M1 h1 s1 c1 => by
    cases b with
    | false => exact h1.2 rfl σ F1 H1 Mf _ (e.mono s1) c1 (k.mono s1) fun c F2 H2 M2 h2 s2 c2 => q c F2 H2 M2 h2 (s1.trans s2) c2
    | true => exact q true F1 H1 M1 (h1.1 rfl) s1 c1
theorem WT.not {t : TT} {Θ : Bool → Mem → Prop} (h : WT K E t ρ M (fun b M1 => Θ (!b) M1) Ψ) : WT K E (tNot t) ρ M Θ Ψ := fun σ F H Mf Q e s k q =>
  h σ F H Mf _ e s k fun b F1 H1 M1 h1 s1 c1 => q _ F1 H1 M1 h1 s1 c1
theorem W.andV {ta tb : TE} (h : W K E ta ρ M (fun x M1 => ∃ b, x = .bl b ∧ (b = true → W K E tb ρ M1 Φ Ψ) ∧ (b = false → Φ (.bl false) M1)) Ψ) : W K E (tAndV ta tb) ρ M Φ Ψ := fun σ F H Mf Q e s k q =>
  h σ F H Mf _ e s k fun v x F1 H1 M1 h1 r1 s1 c1 => by
    obtain ⟨b, rfl, h1, h2⟩ := h1
    cases r1
    refine ⟨b, rfl, ?_⟩
    cases b with
    | true => exact h1 rfl σ F1 H1 Mf _ (e.mono s1) c1 (k.mono s1) fun v x F2 H2 M2 h2 r2 s2 c2 => q v x F2 H2 M2 h2 r2 (s1.trans s2) c2
    | false => exact q _ _ F1 H1 M1 (h2 rfl) (.bl false) s1 c1
theorem W.orV {ta tb : TE} (h : W K E ta ρ M (fun x M1 => ∃ b, x = .bl b ∧ (b = true → Φ (.bl true) M1) ∧ (b = false → W K E tb ρ M1 Φ Ψ)) Ψ) : W K E (tOrV ta tb) ρ M Φ Ψ := fun σ F H Mf Q e s k q =>
  h σ F H Mf _ e s k fun v x F1 H1 M1 h1 r1 s1 c1 => by
    obtain ⟨b, rfl, h1, h2⟩ := h1
    cases r1
    refine ⟨b, rfl, ?_⟩
    cases b with
    | false => exact h2 rfl σ F1 H1 Mf _ (e.mono s1) c1 (k.mono s1) fun v x F2 H2 M2 h2 r2 s2 c2 => q v x F2 H2 M2 h2 r2 (s1.trans s2) c2
    | true => exact q _ _ F1 H1 M1 (h1 rfl) (.bl true) s1 c1
theorem W.notV {ta : TE} (h : W K E ta ρ M (fun x M1 => ∃ b, x = .bl b ∧ Φ (.bl (!b)) M1) Ψ) : W K E (tNotV ta) ρ M Φ Ψ := fun σ F H Mf Q e s k q =>
  h σ F H Mf _ e s k fun v x F1 H1 M1 h1 r1 s1 c1 => by
    obtain ⟨b, rfl, h1⟩ := h1
    cases r1
    exact ⟨b, rfl, q _ _ F1 H1 M1 h1 (.bl _) s1 c1⟩
theorem W.ite {t : TT} {ta tb : TE} (h : WT K E t ρ M (fun b M1 => (b = true → W K E ta ρ M1 Φ Ψ) ∧ (b = false → W K E tb ρ M1 Φ Ψ)) Ψ) : W K E (tIf t ta tb) ρ M Φ Ψ := fun σ F H Mf Q e s k q =>
  h σ F H Mf _ e s k fun b F1 H1 M1 h1 s1 c1 => by
    cases b with
    | true =>
      refine h1.1 rfl σ F1 H1 Mf _ (e.mono s1) c1 (k.mono s1) (Kont.mono q s1)
    | false =>
      refine h1.2 rfl σ F1 H1 Mf _ (e.mono s1) c1 (k.mono s1) (Kont.mono q s1)

/-! ### statements -/
variable {d : DD}
theorem WS.next (h : d.nx ρ M) : WS K E tNext ρ M d Ψ := fun σ F H Mf e a s k q => q.nx σ ρ F H M h a (Same.refl _) s
theorem WS.seq {t u : TS} (h : WS K E t ρ M { d with nx := fun ρ1 M1 => WS K E u ρ1 M1 d Ψ } Ψ) : WS K E (tSeq t u) ρ M d Ψ := fun σ F H Mf e a s k q =>
  h σ F H Mf _ a s k ⟨fun σ1 ρ1 F1 H1 M1 h1 a1 s1 c1 => h1 σ1 F1 H1 Mf e a1 c1 (k.mono s1) (q.mono s1), q.rt, q.bk, q.ct⟩
theorem WS.asg {te : TE} {g : TG} (h : W K E te ρ M (fun x M1 => WG K E g x ρ M1 d.nx Ψ) Ψ) : WS K E (tAsg te g) ρ M d Ψ := fun σ F H Mf e a s k q =>
  h σ F H Mf _ a s k fun v x F1 H1 M1 h1 r1 s1 c1 => h1 σ F1 H1 Mf v _ r1 (a.mono s1) c1 (k.mono s1) fun σ2 ρ2 F2 H2 M2 h2 a2 s2 c2 => q.nx σ2 ρ2 F2 H2 M2 h2 a2 (s1.trans s2) c2
theorem WG.name {i : Nat} {x : D} {Θ : Env3 → Mem → Prop} (h : Θ (ρ.set i (some x)) M) : WG K E (gName i) x ρ M Θ Ψ := fun σ F H Mf v Q r a s k q => q _ _ F H M h (a.set r i) (Same.refl _) s
theorem WG.tup {n : Nat} {t : TGs} {xs : List D} {Θ : Env3 → Mem → Prop} (hl : xs.length = n) (h : WGs K E t xs ρ M Θ Ψ) : WG K E (gTup K n t) (.tup xs) ρ M Θ Ψ := fun σ F H Mf v Q r a s k q => by
  cases r with
  | tup hs rs =>
    exact ⟨_, _, rfl, sqt_mono s.sub hs, rs.len.trans hl, h σ F H Mf _ Q rs a s k q⟩
theorem WG.lst {n : Nat} {t : TGs} {xs : List D} {Θ : Env3 → Mem → Prop} (hl : xs.length = n) (h : WGs K E t xs ρ M Θ Ψ) : WG K E (gLst K n t) (.lst xs) ρ M Θ Ψ := fun σ F H Mf v Q r a s k q => by
  cases r with
  | lst hs rs =>
    exact ⟨_, _, rfl, .inl (.inl (s.sub _ _ hs)), rs.len.trans hl, h σ F H Mf _ Q rs a s k q⟩
theorem WGs.nil {Θ : Env3 → Mem → Prop} (h : Θ ρ M) : WGs K E gNil [] ρ M Θ Ψ := fun σ F H Mf vs Q r a s k q => by
  cases r
  exact ⟨rfl, q σ ρ F H M h a (Same.refl _) s⟩
theorem WGs.cons {g : TG} {u : TGs} {x : D} {xs : List D} {Θ : Env3 → Mem → Prop} (h : WG K E g x ρ M (fun ρ1 M1 => WGs K E u xs ρ1 M1 Θ Ψ) Ψ) : WGs K E (gCons g u) (x :: xs) ρ M Θ Ψ := fun σ F H Mf vs Q r a s k q => by
  cases r with
  | cons r rr =>
    exact ⟨_, _, rfl, h σ F H Mf _ _ r a s k fun σ1 ρ1 F1 H1 M1 h1 a1 s1 c1 => h1 σ1 F1 H1 Mf _ _ (rr.mono s1) a1 c1 (k.mono s1) fun σ2 ρ2 F2 H2 M2 h2 a2 s2 c2 => q σ2 ρ2 F2 H2 M2 h2 a2 (s1.trans s2) c2⟩
theorem WS.aug {i : Nat} {te : TE} {ti : TIp} {x : D} (h0 : ρ[i]? = some (some x)) (h : W K E te ρ M (fun y M1 => OpD K ti x y M1 (fun z M2 => d.nx (ρ.set i (some z)) M2)) Ψ) : WS K E (tAug i te ti) ρ M d Ψ := fun σ F H Mf e a s k q => by
  obtain ⟨v, h1, h2⟩ := a.get h0
  exact ⟨v, h1, h σ F H Mf _ a s k fun u y F1 H1 M1 g1 r1 s1 c1 => g1 F1 H1 Mf v u _ (h2.mono s1) r1 c1 fun w z F2 H2 M2 g2 r2 s2 c2 => q.nx _ _ F2 H2 M2 g2 ((a.mono (s1.trans s2)).set r2 i) (s1.trans s2) c2⟩
theorem WS.ret {te : TE} (h : W K E te ρ M d.rt Ψ) : WS K E (tRet te) ρ M d Ψ := fun σ F H Mf e a s k q => h σ F H Mf _ a s k fun v x F1 H1 M1 h1 r1 s1 c1 => q.rt v x F1 H1 M1 h1 r1 s1 c1
theorem WS.retN (h : d.rt .non M) : WS K E tRetN ρ M d Ψ := fun σ F H Mf e a s k q => q.rt _ _ F H M h .non (Same.refl _) s
theorem WS.drop {te : TE} (h : W K E te ρ M (fun _ M1 => d.nx ρ M1) Ψ) : WS K E (tDrop te) ρ M d Ψ := fun σ F H Mf e a s k q => h σ F H Mf _ a s k fun v x F1 H1 M1 h1 r1 s1 c1 => q.nx σ ρ F1 H1 M1 h1 (a.mono s1) s1 c1
theorem WS.ite {c : TT} {t u : TS} (h : WT K E c ρ M (fun b M1 => (b = true → WS K E t ρ M1 d Ψ) ∧ (b = false → WS K E u ρ M1 d Ψ)) Ψ) : WS K E (tIfS c t u) ρ M d Ψ := fun σ F H Mf e a s k q =>
  h σ F H Mf _ a s k fun b F1 H1 M1 h1 s1 c1 => by
    cases b with
    | true => exact h1.1 rfl σ F1 H1 Mf e (a.mono s1) c1 (k.mono s1) (q.mono s1)
    | false => exact h1.2 rfl σ F1 H1 Mf e (a.mono s1) c1 (k.mono s1) (q.mono s1)
theorem WS.brk (h : d.bk ρ M) : WS K E tBreak ρ M d Ψ := fun σ F H Mf e a s k q => q.bk σ ρ F H M h a (Same.refl _) s
theorem WS.cnt (h : d.ct ρ M) : WS K E tCont ρ M d Ψ := fun σ F H Mf e a s k q => q.ct σ ρ F H M h a (Same.refl _) s
/-- the order of the cells is nothing -/
theorem WS.perm {t : TS} {M' : Mem} (hp : M.Perm M') (h : WS K E t ρ M' d Ψ) : WS K E t ρ M d Ψ := fun σ F H Mf e a s k q => h σ F H Mf e a (s.perm (hp.append_right Mf)) k q
theorem W.perm {t : TE} {M' : Mem} (hp : M.Perm M') (h : W K E t ρ M' Φ Ψ) : W K E t ρ M Φ Ψ := fun σ F H Mf e a s k q => h σ F H Mf e a (s.perm (hp.append_right Mf)) k q
/-- cells are forgotten -/
theorem WS.forget {t : TS} {A : Mem} (h : WS K E t ρ M d Ψ) : WS K E t ρ (A ++ M) d Ψ := fun σ F H Mf e a s k q => h σ F H Mf e a (StC.dropM (A := A) (by rw [← List.append_assoc]; exact s)) k q

/-! ### calls -/
abbrev SpD := List D → Mem → (D → Mem → Prop) → (Ex → Mem → Prop) → Prop
def lift (K : PySem.W.Frag) (sp : SpD) : Sp := fun vs H Q E => ∃ xs F M Mf Φ Ψ, RDs K F vs xs ∧ StC K F H (M ++ Mf) ∧ sp xs M Φ Ψ ∧ Kont K F Mf Φ Q ∧
  ∀ x M' F' H' cls d, Ψ x M' → Same F F' → StC K F' H' (M' ++ Mf) → ExR K F' H' cls d x → E cls d H'
theorem perm_fr {M M1 M2 Mf : Mem} (h : M.Perm (M1 ++ M2)) : (M ++ Mf).Perm (M1 ++ (M2 ++ Mf)) := by
  rw [← List.append_assoc]
  exact h.append_right Mf
theorem W.call {sp : SpD} {t : TA} (h : WA K E t ρ M (fun xs M1 => ∃ Mc Mr, M1.Perm (Mc ++ Mr) ∧ sp xs Mc (fun x Mc' => Φ x (Mc' ++ Mr)) (fun x Mc' => Ψ x ρ (Mc' ++ Mr))) Ψ) : W K E (tCallSD (lift K sp) [] (WE E) t) ρ M Φ Ψ := fun σ F H Mf Q e s k q =>
  h σ F H Mf _ e s k fun vs xs F1 H1 M1 ⟨Mc, Mr, hp, hs⟩ r1 s1 c1 => by
    rw [List.append_nil]
    exact ⟨xs, F1, Mc, Mr ++ Mf, _, _, r1, c1.perm (perm_fr hp), hs, fun v x F2 H2 M2 h2 r2 s2 c2 => q v x F2 H2 (M2 ++ Mr) h2 r2 (s1.trans s2) (by rw [List.append_assoc]; exact c2),
      fun x M2 F2 H2 cls d h2 s2 c2 er => k x ρ (M2 ++ Mr) F2 H2 σ cls d h2 (e.mono (s1.trans s2)) (s1.trans s2) (by rw [List.append_assoc]; exact c2) er⟩
/-- a call that needs no cell -/
theorem W.callP {sp : SpD} {t : TA} (h : WA K E t ρ M (fun xs M1 => sp xs [] (fun x Mc' => Φ x (Mc' ++ M1)) (fun x Mc' => Ψ x ρ (Mc' ++ M1))) Ψ) : W K E (tCallSD (lift K sp) [] (WE E) t) ρ M Φ Ψ :=
  W.call fun σ F H Mf Q e s k q => h σ F H Mf Q e s k fun vs xs F' H' M' p => q vs xs F' H' M' ⟨[], M', .refl _, p⟩
/-- a def's body -/
def SpLen (sp : SpD) (n : Nat) : Prop := ∀ xs M Φ Ψ, sp xs M Φ Ψ → xs.length = n
theorem start_env {F : Hp} {N : List Str} {vs : List V} {xs : List D} (r : RDs K F vs xs) : EnvR K F (L2.start N vs) (xs.map some ++ List.replicate (N.length - xs.length) none) := by
  unfold L2.start
  rw [r.len]
  have h1 : ∀ {vs : List V} {xs : List D}, RDs K F vs xs → EnvR K F (vs.map some) (xs.map some) := by
    intro vs xs r
    induction xs generalizing vs with
    | nil => cases r; exact .nil
    | cons x xs ih =>
      cases r with
      | cons r rr => exact .cons ⟨_, rfl, r⟩ (ih rr)
  have h2 : ∀ n, EnvR K F (List.replicate n none) (List.replicate n none) := by
    intro n
    induction n with
    | zero => exact .nil
    | succ n ih => exact .cons True.intro ih
  have h3 : ∀ {a b : L2.St} {c d : Env3}, EnvR K F a c → EnvR K F b d → EnvR K F (a ++ b) (c ++ d) := by
    intro a b c d ha hb
    induction ha with
    | nil => exact hb
    | cons r _ ih => exact .cons r ih
  exact h3 (h1 r) (h2 _)
theorem def_ok {P : Program} {w : World} {mg : Str → Option Value} {base : Heap} {x qual : Str} {st : Stmt} {f : Addr} {fd : FuncData} {N ps : List Str} {k : Nat} {sp : SpD} (Fn : Fun K x qual st f fd) (S : FnScope N ps (defScope st)) (hl : SpLen sp ps.length)
    (hb : ∀ (cdv : Value) (A : Around) (outer : List Env) (s : Shared) (H : Hp) (E : XK), Room k (A.deeper (PyProof.Rows.envOfC qual (defScope st) s.heap.objs.size f cdv)) →
      ∃ t, PSs (cxOf (L2.CX P w) P w K mg base N qual (defScope st) f cdv A outer s H E) (defBody st) t ∧ ∀ xs M Φ Ψ, sp xs M Φ Ψ → WS K (fun cls d _ H => E cls d H) t (xs.map some ++ List.replicate (N.length - xs.length) none) M ⟨fun _ M' => Φ .non M', Φ, fun _ _ => False, fun _ _ => False⟩ (fun x _ M' => Ψ x M')) :
    FnOk P w K mg base (L2.CX P w) (k + 1) f fd ps (lift K sp) := by
  refine Fn.okX S (fun vs H Q E h => ?_) (fun cdv A outer s H vs Q E hr h => ?_)
  · obtain ⟨xs, F, M, Mf, Φ, Ψ, r, _, h, _⟩ := h
    exact r.len.trans (hl _ _ _ _ h)
  · obtain ⟨t, ht, hw⟩ := hb cdv A outer s H E hr
    refine ⟨t, ht, ?_⟩
    obtain ⟨xs, F, M, Mf, Φ, Ψ, r, c, h, kn, ke⟩ := h
    exact hw xs M Φ Ψ h (L2.start N vs) F H Mf _ (start_env r) c (fun x ρ M' F' H' σ cls d p _ s' c' er => ke x M' F' H' cls d p s' c' er)
      ⟨fun σ ρ F' H' M' p _ s' c' => kn _ _ F' H' M' p .non s' c', fun v x F' H' M' p r' s' c' => kn v x F' H' M' p r' s' c', fun _ _ _ _ _ p => p.elim, fun _ _ _ _ _ p => p.elim⟩
end
end L3

namespace L3
open PySem PySem.Spec L2

/-! ### what is read as a row of items -/
inductive Seq (M : Mem) : D → List D → Prop
  | lst (xs : List D) : Seq M (.lst xs) xs
  | tup (xs : List D) : Seq M (.tup xs) xs
  | ownX {p : Addr} {xs : List D} (h : (p, O.lst xs) ∈ exM M) : Seq M (.ref p) xs
  | scr (ns : List Int) : Seq M (.scr ns) (ns.map .int)
section
variable {K : PySem.W.Frag} {F H : Hp} {M Mf : Mem} {v : V} {x : D} {xs : List D}
theorem Seq.own {p : Addr} {xs : List D} (h : (p, O.lst xs) ∈ M) : Seq M (.ref p) xs := .ownX (exM_mem h rfl)
theorem own_lstX {p : Addr} (s : StC K F H (M ++ Mf)) (h : (p, O.lst xs) ∈ exM M) : ∃ vs, H p = some (.lst vs) ∧ RDs K F vs xs := by
  obtain ⟨n, ho, e, r⟩ := StR.own s p _ (by rw [exM_app]; exact List.mem_append_left _ h)
  cases ho with
  | lst vs => exact ⟨vs, e, r⟩
  | _ => exact absurd r (by intro z; exact z)
theorem own_lst {p : Addr} (s : StC K F H (M ++ Mf)) (h : (p, O.lst xs) ∈ M) : ∃ vs, H p = some (.lst vs) ∧ RDs K F vs xs := by
  obtain ⟨n, ho, e, r⟩ := s.own p _ (List.mem_append_left _ h)
  cases ho with
  | lst vs => exact ⟨vs, e, r⟩
  | _ => exact absurd r (by intro z; exact z)
theorem own_dct {p : Addr} {ks : List (Key × D)} (s : StC K F H (M ++ Mf)) (h : (p, O.dct ks) ∈ M) : ∃ kvs, H p = some (.dK kvs) ∧ Paired (RK K F) kvs ks := by
  obtain ⟨n, ho, e, r⟩ := s.own p _ (List.mem_append_left _ h)
  cases ho with
  | dK kvs => exact ⟨kvs, e, r⟩
  | _ => exact absurd r (by intro z; exact z)
theorem own_ins {p C dx : Addr} {gs : List (Str × D)} (s : StC K F H (M ++ Mf)) (h : (p, O.ins C dx gs) ∈ M) : ∃ fs, H p = some (.ins C dx fs) ∧ RDf K F fs gs := by
  obtain ⟨n, ho, e, r⟩ := s.own p _ (List.mem_append_left _ h)
  cases ho with
  | ins C' dx' fs =>
    obtain ⟨rfl, rfl, r⟩ := r
    exact ⟨fs, e, r⟩
  | _ => exact absurd r (by intro z; exact z)
theorem Seq.vv (q : Seq M x xs) (r : RD K F v x) (s : StC K F H (M ++ Mf)) : ∃ a vs, v = .ref a ∧ (SqL K H a vs ∨ SqT K H a vs) ∧ RDs K F vs xs := by
  cases q with
  | lst =>
    cases r with
    | lst h rs => exact ⟨_, _, rfl, .inl (.inl (.inl (s.sub _ _ h))), rs⟩
  | tup =>
    cases r with
    | tup h rs => exact ⟨_, _, rfl, .inr (sqt_mono s.sub h), rs⟩
  | ownX h =>
    cases r
    obtain ⟨vs, e, r⟩ := own_lstX s h
    exact ⟨_, vs, rfl, .inl (.inl (.inl e)), r⟩
  | scr ns =>
    cases r with
    | scr h => exact ⟨_, _, rfl, .inl (Same.seq s.sub h), RDs.ints⟩
end

/-! ### data for == -/
mutual
def D.pl : D → Bool
  | .non => true
  | .bl _ => true
  | .int _ => true
  | .str x => PySem.PyData.strOk x
  | .lst xs => D.plL xs
  | .tup xs => D.plL xs
  | _ => false
def D.plL : List D → Bool
  | [] => true
  | x :: xs => x.pl && D.plL xs
end
mutual
def D.py : D → PyData
  | .non => .none
  | .bl b => .bool b
  | .int i => .int i
  | .str x => .str x
  | .lst xs => .list (D.pyL xs)
  | .tup xs => .tuple (D.pyL xs)
  | _ => .none
def D.pyL : List D → List PyData
  | [] => []
  | x :: xs => x.py :: D.pyL xs
end
/-! nesting below n -/
mutual
def D.dp : D → Nat → Bool
  | .lst xs, n + 1 => D.dpL xs n
  | .tup xs, n + 1 => D.dpL xs n
  | .lst _, 0 => false
  | .tup _, 0 => false
  | _, _ => true
def D.dpL : List D → Nat → Bool
  | [], _ => true
  | x :: xs, n => x.dp n && D.dpL xs n
end
section
variable {K : PySem.W.Frag} {F : Hp}
mutual
theorem RD.toDp : ∀ {d : D} {v : V}, d.pl = true → RD K F v d → Dp K F v d.py
  | .non, _, _, r => by cases r; exact .non
  | .bl b, _, _, r => by cases r; exact .bl b
  | .int i, _, _, r => by cases r; exact .int i
  | .str x, _, _, r => by cases r; exact .str x
  | .ty _, _, h, _ => by simp [D.pl] at h
  | .ref _, _, h, _ => by simp [D.pl] at h
  | .ob _ _, _, h, _ => by simp [D.pl] at h
  | .scr _, _, h, _ => by simp [D.pl] at h
  | .lst xs, _, h, r => by
    cases r with
    | lst e rs => exact .lst (.inl (.inl e)) (RDs.toDp (by simpa [D.pl] using h) rs)
  | .tup xs, _, h, r => by
    cases r with
    | tup e rs => exact .tup e (RDs.toDp (by simpa [D.pl] using h) rs)
theorem RDs.toDp : ∀ {d : List D} {v : List V}, D.plL d = true → RDs K F v d → DpAll K F v (D.pyL d)
  | [], _, _, r => by cases r; exact .nil
  | x :: xs, _, h, r => by
    cases r with
    | cons r rr =>
      have h' : x.pl = true ∧ D.plL xs = true := by simpa [D.plL] using h
      exact .cons (RD.toDp h'.1 r) (RDs.toDp h'.2 rr)
end
mutual
theorem D.canLay : ∀ {d : D}, d.pl = true → d.py.canLay0 = true
  | .non, _ => by simp [D.py, PyData.canLay0]
  | .bl b, _ => by simp [D.py, PyData.canLay0]
  | .int i, _ => by simp [D.py, PyData.canLay0]
  | .str x, h => by simpa [D.py, PyData.canLay0, D.pl] using h
  | .ty _, h => by simp [D.pl] at h
  | .ref _, h => by simp [D.pl] at h
  | .ob _ _, h => by simp [D.pl] at h
  | .scr _, h => by simp [D.pl] at h
  | .lst xs, h => by
    have := D.canLayL (d := xs) (by simpa [D.pl] using h)
    simpa [D.py, PyData.canLay0] using this
  | .tup xs, h => by
    have := D.canLayL (d := xs) (by simpa [D.pl] using h)
    simpa [D.py, PyData.canLay0] using this
theorem D.canLayL : ∀ {d : List D}, D.plL d = true → PyData.canLayAll0 (D.pyL d) = true
  | [], _ => by simp [D.pyL, PyData.canLayAll0]
  | x :: xs, h => by
    have h' : x.pl = true ∧ D.plL xs = true := by simpa [D.plL] using h
    simp [D.pyL, PyData.canLayAll0, D.canLay h'.1, D.canLayL h'.2]
end
mutual
theorem D.depth_le : ∀ {d : D} {n : Nat}, d.dp n = true → d.py.depth ≤ n
  | .non, _, _ => by simp [D.py, PyData.depth]
  | .bl b, _, _ => by simp [D.py, PyData.depth]
  | .int i, _, _ => by simp [D.py, PyData.depth]
  | .str x, _, _ => by simp [D.py, PyData.depth]
  | .ty _, _, _ => by simp [D.py, PyData.depth]
  | .ref _, _, _ => by simp [D.py, PyData.depth]
  | .ob _ _, _, _ => by simp [D.py, PyData.depth]
  | .scr _, _, _ => by simp [D.py, PyData.depth]
  | .dic _, _, _ => by simp [D.py, PyData.depth]
  | .lst xs, 0, h => by simp [D.dp] at h
  | .tup xs, 0, h => by simp [D.dp] at h
  | .lst xs, n + 1, h => by
    have := D.depth_leL (d := xs) (n := n) (by simpa [D.dp] using h)
    simp only [D.py, PyData.depth]
    omega
  | .tup xs, n + 1, h => by
    have := D.depth_leL (d := xs) (n := n) (by simpa [D.dp] using h)
    simp only [D.py, PyData.depth]
    omega
theorem D.depth_leL : ∀ {d : List D} {n : Nat}, D.dpL d n = true → PyData.depthAll (D.pyL d) ≤ n
  | [], _, _ => by simp [D.pyL, PyData.depthAll]
  | x :: xs, n, h => by
    have h' : x.dp n = true ∧ D.dpL xs n = true := by simpa [D.dpL] using h
    have h1 := D.depth_le h'.1
    have h2 := D.depth_leL h'.2
    simp only [D.pyL, PyData.depthAll]
    omega
end
end
/-- may be compared -/
def D.cm (d : D) : Bool := d.pl && d.dp 60
theorem D.cm_shaped {d : D} (h : d.cm = true) : SeqAt.shaped d.py = true := by
  have h' : d.pl = true ∧ d.dp 60 = true := by simpa [D.cm] using h
  have h1 := D.canLay h'.1
  have h2 := D.depth_le h'.2
  simp only [SeqAt.shaped, h1, Bool.true_and, decide_eq_true_eq]
  omega
def eqD (x y : D) : Bool := PyData.eqv x.py y.py
theorem eqD_refl {x : D} (h : x.pl = true) : eqD x x = true := PySem.SeqAt.eqv_refl _ (D.canLay h)

/-! ### operators -/
def rOr (r r' : R2) : R2 := fun x y H Q => r x y H Q ∨ r' x y H Q
section
variable {X : Cx}
theorem opOr {f : Value → Value → Sem Value} {r r' : R2} (h : OpR X f r) (h' : OpR X f r') : OpR X f (rOr r r') := fun pins s σ H x y v u Q I rx ry q =>
  q.elim (h pins s σ H x y v u Q I rx ry) (h' pins s σ H x y v u Q I rx ry)
def rCatS : R2 := fun x y H Q => ∃ i j, x = .str i ∧ y = .str j ∧ i.length + j.length ≤ sizeLine ∧ Q (.str (i ++ j)) H
def oAdd (K : PySem.W.Frag) : R2 := rOr (rI0 fun i j => .int (i + j)) (rOr rCat (rOr (rCatT K) rCatS))
theorem q_add (K : PySem.W.Frag) (e : X.K = K := by rfl) : OpR X (binaryOp .Add) (oAdd K) := by subst e; exact opOr op_add (opOr op_cat (opOr op_catT op_add_str))
def oSub : R2 := rI0 fun i j => .int (i - j)
theorem q_sub : OpR X (binaryOp .Sub) oSub := op_sub
def oMul (K : PySem.W.Frag) : R2 := rOr (rI CMul fun i j => .int (i * j)) (rOr (rI CMulW fun i j => .int (i * j)) (rOr rRep (rRepT K)))
theorem q_mul (K : PySem.W.Frag) (e : X.K = K := by rfl) : OpR X (binaryOp .Mult) (oMul K) := by subst e; exact opOr op_mul (opOr op_mulW (opOr op_rep op_repT))
def oFdiv : R2 := rI CDivW fun i j => .int (i / j)
theorem q_fdiv : OpR X (binaryOp .FloorDiv) oFdiv := op_fdivW
theorem q_ifdiv : OpR X (inplaceOp .FloorDiv) oFdiv := iop_fdivW
def oMod : R2 := rI (fun _ j => 0 < j) fun i j => .int (i % j)
theorem q_mod : OpR X (binaryOp .Mod) oMod := op_mod
def oPow : R2 := rI CPow fun i j => .int (i ^ j.toNat)
theorem q_pow : OpR X (binaryOp .Pow) oPow := op_pow
def oIAdd : R2 := rI0 fun i j => .int (i + j)
theorem q_iadd : OpR X (inplaceOp .Add) oIAdd := iop_add
def oISub : R2 := rI0 fun i j => .int (i - j)
theorem q_isub : OpR X (inplaceOp .Sub) oISub := iop_sub
def oEq (K : PySem.W.Frag) : R2 := rEqD K
theorem q_eq (K : PySem.W.Frag) (hu : X.A.units + 64 < cLine) (e : X.K = K := by rfl) : OpR X (compareOp .Eq) (oEq K) := by subst e; exact op_eqD hu
def oNe (K : PySem.W.Frag) : R2 := rNeD K
theorem q_ne (K : PySem.W.Frag) (hu : X.A.units + 64 < cLine) (e : X.K = K := by rfl) : OpR X (compareOp .NotEq) (oNe K) := by subst e; exact op_neD hu
def oLt : R2 := rI0 fun i j => .bl (decide (i < j))
theorem q_lt : OpR X (compareOp .Lt) oLt := op_lt
def oLe : R2 := rI0 fun i j => .bl (decide (i ≤ j))
theorem q_le : OpR X (compareOp .LtE) oLe := op_le
def oGt : R2 := rI0 fun i j => .bl (decide (j < i))
theorem q_gt : OpR X (compareOp .Gt) oGt := op_gt
def oGe : R2 := rI0 fun i j => .bl (decide (j ≤ i))
theorem q_ge : OpR X (compareOp .GtE) oGe := op_ge
def oIs : R2 := fun x y H Q => y = .non ∧ Q (.bl (decide (x = .non))) H
theorem q_is : OpR X (compareOp .Is) oIs := op_isN
def oIsNot : R2 := fun x y H Q => y = .non ∧ Q (.bl (!decide (x = .non))) H
theorem q_isnot : OpR X (compareOp .IsNot) oIsNot := op_notN
def uNeg : V → Hp → VK → Prop := rU fun i => .int (-i)
theorem q_neg : UnR X (unaryOp .USub) uNeg := un_neg
def oIx (K : PySem.W.Frag) : R2 := rIx K
theorem q_ix (K : PySem.W.Frag) (e : X.K = K := by rfl) : IxR X (oIx K) := by subst e; exact ix_seq
/-! ### built-ins -/
def cOr (r r' : List V → Hp → VK → Prop) : List V → Hp → VK → Prop := fun xs H Q => r xs H Q ∨ r' xs H Q
def cLen (K : PySem.W.Frag) : List V → Hp → VK → Prop := fun xs H Q => ∃ x n, xs = [x] ∧ LenV K x H n ∧ Q (.int n) H
theorem q_len (K : PySem.W.Frag) (e : X.K = K := by rfl) : CallR X (.builtin "len") (cLen K) := by subst e; exact call_len
def cAbs : List V → Hp → VK → Prop := fun xs H Q => ∃ i, xs = [.int i] ∧ Q (.int (if i < 0 then -i else i)) H
theorem q_abs : CallR X (.builtin "abs") cAbs := call_abs
def cMax (K : PySem.W.Frag) : List V → Hp → VK → Prop := cOr (fun xs H Q => ∃ i j, xs = [.int i, .int j] ∧ Q (.int (if j > i then j else i)) H) (rMax K)
theorem q_max (K : PySem.W.Frag) (hc : X.calm = true) (e : X.K = K := by rfl) : CallR X (.builtin "max") (cMax K) := by subst e; exact CallR.or (call_max2 hc) (cr_max hc)
def cMin (K : PySem.W.Frag) : List V → Hp → VK → Prop := cOr (fun xs H Q => ∃ i j, xs = [.int i, .int j] ∧ Q (.int (if j < i then j else i)) H) (rMin K)
theorem q_min (K : PySem.W.Frag) (hc : X.calm = true) (e : X.K = K := by rfl) : CallR X (.builtin "min") (cMin K) := by subst e; exact CallR.or (call_min2 hc) (cr_min hc)
def cList (K : PySem.W.Frag) : List V → Hp → VK → Prop := fun xs H Q => ∃ p ys, xs = [.ref p] ∧ (SqL K H p ys ∨ SqT K H p ys) ∧ ∀ l, H l = none → Q (.ref l) (upd H l (.lst ys))
theorem q_list (K : PySem.W.Frag) (e : X.K = K := by rfl) : CallR X (.type "list") (cList K) := by subst e; exact call_list_of
/-- list(x) as a cell of ours -/
def cListO (K : PySem.W.Frag) : List V → Hp → VK → Prop := cList K
theorem q_listO (K : PySem.W.Frag) (e : X.K = K := by rfl) : CallR X (.type "list") (cListO K) := by subst e; exact call_list_of
def cTuple (K : PySem.W.Frag) : List V → Hp → VK → Prop := fun xs H Q => ∃ p ys, xs = [.ref p] ∧ ((SqL K H p ys ∧ ∀ l, H l = none → Q (.ref l) (upd H l (.tup ys))) ∨ (SqT K H p ys ∧ Q (.ref p) H))
theorem q_tuple (K : PySem.W.Frag) (e : X.K = K := by rfl) : CallR X (.type "tuple") (cTuple K) := by subst e; exact call_tuple_of
def cSorted (K : PySem.W.Frag) : List V → Hp → VK → Prop := rSorted K
theorem q_sorted (K : PySem.W.Frag) (e : X.K = K := by rfl) : CallR X (.builtin "sorted") (cSorted K) := by subst e; exact cr_sorted
def cSum (K : PySem.W.Frag) : List V → Hp → VK → Prop := rSum K
theorem q_sum (K : PySem.W.Frag) (hc : X.calm = true) (e : X.K = K := by rfl) : CallR X (.builtin "sum") (cSum K) := by subst e; exact cr_sum hc
def cAny (K : PySem.W.Frag) : List V → Hp → VK → Prop := rAny K
theorem q_any (K : PySem.W.Frag) (hc : X.calm = true) (e : X.K = K := by rfl) : CallR X (.builtin "any") (cAny K) := by subst e; exact cr_any hc
def cAll (K : PySem.W.Frag) : List V → Hp → VK → Prop := rAll K
theorem q_all (K : PySem.W.Frag) (hc : X.calm = true) (e : X.K = K := by rfl) : CallR X (.builtin "all") (cAll K) := by subst e; exact cr_all hc
def cInt : List V → Hp → VK → Prop := fun xs H Q => (∃ i, xs = [.int i] ∧ Q (.int i) H) ∨ ∃ k, xs = [.bl k] ∧ Q (.int (if k then 1 else 0)) H
theorem q_int : CallR X (.type "int") cInt := call_int1
/-! ### methods -/
def mAppend : V → List V → Hp → VK → Prop := rAppend
theorem q_append : MtR X "list.append" mAppend := mt_append
end

section
variable {K : PySem.W.Frag} {M : Mem} {Φ : D → Mem → Prop}
theorem OpD.add_int {i j : Int} (h : Φ (.int (i + j)) M) : OpD K (oAdd K) (.int i) (.int j) M Φ := fun F H Mf v u Q r1 r2 s k => by
  cases r1; cases r2
  exact .inl ⟨i, j, rfl, rfl, k _ _ F H M h (.int _) (Same.refl _) s⟩
theorem OpD.add_lst {xs ys : List D} (hl : xs.length + ys.length ≤ sizeLine) (h : Φ (.lst (xs ++ ys)) M) : OpD K (oAdd K) (.lst xs) (.lst ys) M Φ := fun F H Mf v u Q r1 r2 s k => by
  cases r1 with
  | lst e1 q1 => cases r2 with
    | lst e2 q2 => exact .inr (.inl ⟨_, _, _, _, rfl, rfl, s.sub _ _ e1, s.sub _ _ e2, by rw [q1.len, q2.len]; exact hl, fun p hp => k _ _ _ _ M h (.lst upd_same ((q1.app q2).mono (s.sameF hp))) (s.sameF hp) (s.newF hp)⟩)
theorem OpD.add_own {p : Addr} {xs ys : List D} (hm : (p, O.lst xs) ∈ M) (hl : xs.length + ys.length ≤ sizeLine) (h : Φ (.lst (xs ++ ys)) M) : OpD K (oAdd K) (.ref p) (.lst ys) M Φ := fun F H Mf v u Q r1 r2 s k => by
  cases r1
  obtain ⟨vs, e1, q1⟩ := own_lst s hm
  cases r2 with
  | lst e2 q2 => exact .inr (.inl ⟨_, _, _, _, rfl, rfl, e1, s.sub _ _ e2, by rw [q1.len, q2.len]; exact hl, fun p hp => k _ _ _ _ M h (.lst upd_same ((q1.app q2).mono (s.sameF hp))) (s.sameF hp) (s.newF hp)⟩)
theorem OpD.add_tup {xs ys : List D} (h0 : xs ≠ []) (hl : xs.length + ys.length ≤ sizeLine) (h : Φ (.tup (xs ++ ys)) M) : OpD K (oAdd K) (.tup xs) (.tup ys) M Φ := fun F H Mf v u Q r1 r2 s k => by
  cases r1 with
  | tup e1 q1 => cases r2 with
    | tup e2 q2 =>
      refine .inr (.inr (.inl ⟨_, _, _, _, rfl, rfl, sqt_mono s.sub e1, sqt_mono s.sub e2, fun z => ?_, by rw [q1.len, q2.len]; exact hl, fun z => ?_, fun z p hp => k _ _ _ _ M h (.tup (.inl (.inl upd_same)) ((q1.app q2).mono (s.sameF hp))) (s.sameF hp) (s.newF hp)⟩))
      · subst z
        cases q1
        exact h0 rfl
      · subst z
        cases q2
        rw [List.append_nil] at h
        exact k _ _ F H M h (.tup e1 q1) (Same.refl _) s
theorem OpD.add_str {i j : Str} (hl : i.length + j.length ≤ sizeLine) (h : Φ (.str (i ++ j)) M) : OpD K (oAdd K) (.str i) (.str j) M Φ := fun F H Mf v u Q r1 r2 s k => by
  cases r1; cases r2
  exact .inr (.inr (.inr ⟨i, j, rfl, rfl, hl, k _ _ F H M h (.str _) (Same.refl _) s⟩))
theorem OpD.sub {i j : Int} (h : Φ (.int (i - j)) M) : OpD K oSub (.int i) (.int j) M Φ := fun F H Mf v u Q r1 r2 s k => by
  cases r1; cases r2
  exact ⟨i, j, rfl, rfl, k _ _ F H M h (.int _) (Same.refl _) s⟩
theorem OpD.mul {i j : Int} (hc : CMul i j ∨ CMulW i j) (h : Φ (.int (i * j)) M) : OpD K (oMul K) (.int i) (.int j) M Φ := fun F H Mf v u Q r1 r2 s k => by
  cases r1; cases r2
  rcases hc with hc | hc
  · exact .inl ⟨i, j, rfl, rfl, hc, k _ _ F H M h (.int _) (Same.refl _) s⟩
  · exact .inr (.inl ⟨i, j, rfl, rfl, hc, k _ _ F H M h (.int _) (Same.refl _) s⟩)
theorem OpD.rep {xs : List D} {n : Int} (h1 : -(2 ^ 63) ≤ n) (h2 : n < 2 ^ 63) (hl : xs.length * n.toNat ≤ sizeLine) (h : Φ (.lst (List.replicate n.toNat xs).flatten) M) : OpD K (oMul K) (.lst xs) (.int n) M Φ := fun F H Mf v u Q r1 r2 s k => by
  cases r2
  cases r1 with
  | lst e1 q1 => exact .inr (.inr (.inl ⟨_, n, _, rfl, rfl, s.sub _ _ e1, h1, h2, by rw [q1.len]; exact hl, fun p hp => k _ _ _ _ M h (.lst upd_same ((q1.rep _).mono (s.sameF hp))) (s.sameF hp) (s.newF hp)⟩))
theorem OpD.repT {xs : List D} {n : Int} (h0 : xs ≠ []) (h1 : 2 ≤ n) (h2 : n ≤ 1000) (hl : xs.length ≤ 1000) (h : Φ (.tup (List.replicate n.toNat xs).flatten) M) : OpD K (oMul K) (.tup xs) (.int n) M Φ := fun F H Mf v u Q r1 r2 s k => by
  cases r2
  cases r1 with
  | tup e1 q1 => exact .inr (.inr (.inr ⟨_, n, _, rfl, rfl, sqt_mono s.sub e1, fun z => by subst z; cases q1; exact h0 rfl, h1, h2, by rw [q1.len]; exact hl, fun p hp => k _ _ _ _ M h (.tup (.inl (.inl upd_same)) ((q1.rep _).mono (s.sameF hp))) (s.sameF hp) (s.newF hp)⟩))
theorem OpD.fdiv {i j : Int} (hc : CDivW i j) (h : Φ (.int (i / j)) M) : OpD K oFdiv (.int i) (.int j) M Φ := fun F H Mf v u Q r1 r2 s k => by
  cases r1; cases r2
  exact ⟨i, j, rfl, rfl, hc, k _ _ F H M h (.int _) (Same.refl _) s⟩
theorem OpD.mod {i j : Int} (hc : 0 < j) (h : Φ (.int (i % j)) M) : OpD K oMod (.int i) (.int j) M Φ := fun F H Mf v u Q r1 r2 s k => by
  cases r1; cases r2
  exact ⟨i, j, rfl, rfl, hc, k _ _ F H M h (.int _) (Same.refl _) s⟩
theorem OpD.pow {i j : Int} (hc : CPow i j) (h : Φ (.int (i ^ j.toNat)) M) : OpD K oPow (.int i) (.int j) M Φ := fun F H Mf v u Q r1 r2 s k => by
  cases r1; cases r2
  exact ⟨i, j, rfl, rfl, hc, k _ _ F H M h (.int _) (Same.refl _) s⟩
theorem OpD.iadd {i j : Int} (h : Φ (.int (i + j)) M) : OpD K oIAdd (.int i) (.int j) M Φ := fun F H Mf v u Q r1 r2 s k => by
  cases r1; cases r2
  exact ⟨i, j, rfl, rfl, k _ _ F H M h (.int _) (Same.refl _) s⟩
theorem OpD.isub {i j : Int} (h : Φ (.int (i - j)) M) : OpD K oISub (.int i) (.int j) M Φ := fun F H Mf v u Q r1 r2 s k => by
  cases r1; cases r2
  exact ⟨i, j, rfl, rfl, k _ _ F H M h (.int _) (Same.refl _) s⟩
theorem OpD.lt {i j : Int} (h : Φ (.bl (decide (i < j))) M) : OpD K oLt (.int i) (.int j) M Φ := fun F H Mf v u Q r1 r2 s k => by
  cases r1; cases r2
  exact ⟨i, j, rfl, rfl, k _ _ F H M h (.bl _) (Same.refl _) s⟩
theorem OpD.le {i j : Int} (h : Φ (.bl (decide (i ≤ j))) M) : OpD K oLe (.int i) (.int j) M Φ := fun F H Mf v u Q r1 r2 s k => by
  cases r1; cases r2
  exact ⟨i, j, rfl, rfl, k _ _ F H M h (.bl _) (Same.refl _) s⟩
theorem OpD.gt {i j : Int} (h : Φ (.bl (decide (j < i))) M) : OpD K oGt (.int i) (.int j) M Φ := fun F H Mf v u Q r1 r2 s k => by
  cases r1; cases r2
  exact ⟨i, j, rfl, rfl, k _ _ F H M h (.bl _) (Same.refl _) s⟩
theorem OpD.ge {i j : Int} (h : Φ (.bl (decide (j ≤ i))) M) : OpD K oGe (.int i) (.int j) M Φ := fun F H Mf v u Q r1 r2 s k => by
  cases r1; cases r2
  exact ⟨i, j, rfl, rfl, k _ _ F H M h (.bl _) (Same.refl _) s⟩
mutual
theorem dp_mono {F F' : Hp} (e : Same F F') : ∀ {v : V} {d : PyData}, Dp K F v d → Dp K F' v d
  | _, _, .non => .non
  | _, _, .bl b => .bl b
  | _, _, .int b => .int b
  | _, _, .str b => .str b
  | _, _, .lst h r => .lst (Same.seq e h) (dps_mono e r)
  | _, _, .tup h r => .tup (sqt_mono e h) (dps_mono e r)
theorem dps_mono {F F' : Hp} (e : Same F F') : ∀ {v : List V} {d : List PyData}, DpAll K F v d → DpAll K F' v d
  | _, _, .nil => .nil
  | _, _, .cons h r => .cons (dp_mono e h) (dps_mono e r)
end
/-- what may be compared, an own list too -/
inductive Cmp (M : Mem) : D → D → Prop
  | self {x : D} : Cmp M x x
  | own {p : Addr} {xs : List D} (h : (p, O.lst xs) ∈ M) : Cmp M (.ref p) (.lst xs)
theorem Cmp.dp {F H : Hp} {Mf : Mem} {v : V} {x y : D} (c : Cmp M x y) (hy : y.cm = true) (r : RD K F v x) (s : StC K F H (M ++ Mf)) : Dp K H v y.py := by
  have hp : y.pl = true := by
    have : y.pl = true ∧ y.dp 60 = true := by simpa [D.cm] using hy
    exact this.1
  cases c with
  | self => exact dp_mono s.sub (r.toDp hp)
  | own h =>
    cases r
    obtain ⟨vs, e, q⟩ := own_lst s h
    exact .lst (.inl (.inl e)) (dps_mono s.sub (q.toDp (by simpa [D.pl] using hp)))
theorem OpD.eq' {x y x' y' : D} (cx : Cmp M x x') (cy : Cmp M y y') (hx : x'.cm = true) (hy : y'.cm = true) (h : Φ (.bl (eqD x' y')) M) : OpD K (oEq K) x y M Φ := fun F H Mf v u Q r1 r2 s k =>
  ⟨x'.py, y'.py, cx.dp hx r1 s, cy.dp hy r2 s, D.cm_shaped hx, D.cm_shaped hy, k _ _ F H M h (.bl _) (Same.refl _) s⟩
theorem OpD.ne' {x y x' y' : D} (cx : Cmp M x x') (cy : Cmp M y y') (hx : x'.cm = true) (hy : y'.cm = true) (h : Φ (.bl (!eqD x' y')) M) : OpD K (oNe K) x y M Φ := fun F H Mf v u Q r1 r2 s k =>
  ⟨x'.py, y'.py, cx.dp hx r1 s, cy.dp hy r2 s, D.cm_shaped hx, D.cm_shaped hy, k _ _ F H M h (.bl _) (Same.refl _) s⟩
theorem OpD.eq {x y : D} (hx : x.cm = true) (hy : y.cm = true) (h : Φ (.bl (eqD x y)) M) : OpD K (oEq K) x y M Φ := .eq' .self .self hx hy h
theorem OpD.ne {x y : D} (hx : x.cm = true) (hy : y.cm = true) (h : Φ (.bl (!eqD x y)) M) : OpD K (oNe K) x y M Φ := .ne' .self .self hx hy h
theorem OpD.eq_int {i j : Int} (h : Φ (.bl (decide (i = j))) M) : OpD K (oEq K) (.int i) (.int j) M Φ := by
  refine .eq rfl rfl ?_
  have e : eqD (.int i) (.int j) = decide (i = j) := by simp [eqD, D.py, PyData.eqv, Bool.beq_eq_decide_eq]
  rw [e]
  exact h
theorem OpD.ne_int {i j : Int} (h : Φ (.bl (!decide (i = j))) M) : OpD K (oNe K) (.int i) (.int j) M Φ := by
  refine .ne rfl rfl ?_
  have e : eqD (.int i) (.int j) = decide (i = j) := by simp [eqD, D.py, PyData.eqv, Bool.beq_eq_decide_eq]
  rw [e]
  exact h
def D.isN : D → Bool
  | .non => true
  | _ => false
theorem RD.isN {F : Hp} {v : V} {x : D} (r : RD K F v x) : decide (v = .non) = x.isN := by
  cases r <;> simp [D.isN]
theorem OpD.is {x : D} (h : Φ (.bl x.isN) M) : OpD K oIs x .non M Φ := fun F H Mf v u Q r1 r2 s k => by
  cases r2
  refine ⟨rfl, ?_⟩
  rw [r1.isN]
  exact k _ _ F H M h (.bl _) (Same.refl _) s
theorem OpD.isnot {x : D} (h : Φ (.bl (!x.isN)) M) : OpD K oIsNot x .non M Φ := fun F H Mf v u Q r1 r2 s k => by
  cases r2
  refine ⟨rfl, ?_⟩
  rw [r1.isN]
  exact k _ _ F H M h (.bl _) (Same.refl _) s
theorem UnD.neg {i : Int} (h : Φ (.int (-i)) M) : UnD K uNeg (.int i) M Φ := fun F H Mf v Q r s k => by
  cases r
  exact ⟨i, rfl, k _ _ F H M h (.int _) (Same.refl _) s⟩
theorem atI_of {α : Type} {xs : List α} {i : Int} {j : Nat} {y : α} (e : ixN xs.length i = some j) (h : xs[j]? = some y) : atI xs i = some y := by
  unfold atI
  rw [e]
  exact h
/-- x[i]: the place j -/
theorem OpD.ix {x y : D} {xs : List D} {i : Int} (j : Nat) (q : Seq M x xs) (hj : ixN xs.length i = some j) (hy : xs[j]? = some y) (h : Φ y M) : OpD K (oIx K) x (.int i) M Φ := fun F H Mf v u Q r1 r2 s k => by
  cases r2
  obtain ⟨a, vs, rfl, hq, rs⟩ := q.vv r1 s
  obtain ⟨w, hw, rw'⟩ := rs.get hy
  have ha : atI vs i = some w := atI_of (by rw [rs.len]; exact hj) hw
  rcases hq with hq | hq
  · exact .inl ⟨a, vs, i, w, rfl, rfl, hq, ha, k _ _ F H M h rw' (Same.refl _) s⟩
  · exact .inr (.inl ⟨a, vs, i, w, rfl, rfl, hq, ha, k _ _ F H M h rw' (Same.refl _) s⟩)
theorem ixN_nat {n : Nat} {i : Int} (h0 : 0 ≤ i) (h : i < n) : ixN n i = some i.toNat := by
  unfold ixN
  rw [if_pos h0, if_pos h]
theorem OpD.ixN {x y : D} {xs : List D} {i : Int} (q : Seq M x xs) (h0 : 0 ≤ i) (hy : xs[i.toNat]? = some y) (h : Φ y M) : OpD K (oIx K) x (.int i) M Φ :=
  .ix i.toNat q (ixN_nat h0 (by have := (List.getElem?_eq_some_iff.mp hy).1; omega)) hy h
theorem CbD.len {x : D} {xs : List D} (q : Seq M x xs) (h : Φ (.int xs.length) M) : CbD K (cLen K) [x] M Φ := fun F H Mf vs Q r s k => by
  cases r with
  | cons r rr =>
    cases rr
    obtain ⟨a, ws, rfl, hq, rs⟩ := q.vv r s
    refine ⟨_, _, rfl, ?_, k _ _ F H M h (.int _) (Same.refl _) s⟩
    rcases hq with hq | hq
    · exact .inl ⟨ws, hq, rs.len.symm⟩
    · exact .inr ⟨ws, hq, rs.len.symm⟩
theorem CbD.lenS {x : Str} (hl : x.length ≤ sizeLine) (h : Φ (.int x.length) M) : CbD K (cLen K) [.str x] M Φ := fun F H Mf vs Q r s k => by
  cases r with
  | cons r rr =>
    cases rr
    cases r
    exact ⟨_, _, rfl, ⟨hl, rfl⟩, k _ _ F H M h (.int _) (Same.refl _) s⟩
theorem CbD.abs {i : Int} (h : Φ (.int (if i < 0 then -i else i)) M) : CbD K cAbs [.int i] M Φ := fun F H Mf vs Q r s k => by
  cases r with
  | cons r rr =>
    cases rr
    cases r
    exact ⟨_, rfl, k _ _ F H M h (.int _) (Same.refl _) s⟩
theorem CbD.max2 {i j : Int} (h : Φ (.int (if j > i then j else i)) M) : CbD K (cMax K) [.int i, .int j] M Φ := fun F H Mf vs Q r s k => by
  cases r with
  | cons r rr => cases rr with
    | cons r2 rr =>
      cases rr
      cases r
      cases r2
      exact .inl ⟨_, _, rfl, k _ _ F H M h (.int _) (Same.refl _) s⟩
theorem CbD.min2 {i j : Int} (h : Φ (.int (if j < i then j else i)) M) : CbD K (cMin K) [.int i, .int j] M Φ := fun F H Mf vs Q r s k => by
  cases r with
  | cons r rr => cases rr with
    | cons r2 rr =>
      cases rr
      cases r
      cases r2
      exact .inl ⟨_, _, rfl, k _ _ F H M h (.int _) (Same.refl _) s⟩
theorem seq_ints {F H : Hp} {Mf : Mem} {v : V} {ns : List Int} (r : RD K F v (.lst (ns.map D.int))) (s : StC K F H (M ++ Mf)) : ∃ a, v = .ref a ∧ SqL K H a (ns.map V.int) := by
  cases r with
  | lst e rs =>
    rw [RDs.ofInts rs] at e
    exact ⟨_, rfl, .inl (.inl (s.sub _ _ e))⟩
theorem CbD.maxL {ns : List Int} (h0 : 0 < ns.length) (h : ∀ m, m ∈ ns → (∀ y, y ∈ ns → y ≤ m) → Φ (.int m) M) : CbD K (cMax K) [.lst (ns.map D.int)] M Φ := fun F H Mf vs Q r s k => by
  cases r with
  | cons r rr =>
    cases rr
    obtain ⟨a, rfl, hq⟩ := seq_ints r s
    exact .inr ⟨a, ns, rfl, hq, h0, fun m h1 h2 => k _ _ F H M (h m h1 h2) (.int _) (Same.refl _) s⟩
theorem CbD.minL {ns : List Int} (h0 : 0 < ns.length) (h : ∀ m, m ∈ ns → (∀ y, y ∈ ns → m ≤ y) → Φ (.int m) M) : CbD K (cMin K) [.lst (ns.map D.int)] M Φ := fun F H Mf vs Q r s k => by
  cases r with
  | cons r rr =>
    cases rr
    obtain ⟨a, rfl, hq⟩ := seq_ints r s
    exact .inr ⟨a, ns, rfl, hq, h0, fun m h1 h2 => k _ _ F H M (h m h1 h2) (.int _) (Same.refl _) s⟩
theorem CbD.sum {ns : List Int} (h : Φ (.int ns.sum) M) : CbD K (cSum K) [.lst (ns.map D.int)] M Φ := fun F H Mf vs Q r s k => by
  cases r with
  | cons r rr =>
    cases rr
    obtain ⟨a, rfl, hq⟩ := seq_ints r s
    exact ⟨a, ns, rfl, hq, k _ _ F H M h (.int _) (Same.refl _) s⟩
theorem CbD.any {bs : List Bool} (h : Φ (.bl (bs.any id)) M) : CbD K (cAny K) [.lst (bs.map D.bl)] M Φ := fun F H Mf vs Q r s k => by
  cases r with
  | cons r rr =>
    cases rr
    cases r with
    | lst e rs =>
      rw [RDs.ofBls rs] at e
      exact ⟨_, bs, rfl, .inl (.inl (s.sub _ _ e)), k _ _ F H M h (.bl _) (Same.refl _) s⟩
theorem CbD.all {bs : List Bool} (h : Φ (.bl (bs.all id)) M) : CbD K (cAll K) [.lst (bs.map D.bl)] M Φ := fun F H Mf vs Q r s k => by
  cases r with
  | cons r rr =>
    cases rr
    cases r with
    | lst e rs =>
      rw [RDs.ofBls rs] at e
      exact ⟨_, bs, rfl, .inl (.inl (s.sub _ _ e)), k _ _ F H M h (.bl _) (Same.refl _) s⟩
theorem CbD.sorted {ns : List Int} (h0 : ns.length < 64) (h : ∀ ns' : List Int, ns'.Perm ns → ns'.Pairwise (· ≤ ·) → Φ (.lst (ns'.map D.int)) M) : CbD K (cSorted K) [.lst (ns.map D.int)] M Φ := fun F H Mf vs Q r s k => by
  cases r with
  | cons r rr =>
    cases rr
    obtain ⟨a, rfl, hq⟩ := seq_ints r s
    exact ⟨a, ns, rfl, hq, h0, fun ns' p h1 h2 hp => k _ _ _ _ M (h ns' h1 h2) (.lst upd_same RDs.ints) (s.sameF hp) (s.newF hp)⟩
theorem CbD.list {x : D} {xs : List D} (q : Seq M x xs) (h : Φ (.lst xs) M) : CbD K (cList K) [x] M Φ := fun F H Mf vs Q r s k => by
  cases r with
  | cons r rr =>
    cases rr
    obtain ⟨a, ws, rfl, hq, rs⟩ := q.vv r s
    exact ⟨a, ws, rfl, hq, fun p hp => k _ _ _ _ M h (.lst upd_same (rs.mono (s.sameF hp))) (s.sameF hp) (s.newF hp)⟩
theorem CbD.listO {x : D} {xs : List D} (q : Seq M x xs) (h : AllA fun p => Φ (.ref p) ((p, .lst xs) :: M)) : CbD K (cListO K) [x] M Φ := fun F H Mf vs Q r s k => by
  cases r with
  | cons r rr =>
    cases rr
    obtain ⟨a, ws, rfl, hq, rs⟩ := q.vv r s
    exact ⟨a, ws, rfl, hq, fun p hp => k _ _ _ _ _ (h p) (.ref p) (Same.refl _) (s.newO hp rs)⟩
theorem CbD.tuple {x : D} {xs : List D} (q : Seq M x xs) (h : Φ (.tup xs) M) : CbD K (cTuple K) [x] M Φ := fun F H Mf vs Q r s k => by
  cases r with
  | cons r rr =>
    cases rr
    cases q with
    | tup =>
      cases r with
      | tup e rs => exact ⟨_, _, rfl, .inr ⟨sqt_mono s.sub e, k _ _ F H M h (.tup e rs) (Same.refl _) s⟩⟩
    | lst =>
      cases r with
      | lst e rs => exact ⟨_, _, rfl, .inl ⟨.inl (.inl (s.sub _ _ e)), fun p hp => k _ _ _ _ M h (.tup (.inl (.inl upd_same)) (rs.mono (s.sameF hp))) (s.sameF hp) (s.newF hp)⟩⟩
    | ownX hm =>
      cases r
      obtain ⟨ws, e, rs⟩ := own_lstX s hm
      exact ⟨_, _, rfl, .inl ⟨.inl (.inl e), fun p hp => k _ _ _ _ M h (.tup (.inl (.inl upd_same)) (rs.mono (s.sameF hp))) (s.sameF hp) (s.newF hp)⟩⟩
    | scr ns =>
      cases r with
      | scr hm =>
      exact ⟨_, _, rfl, .inl ⟨Same.seq s.sub hm, fun p hp => k _ _ _ _ M h (.tup (.inl (.inl upd_same)) RDs.ints) (s.sameF hp) (s.newF hp)⟩⟩
theorem CbD.int {i : Int} (h : Φ (.int i) M) : CbD K cInt [.int i] M Φ := fun F H Mf vs Q r s k => by
  cases r with
  | cons r rr =>
    cases rr
    cases r
    exact .inl ⟨_, rfl, k _ _ F H M h (.int _) (Same.refl _) s⟩
theorem CbD.intB {b : Bool} (h : Φ (.int (if b then 1 else 0)) M) : CbD K cInt [.bl b] M Φ := fun F H Mf vs Q r s k => by
  cases r with
  | cons r rr =>
    cases rr
    cases r
    exact .inr ⟨_, rfl, k _ _ F H M h (.int _) (Same.refl _) s⟩
end
end L3

namespace L3
open PySem PySem.Spec L2

/-! ### what a loop goes through -/
structure Src where
  its : List D
  need : Mem → Prop
def JR (K : PySem.W.Frag) (F : Hp) (s : Src) (J : It) : Prop := ∀ F' H M Mf, Same F F' → StC K F' H (M ++ Mf) → s.need M →
  (∀ i, i < s.its.length → J.go i H) ∧ (∀ i, s.its.length ≤ i → J.stop i H) ∧ ∀ i x v H', s.its[i]? = some x → J.yld i H v H' → ∃ F'', Same F' F'' ∧ StC K F'' H' (M ++ Mf) ∧ RD K F'' v x
def WI (K : PySem.W.Frag) (E : WX) (wi : TI) (ρ : Env3) (M : Mem) (Θ : Src → Mem → Prop) (Ψ : PX) : Prop :=
  ∀ σ F H Mf R, EnvR K F σ ρ → StC K F H (M ++ Mf) → EK K F Mf Ψ E → (∀ s F' H' M' J, Θ s M' → Same F F' → StC K F' H' (M' ++ Mf) → JR K F' s J → R J H') → wi σ H R
section
variable {K : PySem.W.Frag} {E : WX} {Ψ : PX} {ρ : Env3} {M : Mem} {Φ : D → Mem → Prop}
theorem jr_list {F : Hp} {a : Addr} {xs : List D} {need : Mem → Prop} (h : ∀ F' H M Mf, Same F F' → StC K F' H (M ++ Mf) → need M → ∃ vs, SqL K H a vs ∧ RDs K F' vs xs) : JR K F ⟨xs, need⟩ (Itl K a) := fun F' H M Mf e s n => by
  obtain ⟨vs, hq, rs⟩ := h F' H M Mf e s n
  refine ⟨fun i hi => ?_, fun i hi => ⟨vs, hq, by rw [rs.len]; exact hi⟩, fun i x v H' hx y => ?_⟩
  · have hi : i < vs.length := by rw [rs.len]; exact hi
    exact ⟨vs, vs[i], hq, List.getElem?_eq_getElem hi⟩
  · obtain ⟨rfl, y⟩ := y
    obtain ⟨u, hu, ru⟩ := rs.get hx
    rw [y vs hq] at hu
    cases hu
    exact ⟨F', Same.refl _, s, ru⟩
theorem jr_tup {F : Hp} {a : Addr} {xs : List D} {need : Mem → Prop} (h : ∀ F' H M Mf, Same F F' → StC K F' H (M ++ Mf) → need M → ∃ vs, SqT K H a vs ∧ RDs K F' vs xs) : JR K F ⟨xs, need⟩ (Itt K a) := fun F' H M Mf e s n => by
  obtain ⟨vs, hq, rs⟩ := h F' H M Mf e s n
  refine ⟨fun i hi => ?_, fun i hi => ⟨vs, hq, by rw [rs.len]; exact hi⟩, fun i x v H' hx y => ?_⟩
  · have hi : i < vs.length := by rw [rs.len]; exact hi
    exact ⟨vs, vs[i], hq, List.getElem?_eq_getElem hi⟩
  · obtain ⟨rfl, y⟩ := y
    obtain ⟨u, hu, ru⟩ := rs.get hx
    rw [y vs hq] at hu
    cases hu
    exact ⟨F', Same.refl _, s, ru⟩
/-- it is a list, or a tuple -/
def isL (x : D) : Bool := match x with
  | .tup _ => false
  | _ => true
theorem Seq.vL {F H : Hp} {Mf : Mem} {v : V} {x : D} {xs : List D} (q : Seq M x xs) (hl : isL x = true) (r : RD K F v x) (s : StC K F H (M ++ Mf)) : ∃ a vs, v = .ref a ∧ SqL K H a vs ∧ RDs K F vs xs := by
  cases q with
  | lst =>
    cases r with
    | lst h rs => exact ⟨_, _, rfl, .inl (.inl (s.sub _ _ h)), rs⟩
  | tup => exact absurd hl Bool.false_ne_true
  | ownX h =>
    cases r
    obtain ⟨vs, e, r⟩ := own_lstX s h
    exact ⟨_, vs, rfl, .inl (.inl e), r⟩
  | scr ns =>
    cases r with
    | scr h => exact ⟨_, _, rfl, Same.seq s.sub h, RDs.ints⟩
def iSeq (K : PySem.W.Frag) (tl : TE) : TI := fun σ H R => tl σ H fun x H1 => ∃ a, x = .ref a ∧ (((∃ xs, SqL K H1 a xs) ∧ R (Itl K a) H1) ∨ ((∃ xs, SqT K H1 a xs) ∧ R (Itt K a) H1))
theorem q_seq (K : PySem.W.Frag) {X : Cx} {tg l : Expr} {tl : TE} (hl : PE X l tl) (e : X.K = K := by rfl) : PI X tg l (iSeq K tl) := by
  subst e
  refine ⟨fun pins s σ H R I h => ?_⟩
  refine thn (hl.run pins s σ H _ I h) fun v s1 ⟨x, H1, I1, r1, q1⟩ => ?_
  obtain ⟨a, e, q1⟩ := q1
  subst e
  cases r1
  rcases q1 with ⟨⟨xs, hq⟩, q⟩ | ⟨⟨xs, hq⟩, q⟩
  · obtain ⟨its, rv, p, hz⟩ := I1.list hq
    refine wpAny_pyIter_list p.isList ?_
    refine ⟨s1.heap.objs.size, [s1.heap.objs.size], _, _, H1, rfl, I1.kept (t' := s1.toks) fun b o e => Heap.get?_push_of_some _ e, turn_list a _, ⟨_, Heap.get?_push_size _ rfl, rfl, rfl⟩, fun b hb => ?_, q⟩
    have e : b = s1.heap.objs.size := by simpa using hb
    subst e
    exact I1.fpOk (Nat.le_refl _) (I1.hok.fresh (Nat.le_refl _))
  · obtain ⟨its, rv, p, hz⟩ := I1.tuple hq
    refine PySem.wpAny_pyIter_tuple (show s1.heap.IsTuple a its.toArray from p) ?_
    refine ⟨s1.heap.objs.size, [s1.heap.objs.size], _, _, H1, rfl, I1.kept (t' := s1.toks) fun b o e => Heap.get?_push_of_some _ e, turn_tuple a _, ⟨_, Heap.get?_push_size _ rfl, rfl, rfl⟩, fun b hb => ?_, q⟩
    have e : b = s1.heap.objs.size := by simpa using hb
    subst e
    exact I1.fpOk (Nat.le_refl _) (I1.hok.fresh (Nat.le_refl _))
theorem WI.seq {tl : TE} {Θ : Src → Mem → Prop} (h : W K E tl ρ M (fun x M1 => ∃ xs, Seq M1 x xs ∧ Θ ⟨xs, fun M => Seq M x xs⟩ M1) Ψ) : WI K E (iSeq K tl) ρ M Θ Ψ := fun σ F H Mf R e s k q =>
  h σ F H Mf _ e s k fun v x F1 H1 M1 ⟨xs, hq, h1⟩ r1 s1 c1 => by
    cases hb : isL x with
    | true =>
      obtain ⟨a, vs, rfl, hl, rs⟩ := hq.vL hb r1 c1
      refine ⟨a, rfl, .inl ⟨⟨vs, hl⟩, q _ F1 H1 M1 _ h1 s1 c1 (jr_list fun F' H' M' Mf' e' s' n => ?_)⟩⟩
      obtain ⟨a', vs', e1, hl', rs'⟩ := Seq.vL n hb (r1.mono e') s'
      cases e1
      exact ⟨vs', hl', rs'⟩
    | false =>
      cases x with
      | tup ds =>
        cases hq
        cases r1 with
        | tup ht rs => exact ⟨_, rfl, .inr ⟨⟨_, sqt_mono c1.sub ht⟩, q _ F1 H1 M1 _ h1 s1 c1 (jr_tup fun F' H' M' Mf' e' s' n => ⟨_, sqt_mono (e'.trans s'.sub) ht, rs.mono e'⟩)⟩⟩
      | _ => exact absurd hb (by intro z; exact Bool.noConfusion z)
theorem jr_range {F : Hp} {lo : Int} {n : Nat} : JR K F ⟨(List.range n).map (fun (k : Nat) => D.int (lo + (k : Int))), fun _ => True⟩ (Itr lo n) := fun F' H M Mf e s _ => by
  refine ⟨fun i hi => (by simpa using hi : i < n), fun i hi => (by simpa using hi : n ≤ i), fun i x v H' hx y => ?_⟩
  obtain ⟨rfl, rfl⟩ := y
  simp only [List.getElem?_map, Option.map_eq_some_iff] at hx
  obtain ⟨j, hj, rfl⟩ := hx
  rw [List.getElem?_eq_some_iff] at hj
  obtain ⟨h1, h2⟩ := hj
  rw [List.getElem_range] at h2
  subst h2
  exact ⟨F', Same.refl _, s, .int _⟩
/-- lo, lo + 1, .. -/
def ran (lo : Int) (n : Nat) : Src := ⟨(List.range n).map (fun (k : Nat) => D.int (lo + (k : Int))), fun _ => True⟩
theorem ran_len {lo : Int} {n : Nat} : (ran lo n).its.length = n := by simp [ran]
theorem ran_get {lo : Int} {n i : Nat} {x : D} (h : (ran lo n).its[i]? = some x) : i < n ∧ x = .int (lo + (i : Int)) := by
  have hi : i < (ran lo n).its.length := (List.getElem?_eq_some_iff.mp h).1
  rw [ran_len] at hi
  refine ⟨hi, ?_⟩
  simp only [ran, List.getElem?_map, Option.map_eq_some_iff] at h
  obtain ⟨j, hj, rfl⟩ := h
  rw [List.getElem?_range hi] at hj
  cases hj
  rfl
theorem WI.rng1 {ta : TA} {Θ : Src → Mem → Prop} (h : WA K E ta ρ M (fun xs M1 => ∃ j : Int, xs = [.int j] ∧ -(2 ^ 62) ≤ j ∧ j < 2 ^ 62 ∧ Θ (ran 0 j.toNat) M1) Ψ) : WI K E (iRng1 ta) ρ M Θ Ψ := fun σ F H Mf R e s k q =>
  h σ F H Mf _ e s k fun vs xs F1 H1 M1 ⟨j, ej, h1, h2, h3⟩ r1 s1 c1 => by
    subst ej
    cases r1 with
    | cons r rr =>
      cases rr
      cases r
      exact ⟨j, rfl, h1, h2, q _ F1 H1 M1 _ h3 s1 c1 jr_range⟩
theorem WI.rng2 {ta : TA} {Θ : Src → Mem → Prop} (h : WA K E ta ρ M (fun xs M1 => ∃ i j : Int, xs = [.int i, .int j] ∧ (-(2 ^ 62) ≤ i ∧ i < 2 ^ 62 ∧ -(2 ^ 62) ≤ j ∧ j < 2 ^ 62) ∧ Θ (ran i (j - i).toNat) M1) Ψ) : WI K E (iRng2 ta) ρ M Θ Ψ := fun σ F H Mf R e s k q =>
  h σ F H Mf _ e s k fun vs xs F1 H1 M1 ⟨i, j, ej, h1, h3⟩ r1 s1 c1 => by
    subst ej
    cases r1 with
    | cons r rr =>
      cases rr with
      | cons r2 rr =>
        cases rr
        cases r
        cases r2
        exact ⟨i, j, rfl, h1, q _ F1 H1 M1 _ h3 s1 c1 jr_range⟩
/-- enumerate of a list -/
def enumD (xs : List D) : List D := (List.range xs.length).map fun (i : Nat) => .tup [.int (i : Int), xs.getD i .non]
theorem enumD_get {xs : List D} {i : Nat} {y : D} (h : (enumD xs)[i]? = some y) : ∃ x, xs[i]? = some x ∧ y = .tup [.int (i : Int), x] := by
  have hi : i < xs.length := by
    have := (List.getElem?_eq_some_iff.mp h).1
    simpa [enumD] using this
  simp only [enumD, List.getElem?_map, List.getElem?_range hi, Option.map_some, Option.some.injEq] at h
  refine ⟨xs[i], List.getElem?_eq_getElem hi, ?_⟩
  rw [← h, List.getD_eq_getElem?_getD, List.getElem?_eq_getElem hi]
  rfl
theorem enumD_len {xs : List D} : (enumD xs).length = xs.length := by simp [enumD]
theorem WI.enumL {ta : TA} {Θ : Src → Mem → Prop} (h : WA K E ta ρ M (fun ys M1 => ∃ x xs, ys = [x] ∧ Seq M1 x xs ∧ isL x = true ∧ Θ ⟨enumD xs, fun M => Seq M x xs⟩ M1) Ψ) : WI K E (iEnum K ta) ρ M Θ Ψ := fun σ F H Mf R e s k q =>
  h σ F H Mf _ e s k fun vs ys F1 H1 M1 ⟨x, xs, ey, hq, hb, h1⟩ r1 s1 c1 => by
    subst ey
    cases r1 with
    | cons r rr =>
      cases rr
      obtain ⟨a, vs, rfl, hl, rs⟩ := hq.vL hb r c1
      refine ⟨a, vs, rfl, hl, q _ F1 H1 M1 _ h1 s1 c1 fun F' H' M' Mf' e' s' n => ?_⟩
      obtain ⟨a', vs', e1, hl', rs'⟩ := Seq.vL n hb (r.mono e') s'
      cases e1
      refine ⟨fun i hi => ?_, fun i hi => ⟨vs', hl', by rw [rs'.len]; rw [enumD_len] at hi; exact hi⟩, fun i y v H'' hy yl => ?_⟩
      · have hi : i < vs'.length := by rw [rs'.len]; rw [enumD_len] at hi; exact hi
        exact ⟨vs', vs'[i], hl', List.getElem?_eq_getElem hi⟩
      · obtain ⟨T, z, rfl, hT, rfl, hz⟩ := yl
        obtain ⟨x2, hx2, rfl⟩ := enumD_get hy
        obtain ⟨u, hu, ru⟩ := rs'.get hx2
        rw [hz vs' hl'] at hu
        cases hu
        exact ⟨_, s'.sameF hT, s'.newF hT, .tup (.inl (.inl upd_same)) (.cons (.int _) (.cons (ru.mono (s'.sameF hT)) .nil))⟩
/-- zip of two lists, of two tuples -/
def zipD (xs ys : List D) : List D := (List.range (min xs.length ys.length)).map fun i => .tup [xs.getD i .non, ys.getD i .non]
theorem zipD_get {xs ys : List D} {i : Nat} {z : D} (h : (zipD xs ys)[i]? = some z) : ∃ x y, xs[i]? = some x ∧ ys[i]? = some y ∧ z = .tup [x, y] := by
  have hi : i < min xs.length ys.length := by
    have := (List.getElem?_eq_some_iff.mp h).1
    simpa [zipD] using this
  simp only [zipD, List.getElem?_map, List.getElem?_range hi, Option.map_some, Option.some.injEq] at h
  have h1 : i < xs.length := by omega
  have h2 : i < ys.length := by omega
  refine ⟨xs[i], ys[i], List.getElem?_eq_getElem h1, List.getElem?_eq_getElem h2, ?_⟩
  rw [← h, List.getD_eq_getElem?_getD, List.getElem?_eq_getElem h1, List.getD_eq_getElem?_getD, List.getElem?_eq_getElem h2]
  rfl
theorem zipD_len {xs ys : List D} : (zipD xs ys).length = min xs.length ys.length := by simp [zipD]
theorem WI.zipA {ta : TA} {Θ : Src → Mem → Prop} (h : WA K E ta ρ M (fun zs M1 => ∃ x y xs ys, zs = [x, y] ∧ Seq M1 x xs ∧ Seq M1 y ys ∧ isL x = isL y ∧ Θ ⟨zipD xs ys, fun M => Seq M x xs ∧ Seq M y ys⟩ M1) Ψ) : WI K E (RZ.iZipA K ta) ρ M Θ Ψ := fun σ F H Mf R e s k q =>
  h σ F H Mf _ e s k fun vs zs F1 H1 M1 ⟨x, y, xs, ys, ey, hx, hy, hb, h1⟩ r1 s1 c1 => by
    subst ey
    cases r1 with
    | cons r rr =>
      cases rr with
      | cons r2 rr =>
        cases rr
        cases hbx : isL x with
        | true =>
          have hby : isL y = true := hb.symm.trans hbx
          obtain ⟨a, vs, rfl, hl, rs⟩ := hx.vL hbx r c1
          obtain ⟨b, ws, rfl, hl2, rs2⟩ := hy.vL hby r2 c1
          refine ⟨a, b, vs, ws, rfl, .inl ⟨hl, hl2, q _ F1 H1 M1 _ h1 s1 c1 fun F' H' M' Mf' e' s' n => ?_⟩⟩
          obtain ⟨a', vs', e1, hl', rs'⟩ := Seq.vL n.1 hbx (r.mono e') s'
          cases e1
          obtain ⟨b', ws', e1, hl2', rs2'⟩ := Seq.vL n.2 hby (r2.mono e') s'
          cases e1
          refine ⟨fun i hi => ?_, fun i hi => ⟨vs', ws', hl', hl2', ?_⟩, fun i z v H'' hz yl => ?_⟩
          · rw [zipD_len] at hi
            have h1 : i < vs'.length := by rw [rs'.len]; omega
            have h2 : i < ws'.length := by rw [rs2'.len]; omega
            exact ⟨vs', ws', vs'[i], ws'[i], hl', hl2', List.getElem?_eq_getElem h1, List.getElem?_eq_getElem h2⟩
          · rw [zipD_len] at hi
            rw [rs'.len, rs2'.len]
            omega
          · obtain ⟨T, z1, z2, rfl, hT, rfl, hz1, hz2⟩ := yl
            obtain ⟨x2, y2, hx2, hy2, rfl⟩ := zipD_get hz
            obtain ⟨u, hu, ru⟩ := rs'.get hx2
            rw [hz1 vs' hl'] at hu
            cases hu
            obtain ⟨u, hu, ru2⟩ := rs2'.get hy2
            rw [hz2 ws' hl2'] at hu
            cases hu
            exact ⟨_, s'.sameF hT, s'.newF hT, .tup (.inl (.inl upd_same)) (.cons (ru.mono (s'.sameF hT)) (.cons (ru2.mono (s'.sameF hT)) .nil))⟩
        | false =>
          have hby : isL y = false := hb.symm.trans hbx
          cases x with
          | tup dx =>
            cases y with
            | tup dy =>
              cases hx
              cases hy
              cases r with
              | tup ht rs =>
                cases r2 with
                | tup ht2 rs2 =>
                  refine ⟨_, _, _, _, rfl, .inr ⟨sqt_mono c1.sub ht, sqt_mono c1.sub ht2, q _ F1 H1 M1 _ h1 s1 c1 fun F' H' M' Mf' e' s' n => ?_⟩⟩
                  have hl' := sqt_mono (e'.trans s'.sub) ht
                  have hl2' := sqt_mono (e'.trans s'.sub) ht2
                  refine ⟨fun i hi => ?_, fun i hi => ⟨_, _, hl', hl2', ?_⟩, fun i z v H'' hz yl => ?_⟩
                  · rw [zipD_len] at hi
                    have h1 := rs.len
                    have h2 := rs2.len
                    exact ⟨_, _, _, _, hl', hl2', List.getElem?_eq_getElem (by omega), List.getElem?_eq_getElem (by omega)⟩
                  · rw [zipD_len] at hi
                    rw [rs.len, rs2.len]
                    omega
                  · obtain ⟨T, z1, z2, rfl, hT, rfl, hz1, hz2⟩ := yl
                    obtain ⟨x2, y2, hx2, hy2, rfl⟩ := zipD_get hz
                    obtain ⟨u, hu, ru⟩ := rs.get hx2
                    rw [hz1 _ hl'] at hu
                    cases hu
                    obtain ⟨u, hu, ru2⟩ := rs2.get hy2
                    rw [hz2 _ hl2'] at hu
                    cases hu
                    exact ⟨_, s'.sameF hT, s'.newF hT, .tup (.inl (.inl upd_same)) (.cons (ru.mono (e'.trans (s'.sameF hT))) (.cons (ru2.mono (e'.trans (s'.sameF hT))) .nil))⟩
            | _ => exact absurd hby (by intro z; exact Bool.noConfusion z)
          | _ => exact absurd hbx (by intro z; exact Bool.noConfusion z)

/-! ### for, while -/
variable {d : DD}
theorem WS.for_ {wi : TI} {g : TG} {tb : TS} (h : WI K E wi ρ M (fun s M1 => ∃ I : Nat → Env3 → Mem → Prop, I 0 ρ M1 ∧ (∀ i ρ' M', i ≤ s.its.length → I i ρ' M' → s.need M') ∧
    (∀ i x ρ' M', s.its[i]? = some x → I i ρ' M' → WG K E g x ρ' M' (fun ρ2 M2 => WS K E tb ρ2 M2 ⟨I (i + 1), d.rt, d.nx, I (i + 1)⟩ Ψ) Ψ) ∧ ∀ ρ' M', I s.its.length ρ' M' → d.nx ρ' M') Ψ) : WS K E (tFor wi g tb) ρ M d Ψ := fun σ F H Mf e a s k q =>
  h σ F H Mf _ a s k fun src F1 H1 M1 J ⟨I, h0, hn, ht, he⟩ s1 c1 jr => by
    refine ⟨fun i m σ' H' => ∃ ρ' F' M', i ≤ src.its.length ∧ m = src.its.length - i ∧ I i ρ' M' ∧ EnvR K F' σ' ρ' ∧ Same F1 F' ∧ StC K F' H' (M' ++ Mf), ⟨_, ρ, F1, M1, Nat.zero_le _, rfl, h0, a.mono s1, Same.refl _, c1⟩, ?_⟩
    rintro i m σ' H' ⟨ρ', F', M', hi, rfl, hI, a', s', c'⟩
    obtain ⟨jg, js, jy⟩ := jr F' H' M' Mf s' c' (hn i ρ' M' hi hI)
    by_cases hlt : i < src.its.length
    · refine .inr ⟨jg i hlt, fun σ2 H2 => ∃ ρ2 F2 M2, I (i + 1) ρ2 M2 ∧ EnvR K F2 σ2 ρ2 ∧ Same F1 F2 ∧ StC K F2 H2 (M2 ++ Mf), fun σ2 H2 ⟨ρ2, F2, M2, h1, h2, h3, h4⟩ => ⟨src.its.length - (i + 1), by omega, ρ2, F2, M2, hlt, rfl, h1, h2, h3, h4⟩, fun v H2 y => ?_⟩
      have hx : src.its[i]? = some src.its[i] := List.getElem?_eq_getElem hlt
      obtain ⟨F2, e2, c2, r2⟩ := jy i _ v H2 hx y
      have eK2 := (k.mono s1).mono (s'.trans e2)
      refine ht i _ ρ' M' hx hI σ' F2 H2 Mf v _ r2 (a'.mono e2) c2 eK2 fun σ3 ρ3 F3 H3 M3 h3 a3 s3 c3 => ?_
      have s13 : Same F1 F3 := (s'.trans e2).trans s3
      refine h3 σ3 F3 H3 Mf _ a3 c3 (eK2.mono s3) ⟨fun σ4 ρ4 F4 H4 M4 p a4 s4 c4 => ⟨ρ4, F4, M4, p, a4, s13.trans s4, c4⟩, fun v4 x4 F4 H4 M4 p r4 s4 c4 => q.rt v4 x4 F4 H4 M4 p r4 ((s1.trans s13).trans s4) c4,
        fun σ4 ρ4 F4 H4 M4 p a4 s4 c4 => q.nx σ4 ρ4 F4 H4 M4 p a4 ((s1.trans s13).trans s4) c4, fun σ4 ρ4 F4 H4 M4 p a4 s4 c4 => ⟨ρ4, F4, M4, p, a4, s13.trans s4, c4⟩⟩
    · have e0 : i = src.its.length := by omega
      subst e0
      exact .inl ⟨js _ (Nat.le_refl _), q.nx σ' ρ' F' H' M' (he ρ' M' hI) a' (s1.trans s') c'⟩
theorem WS.while_ {c : TT} {tb : TS} (I : Nat → Env3 → Mem → Prop) (m0 : Nat) (h0 : I m0 ρ M) (hs : ∀ m ρ' M', I m ρ' M' → WT K E c ρ' M' (fun b M1 => (b = true → WS K E tb ρ' M1 ⟨fun ρ2 M2 => ∃ m', m' < m ∧ I m' ρ2 M2, d.rt, d.nx, fun ρ2 M2 => ∃ m', m' < m ∧ I m' ρ2 M2⟩ Ψ) ∧ (b = false → d.nx ρ' M1)) Ψ) :
    WS K E (tWhile c tb) ρ M d Ψ := fun σ F H Mf e a s k q => by
  refine ⟨fun m σ' H' => ∃ ρ' F' M', I m ρ' M' ∧ EnvR K F' σ' ρ' ∧ Same F F' ∧ StC K F' H' (M' ++ Mf), ⟨m0, ρ, F, M, h0, a, Same.refl _, s⟩, ?_⟩
  rintro m σ' H' ⟨ρ', F', M', hI, a', s', c'⟩
  refine hs m ρ' M' hI σ' F' H' Mf _ a' c' (k.mono s') fun b F1 H1 M1 h1 s1 c1 => ?_
  cases b with
  | true =>
    refine ⟨fun σ2 H2 => ∃ m', m' < m ∧ ∃ ρ2 F2 M2, I m' ρ2 M2 ∧ EnvR K F2 σ2 ρ2 ∧ Same F F2 ∧ StC K F2 H2 (M2 ++ Mf), fun _ _ z => z, ?_⟩
    have s01 := s'.trans s1
    exact h1.1 rfl σ' F1 H1 Mf _ (a'.mono s1) c1 (k.mono s01) ⟨fun σ4 ρ4 F4 H4 M4 ⟨m', hm, p⟩ a4 s4 c4 => ⟨m', hm, ρ4, F4, M4, p, a4, s01.trans s4, c4⟩, fun v4 x4 F4 H4 M4 p r4 s4 c4 => q.rt v4 x4 F4 H4 M4 p r4 (s01.trans s4) c4,
        fun σ4 ρ4 F4 H4 M4 p a4 s4 c4 => q.nx σ4 ρ4 F4 H4 M4 p a4 (s01.trans s4) c4, fun σ4 ρ4 F4 H4 M4 ⟨m', hm, p⟩ a4 s4 c4 => ⟨m', hm, ρ4, F4, M4, p, a4, s01.trans s4, c4⟩⟩
  | false => exact q.nx σ' ρ' F1 H1 M1 (h1.2 rfl) (a'.mono s1) (s'.trans s1) c1

/-! ### comprehensions -/
theorem wipe_set {x : Option V} {i : Nat} : ∀ {vs : List Nat} {σ : L2.St}, i ∈ vs → wipe (σ.set i x) vs = wipe σ vs
  | [], _, h => by simp at h
  | v :: vs, σ, h => by
    show (wipe (σ.set i x) vs).set v none = (wipe σ vs).set v none
    by_cases hv : i ∈ vs
    · rw [wipe_set hv]
    · have e : i = v := by
        rcases List.mem_cons.mp h with h | h
        · exact h
        · exact absurd h hv
      subst e
      have aux : ∀ {ws : List Nat} {τ : L2.St}, i ∉ ws → wipe (τ.set i x) ws = (wipe τ ws).set i x := by
        intro ws
        induction ws with
        | nil => intro τ _; rfl
        | cons w ws ih =>
          intro τ hw
          rw [List.mem_cons, not_or] at hw
          show (wipe (τ.set i x) ws).set w none = ((wipe τ ws).set w none).set i x
          rw [ih hw.2, List.set_comm _ _ hw.1]
      rw [aux hv, List.set_set]
theorem wipe_out {i : Nat} : ∀ {vs : List Nat} {σ : L2.St}, wipe (σ.set i none) vs = (wipe σ vs).set i none
  | [], _ => rfl
  | v :: vs, σ => by
    show (wipe (σ.set i none) vs).set v none = ((wipe σ vs).set v none).set i none
    rw [wipe_out]
    by_cases h : i = v
    · rw [h]
    · rw [List.set_comm _ _ h]
theorem wipe_wipe {σ : L2.St} : ∀ {vs ws : List Nat}, (∀ v ∈ vs, v ∈ ws) → wipe (wipe σ vs) ws = wipe σ ws
  | [], _, _ => rfl
  | v :: vs, ws, h => by
    show wipe ((wipe σ vs).set v none) ws = wipe σ ws
    rw [wipe_set (h v List.mem_cons_self), wipe_wipe fun u hu => h u (List.mem_cons_of_mem _ hu)]
/-- the target stores to these places alone -/
def GOnly (g : TG) (vs : List Nat) : Prop := ∀ v σ H Q, g v σ H Q → g v σ H fun σ2 H2 => wipe σ2 vs = wipe σ vs ∧ Q σ2 H2
def GsOnly (g : TGs) (vs : List Nat) : Prop := ∀ v σ H Q, g v σ H Q → g v σ H fun σ2 H2 => wipe σ2 vs = wipe σ vs ∧ Q σ2 H2
theorem gOnly_name {i : Nat} {vs : List Nat} (h : i ∈ vs) : GOnly (gName i) vs := fun v σ H Q q => ⟨wipe_set h, q⟩
theorem gOnly_tup {n : Nat} {t : TGs} {vs : List Nat} (h : GsOnly t vs) : GOnly (gTup K n t) vs := fun v σ H Q ⟨a, xs, e, hs, hl, q⟩ => ⟨a, xs, e, hs, hl, h _ _ _ _ q⟩
theorem gOnly_nil {vs : List Nat} : GsOnly gNil vs := fun v σ H Q ⟨e, q⟩ => ⟨e, rfl, q⟩
/-- more is wanted of a target -/
def GMono (g : TG) : Prop := ∀ v σ H Q Q', (∀ a b, Q a b → Q' a b) → g v σ H Q → g v σ H Q'
def GsMono (g : TGs) : Prop := ∀ v σ H Q Q', (∀ a b, Q a b → Q' a b) → g v σ H Q → g v σ H Q'
theorem gMono_name {i : Nat} : GMono (gName i) := fun v σ H Q Q' m q => m _ _ q
theorem gMono_tup {n : Nat} {t : TGs} (h : GsMono t) : GMono (gTup K n t) := fun v σ H Q Q' m ⟨a, xs, e, hs, hl, q⟩ => ⟨a, xs, e, hs, hl, h _ _ _ _ _ m q⟩
theorem gMono_nil : GsMono gNil := fun v σ H Q Q' m ⟨e, q⟩ => ⟨e, m _ _ q⟩
theorem gMono_cons {g : TG} {t : TGs} (h : GMono g) (h2 : GsMono t) : GsMono (gCons g t) := fun v σ H Q Q' m ⟨a, r, e, q⟩ => ⟨a, r, e, h _ _ _ _ _ (fun _ _ z => h2 _ _ _ _ _ m z) q⟩
theorem gOnly_cons {g : TG} {t : TGs} {vs : List Nat} (h : GOnly g vs) (m : GMono g) (h2 : GsOnly t vs) (m2 : GsMono t) : GsOnly (gCons g t) vs := fun v σ H Q ⟨a, r, e, q⟩ =>
  ⟨a, r, e, m _ _ _ _ _ (fun σ1 H1 ⟨e1, q1⟩ => m2 _ _ _ _ _ (fun σ2 H2 ⟨e2, q2⟩ => ⟨e2.trans e1, q2⟩) (h2 _ _ _ _ q1)) (h _ _ _ _ q)⟩
abbrev E0 : WX := fun _ _ _ _ => False
abbrev P0 : PX := fun _ _ _ => False
theorem ek0 {F : Hp} {Mf : Mem} : EK K F Mf P0 E0 := fun _ _ _ _ _ _ _ _ p => p.elim
/-- the new list as a cell of ours -/
def tLcO (wi : TI) (g : TG) (tt : TT) (te : TE) (vs : List Nat) : TE := tLc wi g tt te vs
theorem W.lcAny {wi : TI} {g : TG} {tt : TT} {te : TE} {vs : List Nat} {Q0 : List D → Mem → Prop} (hg : GOnly g vs) (h : WI K E wi ρ M (fun s M1 => ∃ J : Nat → List D → Mem → Prop, J 0 [] M1 ∧ (∀ i acc M', i ≤ s.its.length → J i acc M' → s.need M') ∧
    (∀ i x acc M', s.its[i]? = some x → J i acc M' → acc.length < sizeLine ∧ WG K E0 g x (wipeD ρ vs) M' (fun ρ2 M2 => WT K E0 tt ρ2 M2 (fun b M3 => (b = true → W K E0 te ρ2 M3 (fun y M4 => J (i + 1) (acc ++ [y]) M4) P0) ∧ (b = false → J (i + 1) acc M3)) P0) P0) ∧
    ∀ acc M', J s.its.length acc M' → Q0 acc M') Ψ) (fin : ∀ (σ : L2.St) (F H : Hp) (Mf : Mem) (Q : VK), (∀ v x F' H' M', Φ x M' → RD K F' v x → Same F F' → StC K F' H' (M' ++ Mf) → Q v H') → ∀ Dd acc M' F' H', Q0 acc M' → Same F F' → StC K F' H' (M' ++ (Dd, O.lst acc) :: Mf) → Q (.ref Dd) H') :
    W K E (tLc wi g tt te vs) ρ M Φ Ψ := fun σ F H Mf Q a s k q =>
  h σ F H Mf _ a s k fun src F1 H1 M1 J ⟨I, h0, hn, ht, he⟩ s1 c1 jr => by
    intro Dd hD
    refine ⟨fun i m H' => ∃ acc F' M', i ≤ src.its.length ∧ m = src.its.length - i ∧ I i acc M' ∧ Same F1 F' ∧ StC K F' H' (M' ++ (Dd, O.lst acc) :: Mf), ⟨_, [], F1, M1, Nat.zero_le _, rfl, h0, Same.refl _, (c1.newO (ho := .lst []) (o := .lst []) hD RDs.nil).perm List.perm_middle.symm⟩, ?_⟩
    rintro i m H' ⟨acc, F', M', hi, rfl, hI, s', c'⟩
    obtain ⟨jg, js, jy⟩ := jr F' H' M' _ s' c' (hn i acc M' hi hI)
    by_cases hlt : i < src.its.length
    · refine .inr ⟨jg i hlt, fun H2 => ∃ acc2 F2 M2, I (i + 1) acc2 M2 ∧ Same F1 F2 ∧ StC K F2 H2 (M2 ++ (Dd, O.lst acc2) :: Mf), fun H2 ⟨acc2, F2, M2, h1, h3, h4⟩ => ⟨src.its.length - (i + 1), by omega, acc2, F2, M2, hlt, rfl, h1, h3, h4⟩, fun v H2 y => ?_⟩
      have hx : src.its[i]? = some src.its[i] := List.getElem?_eq_getElem hlt
      obtain ⟨F2, e2, c2, r2⟩ := jy i _ v H2 hx y
      obtain ⟨hz, hw⟩ := ht i _ acc M' hx hI
      have a2 : EnvR K F2 (wipe σ vs) (wipeD ρ vs) := (a.mono ((s1.trans s').trans e2)).wipe vs
      have hw2 := hg _ _ _ _ (hw (wipe σ vs) F2 H2 ((Dd, O.lst acc) :: Mf) v (fun σ3 H3 => tt σ3 H3 fun b H4 => if b = true then te σ3 H4 fun y H5 => ∃ acc', H5 Dd = some (.lst acc') ∧ acc'.length < sizeLine ∧ (∃ acc2 F2 M2, I (i + 1) acc2 M2 ∧ Same F1 F2 ∧ StC K F2 (upd H5 Dd (.lst (acc' ++ [y]))) (M2 ++ (Dd, O.lst acc2) :: Mf)) else (∃ acc2 F2 M2, I (i + 1) acc2 M2 ∧ Same F1 F2 ∧ StC K F2 H4 (M2 ++ (Dd, O.lst acc2) :: Mf))) r2 a2 c2 ek0 fun σ3 ρ3 F3 H3 M3 h3 a3 s3 c3 => ?_)
      · rw [wipe_wipe fun v hv => hv] at hw2
        exact hw2
      · have s13 : Same F1 F3 := (s'.trans e2).trans s3
        refine h3 σ3 F3 H3 ((Dd, O.lst acc) :: Mf) _ a3 c3 ek0 fun b F4 H4 M4 h4 s4 c4 => ?_
        cases b with
        | false => exact ⟨acc, F4, M4, h4.2 rfl, s13.trans s4, c4⟩
        | true =>
          refine h4.1 rfl σ3 F4 H4 ((Dd, O.lst acc) :: Mf) _ (a3.mono s4) c4 ek0 fun v5 x5 F5 H5 M5 h5 r5 s5 c5 => ?_
          obtain ⟨ws, ew, rw5⟩ := own_lst (M := M5 ++ (Dd, O.lst acc) :: Mf) (Mf := []) (p := Dd) (xs := acc) (by rw [List.append_nil]; exact c5) (List.mem_append_right _ List.mem_cons_self)
          exact ⟨ws, ew, by rw [rw5.len]; exact hz, acc ++ [x5], F5, M5, h5, (s13.trans s4).trans s5, c5.put (rw5.app (.cons r5 .nil))⟩
    · have e0 : i = src.its.length := by omega
      subst e0
      exact .inl ⟨js _ (Nat.le_refl _), fin σ F H Mf Q q Dd acc M' F' H' (he acc M' hI) (s1.trans s') c'⟩
theorem W.lc {wi : TI} {g : TG} {tt : TT} {te : TE} {vs : List Nat} (hg : GOnly g vs) (h : WI K E wi ρ M (fun s M1 => ∃ J : Nat → List D → Mem → Prop, J 0 [] M1 ∧ (∀ i acc M', i ≤ s.its.length → J i acc M' → s.need M') ∧
    (∀ i x acc M', s.its[i]? = some x → J i acc M' → acc.length < sizeLine ∧ WG K E0 g x (wipeD ρ vs) M' (fun ρ2 M2 => WT K E0 tt ρ2 M2 (fun b M3 => (b = true → W K E0 te ρ2 M3 (fun y M4 => J (i + 1) (acc ++ [y]) M4) P0) ∧ (b = false → J (i + 1) acc M3)) P0) P0) ∧
    ∀ acc M', J s.its.length acc M' → Φ (.lst acc) M') Ψ) : W K E (tLc wi g tt te vs) ρ M Φ Ψ :=
  W.lcAny (Q0 := fun acc M' => Φ (.lst acc) M') hg h fun σ F H Mf Q q Dd acc M' F' H' p s c => by
    obtain ⟨vs, ev, rs, s2, c2⟩ := StC.frozen c
    exact q _ _ _ _ M' p (.lst upd_same (rs.mono s2)) (s.trans s2) c2
theorem W.lcO {wi : TI} {g : TG} {tt : TT} {te : TE} {vs : List Nat} (hg : GOnly g vs) (h : WI K E wi ρ M (fun s M1 => ∃ J : Nat → List D → Mem → Prop, J 0 [] M1 ∧ (∀ i acc M', i ≤ s.its.length → J i acc M' → s.need M') ∧
    (∀ i x acc M', s.its[i]? = some x → J i acc M' → acc.length < sizeLine ∧ WG K E0 g x (wipeD ρ vs) M' (fun ρ2 M2 => WT K E0 tt ρ2 M2 (fun b M3 => (b = true → W K E0 te ρ2 M3 (fun y M4 => J (i + 1) (acc ++ [y]) M4) P0) ∧ (b = false → J (i + 1) acc M3)) P0) P0) ∧
    ∀ acc M', J s.its.length acc M' → AllA fun p => Φ (.ref p) ((p, .lst acc) :: M')) Ψ) : W K E (tLcO wi g tt te vs) ρ M Φ Ψ :=
  W.lcAny (Q0 := fun acc M' => ∀ p, Φ (.ref p) ((p, .lst acc) :: M')) hg h fun σ F H Mf Q q Dd acc M' F' H' p s c =>
    q _ _ F' H' _ (p Dd) (.ref Dd) s (c.perm List.perm_middle)
theorem WT.yes {Θ : Bool → Mem → Prop} (h : Θ true M) : WT K E tYes ρ M Θ Ψ := fun σ F H Mf Q a s k q => q true F H M h (Same.refl _) s

/-! ### dicts of ours -/
def getD3 (ks : List (Key × D)) (k : Key) : Option D := (ks.find? fun kv => decide (kv.1 = k)).map (·.2)
def putD3 (ks : List (Key × D)) (k : Key) (v : D) : List (Key × D) :=
  if (ks.any fun kv => decide (kv.1 = k)) = true then ks.map (fun kv => if kv.1 = k then (kv.1, v) else kv) else ks ++ [(k, v)]
def keyD : Key → D
  | .inl i => .int i
  | .inr x => .str x
theorem RK.get {F : Hp} {k : Key} : ∀ {kvs : List (Key × V)} {ks : List (Key × D)}, Paired (RK K F) kvs ks → ∀ {x : D}, getD3 ks k = some x → ∃ v, valV kvs k = some v ∧ RD K F v x
  | _, _, .nil, _, e => by simp [getD3] at e
  | (a, v) :: kvs, (b, y) :: ks, .cons h t, x, e => by
    obtain ⟨h1, h2⟩ := h
    have h1 : a = b := h1
    subst h1
    unfold getD3 at e
    unfold valV
    rw [List.find?_cons] at e ⊢
    by_cases hk : a = k
    · simp [hk] at e ⊢
      subst e
      exact h2
    · simp only [hk, decide_false] at e ⊢
      exact RK.get t e
theorem RK.getN {F : Hp} {k : Key} : ∀ {kvs : List (Key × V)} {ks : List (Key × D)}, Paired (RK K F) kvs ks → getD3 ks k = none → valV kvs k = none
  | _, _, .nil, _ => rfl
  | (a, v) :: kvs, (b, y) :: ks, .cons h t, e => by
    obtain ⟨h1, h2⟩ := h
    have h1 : a = b := h1
    subst h1
    unfold getD3 at e
    unfold valV
    rw [List.find?_cons] at e ⊢
    by_cases hk : a = k
    · simp [hk] at e
    · simp only [hk, decide_false] at e ⊢
      exact RK.getN t e
theorem RK.any {F : Hp} {k : Key} : ∀ {kvs : List (Key × V)} {ks : List (Key × D)}, Paired (RK K F) kvs ks → (kvs.any fun kv => decide (kv.1 = k)) = ks.any fun kv => decide (kv.1 = k)
  | _, _, .nil => rfl
  | (a, v) :: kvs, (b, y) :: ks, .cons h t => by
    have h1 : a = b := h.1
    subst h1
    rw [List.any_cons, List.any_cons, RK.any t]
theorem RK.app {F : Hp} : ∀ {kvs us : List (Key × V)} {ks ws : List (Key × D)}, Paired (RK K F) kvs ks → Paired (RK K F) us ws → Paired (RK K F) (kvs ++ us) (ks ++ ws)
  | _, _, _, _, .nil, r => r
  | _, _, _, _, .cons h t, r => .cons h (RK.app t r)
theorem RK.map {F : Hp} {k : Key} {v : V} {x : D} (r : RD K F v x) : ∀ {kvs : List (Key × V)} {ks : List (Key × D)}, Paired (RK K F) kvs ks → Paired (RK K F) (kvs.map (fun kv => if kv.1 = k then (kv.1, v) else kv)) (ks.map (fun kv => if kv.1 = k then (kv.1, x) else kv))
  | _, _, .nil => .nil
  | p :: kvs, q :: ks, .cons a t => by
    obtain ⟨h1, h2⟩ := a
    rw [List.map_cons, List.map_cons]
    refine .cons ?_ (RK.map r t)
    by_cases hk : p.1 = k
    · rw [if_pos hk, if_pos (h1 ▸ hk)]
      exact ⟨h1, r⟩
    · rw [if_neg hk, if_neg (h1 ▸ hk)]
      exact ⟨h1, h2⟩
theorem RK.put {F : Hp} {k : Key} {v : V} {x : D} (r : RD K F v x) {kvs : List (Key × V)} {ks : List (Key × D)} (h : Paired (RK K F) kvs ks) : Paired (RK K F) (putK kvs k v) (putD3 ks k x) := by
  unfold putK putD3
  rw [RK.any h]
  split
  · exact RK.map r h
  · exact RK.app h (.cons ⟨rfl, r⟩ .nil)
theorem keyD_v {F : Hp} {v : V} {k : Key} (r : RD K F v (keyD k)) : v = kV k := by
  cases k <;> (cases r; rfl)
/-- where a cell stands -/
inductive Sp (p : Addr) (o : O) : Mem → (O → Mem) → Prop
  | here {M : Mem} : Sp p o ((p, o) :: M) (fun u => (p, u) :: M)
  | there {q : Addr × O} {M : Mem} {f : O → Mem} (h : Sp p o M f) : Sp p o (q :: M) (fun u => q :: f u)
theorem Sp.split {p : Addr} {o : O} {M : Mem} {f : O → Mem} (h : Sp p o M f) : ∃ A B, M = A ++ (p, o) :: B ∧ f = fun u => A ++ (p, u) :: B := by
  induction h with
  | here => exact ⟨[], _, rfl, rfl⟩
  | there _ ih =>
    obtain ⟨A, B, rfl, rfl⟩ := ih
    exact ⟨_ :: A, B, rfl, rfl⟩
theorem Sp.mem {p : Addr} {o : O} {M : Mem} {f : O → Mem} (h : Sp p o M f) : (p, o) ∈ M := by
  obtain ⟨A, B, rfl, _⟩ := h.split
  exact List.mem_append_right _ List.mem_cons_self
theorem Sp.put {p : Addr} {o o' : O} {M Mf : Mem} {f : O → Mem} {F H : Hp} {ho : HO} (h : Sp p o M f) (s : StC K F H (M ++ Mf)) (r : RO K F ho o') (ord : o.ord = true := by rfl) (ord' : o'.ord = true := by rfl) : StC K F (upd H p ho) (f o' ++ Mf) := by
  obtain ⟨A, B, rfl, rfl⟩ := h.split
  rw [List.append_assoc] at s ⊢
  exact StC.put s r ord ord'
theorem W.dget {td ty : TE} (h : W K E td ρ M (fun x M1 => W K E ty ρ M1 (fun y M2 => ∃ p ks k z, x = .ref p ∧ (p, O.dct ks) ∈ M2 ∧ y = keyD k ∧ getD3 ks k = some z ∧ Φ z M2) Ψ) Ψ) : W K E (tDGet td ty) ρ M Φ Ψ := fun σ F H Mf Q a s k q =>
  h σ F H Mf _ a s k fun v x F1 H1 M1 h1 r1 s1 c1 => h1 σ F1 H1 Mf _ (a.mono s1) c1 (k.mono s1) fun u y F2 H2 M2 ⟨p, ks, kk, z, ex, hm, ey, eg, h2⟩ r2 s2 c2 => by
    subst ex
    subst ey
    cases r1
    obtain ⟨kvs, e, rk⟩ := own_dct c2 hm
    obtain ⟨w, ew, rw'⟩ := RK.get rk eg
    refine ⟨p, w, rfl, ?_, q _ _ F2 H2 M2 h2 rw' (s1.trans s2) c2⟩
    rw [keyD_v r2, ← ew]
    exact DGet.k e
theorem WS.dput {td ty tv : TE} (h : W K E tv ρ M (fun z M1 => W K E td ρ M1 (fun x M2 => W K E ty ρ M2 (fun y M3 => ∃ p ks k f, x = .ref p ∧ Sp p (O.dct ks) M3 f ∧ y = keyD k ∧ ks.length < sizeLine ∧ d.nx ρ (f (.dct (putD3 ks k z)))) Ψ) Ψ) Ψ) : WS K E (sDPut td ty tv) ρ M d Ψ := fun σ F H Mf e a s k q =>
  h σ F H Mf _ a s k fun w z F0 H0 M0 h0 r0 s0 c0 => h0 σ F0 H0 Mf _ (a.mono s0) c0 (k.mono s0) fun v x F1 H1 M1 h1 r1 s1 c1 => h1 σ F1 H1 Mf _ (a.mono (s0.trans s1)) c1 (k.mono (s0.trans s1)) fun u y F2 H2 M2 ⟨p, ks, kk, f, ex, hm, ey, hl, h2⟩ r2 s2 c2 => by
    subst ex
    subst ey
    cases r1
    obtain ⟨kvs, e', rk⟩ := own_dct c2 hm.mem
    have hlen : kvs.length = ks.length := Paired.length rk
    refine ⟨p, _, rfl, by rw [keyD_v r2]; exact DPut.k e' (by rw [hlen]; exact hl), q.nx σ ρ F2 _ _ h2 (a.mono ((s0.trans s1).trans s2)) ((s0.trans s1).trans s2) (hm.put c2 (show RO K F2 (.dK _) (.dct _) from RK.put (r0.mono (s1.trans s2)) rk))⟩
theorem WS.daug {td ty tv : TE} {rd : R2} (h : W K E td ρ M (fun x M1 => W K E ty ρ M1 (fun y M2 => ∃ p ks k z, x = .ref p ∧ (p, O.dct ks) ∈ M2 ∧ y = keyD k ∧ getD3 ks k = some z ∧ W K E tv ρ M2 (fun u M3 => OpD K rd z u M3 (fun r M4 => ∃ ks' f, Sp p (O.dct ks') M4 f ∧ ks'.length < sizeLine ∧ d.nx ρ (f (.dct (putD3 ks' k r))))) Ψ) Ψ) Ψ) : WS K E (sDAug td ty tv rd) ρ M d Ψ := fun σ F H Mf e a s k q =>
  h σ F H Mf _ a s k fun v x F1 H1 M1 h1 r1 s1 c1 => h1 σ F1 H1 Mf _ (a.mono s1) c1 (k.mono s1) fun u y F2 H2 M2 ⟨p, ks, kk, z, ex, hm, ey, eg, h2⟩ r2 s2 c2 => by
    subst ex
    subst ey
    cases r1
    obtain ⟨kvs, e', rk⟩ := own_dct c2 hm
    obtain ⟨w, ew, rw'⟩ := RK.get rk eg
    refine ⟨p, w, rfl, ?_, ?_⟩
    · rw [keyD_v r2, ← ew]
      exact DGet.k e'
    · refine h2 σ F2 H2 Mf _ (a.mono (s1.trans s2)) c2 (k.mono (s1.trans s2)) fun v3 x3 F3 H3 M3 h3 r3 s3 c3 => h3 F3 H3 Mf w v3 _ (rw'.mono s3) r3 c3 fun v4 x4 F4 H4 M4 ⟨ks', f, hm', hl', h4⟩ r4 s4 c4 => ?_
      obtain ⟨kvs', e4, rk'⟩ := own_dct c4 hm'.mem
      have hlen : kvs'.length = ks'.length := Paired.length rk'
      have s14 := ((s1.trans s2).trans s3).trans s4
      exact ⟨_, by rw [keyD_v r2]; exact DPut.k e4 (by rw [hlen]; exact hl'), q.nx σ ρ F4 _ _ h4 (a.mono s14) s14 (hm'.put c4 (show RO K F4 (.dK _) (.dct _) from RK.put r4 rk'))⟩

/-! ### methods of built-in types -/
inductive TyM (M : Mem) : String → D → Prop
  | ownX {p : Addr} {xs : List D} (h : (p, O.lst xs) ∈ exM M) : TyM M "list" (.ref p)
  | lst {xs : List D} : TyM M "list" (.lst xs)
  | str {x : Str} : TyM M "str" (.str x)
  | int {x : Int} : TyM M "int" (.int x)
  | dct {p : Addr} {ks : List (Key × D)} (h : (p, O.dct ks) ∈ M) : TyM M "dict" (.ref p)
theorem TyM.own {M : Mem} {p : Addr} {xs : List D} (h : (p, O.lst xs) ∈ M) : TyM M "list" (.ref p) := .ownX (exM_mem h rfl)
theorem TyM.ty {T : String} {x : D} (t : TyM M T x) {F H : Hp} {Mf : Mem} {v : V} (r : RD K F v x) (s : StC K F H (M ++ Mf)) : tyV K T v H := by
  cases t with
  | ownX h =>
    cases r
    obtain ⟨vs, e, _⟩ := own_lstX s h
    exact .inl ⟨rfl, vs, .inl (.inl e)⟩
  | lst =>
    cases r with
    | lst h rs => exact .inl ⟨rfl, _, .inl (.inl (s.sub _ _ h))⟩
  | str => cases r; rfl
  | int => cases r; rfl
  | dct h =>
    cases r
    obtain ⟨vs, e, _⟩ := own_dct s h
    exact .inr (.inr (.inl ⟨rfl, .inl ⟨vs, e⟩⟩))
theorem W.bm {T : String} {r : V → List V → Hp → VK → Prop} {to : TE} {t : TA} (h : W K E to ρ M (fun x M1 => TyM M1 T x ∧ WA K E t ρ M1 (fun xs M2 => MtD K r x xs M2 Φ) Ψ) Ψ) : W K E (tBM K T r to t) ρ M Φ Ψ := fun σ F H Mf Q a s k q =>
  h σ F H Mf _ a s k fun v x F1 H1 M1 ⟨ht, h1⟩ r1 s1 c1 => ⟨ht.ty r1 c1, h1 σ F1 H1 Mf _ (a.mono s1) c1 (k.mono s1) fun us ys F2 H2 M2 h2 r2 s2 c2 => h2 F2 H2 Mf v us Q (r1.mono s2) r2 c2 (Kont.mono q (s1.trans s2))⟩
theorem W.bm0 {T : String} {r : V → List V → Hp → VK → Prop} {to : TE} (h : W K E to ρ M (fun x M1 => TyM M1 T x ∧ MtD K r x [] M1 Φ) Ψ) : W K E (tBM0 K T r to) ρ M Φ Ψ := fun σ F H Mf Q a s k q =>
  h σ F H Mf _ a s k fun v x F1 H1 M1 ⟨ht, h1⟩ r1 s1 c1 => ⟨ht.ty r1 c1, h1 F1 H1 Mf v [] Q r1 .nil c1 (Kont.mono q s1)⟩
theorem MtD.append {p : Addr} {xs : List D} {y : D} {f : O → Mem} (hm : Sp p (O.lst xs) M f) (hl : xs.length < sizeLine) (h : Φ .non (f (.lst (xs ++ [y])))) : MtD K mAppend (.ref p) [y] M Φ := fun F H Mf v vs Q r rs s k => by
  cases r
  cases rs with
  | cons ry rr =>
    cases rr
    obtain ⟨ws, e, rw'⟩ := own_lst s hm.mem
    exact ⟨p, ws, _, rfl, rfl, e, by rw [rw'.len]; exact hl, k _ _ F _ _ h .non (Same.refl _) (hm.put s (show RO K F (.lst _) (.lst _) from rw'.app (.cons ry .nil)))⟩

/-! ### slices -/
def WO (K : PySem.W.Frag) (E : WX) (t : TO) (ρ : Env3) (M : Mem) (Θ : Option Int → Mem → Prop) (Ψ : PX) : Prop :=
  ∀ σ F H Mf Q, EnvR K F σ ρ → StC K F H (M ++ Mf) → EK K F Mf Ψ E → (∀ o F' H' M', Θ o M' → Same F F' → StC K F' H' (M' ++ Mf) → Q o H') → t σ H Q
theorem WO.no {Θ : Option Int → Mem → Prop} (h : Θ Option.none M) : WO K E tNoPart ρ M Θ Ψ := fun σ F H Mf Q a s k q => q Option.none F H M h (Same.refl _) s
theorem WO.so {te : TE} {Θ : Option Int → Mem → Prop} (h : W K E te ρ M (fun x M1 => ∃ i, x = .int i ∧ Θ (some i) M1) Ψ) : WO K E (tPart te) ρ M Θ Ψ := fun σ F H Mf Q a s k q =>
  h σ F H Mf _ a s k fun v x F1 H1 M1 ⟨i, ex, h1⟩ r1 s1 c1 => by
    subst ex
    cases r1
    exact ⟨i, rfl, q _ F1 H1 M1 h1 s1 c1⟩
def cutD (xs : List D) (lo hi : Option Int) : List D := (xs.drop (HT.sIx xs.length 0 lo)).take (HT.sIx xs.length xs.length hi - HT.sIx xs.length 0 lo)
def SlD (K : PySem.W.Frag) (r : V → Option Int → Option Int → Hp → VK → Prop) (x : D) (lo hi : Option Int) (M : Mem) (Φ : D → Mem → Prop) : Prop := ∀ F H Mf v Q, RD K F v x → StC K F H (M ++ Mf) → Kont K F Mf Φ Q → r v lo hi H Q
theorem W.sl {r : V → Option Int → Option Int → Hp → VK → Prop} {te : TE} {tl th : TO} (h : W K E te ρ M (fun x M1 => WO K E tl ρ M1 (fun lo M2 => WO K E th ρ M2 (fun hi M3 => SlD K r x lo hi M3 Φ) Ψ) Ψ) Ψ) : W K E (tSl r te tl th) ρ M Φ Ψ := fun σ F H Mf Q a s k q =>
  h σ F H Mf _ a s k fun v x F1 H1 M1 h1 r1 s1 c1 => h1 σ F1 H1 Mf _ (a.mono s1) c1 (k.mono s1) fun lo F2 H2 M2 h2 s2 c2 => h2 σ F2 H2 Mf _ (a.mono (s1.trans s2)) c2 (k.mono (s1.trans s2)) fun hi F3 H3 M3 h3 s3 c3 =>
    h3 F3 H3 Mf v Q (r1.mono (s2.trans s3)) c3 (Kont.mono q ((s1.trans s2).trans s3))
def lOr (r r' : V → Option Int → Option Int → Hp → VK → Prop) : V → Option Int → Option Int → Hp → VK → Prop := fun x lo hi H Q => r x lo hi H Q ∨ r' x lo hi H Q
def sSeq (K : PySem.W.Frag) : V → Option Int → Option Int → Hp → VK → Prop := lOr (rSlL K) (rSlT K)
theorem q_sl (K : PySem.W.Frag) {X : Cx} (e : X.K = K := by rfl) : SlR X (sSeq K) := by subst e; exact SlR.or sl_list sl_tup
theorem cutD_rs {F : Hp} {vs : List V} {xs : List D} (r : RDs K F vs xs) (lo hi : Option Int) : RDs K F (cutV vs lo hi) (cutD xs lo hi) := by
  unfold cutV cutD
  rw [r.len]
  exact (r.drop _).take _
/-- x[lo:hi] of a list: a new list -/
theorem SlD.lst {x : D} {xs : List D} {lo hi : Option Int} (q : Seq M x xs) (hb : isL x = true) (h : Φ (.lst (cutD xs lo hi)) M) : SlD K (sSeq K) x lo hi M Φ := fun F H Mf v Q r s k => by
  obtain ⟨a, vs, rfl, hl, rs⟩ := q.vL hb r s
  exact .inl ⟨a, vs, rfl, hl, fun p hp => k _ _ _ _ M h (.lst upd_same ((cutD_rs rs lo hi).mono (s.sameF hp))) (s.sameF hp) (s.newF hp)⟩
theorem SlD.tup {xs : List D} {lo hi : Option Int} (hw : ¬ (HT.sIx xs.length 0 lo = 0 ∧ HT.sIx xs.length xs.length hi = xs.length)) (h : Φ (.tup (cutD xs lo hi)) M) : SlD K (sSeq K) (.tup xs) lo hi M Φ := fun F H Mf v Q r s k => by
  cases r with
  | tup e rs => exact .inr ⟨_, _, rfl, sqt_mono s.sub e, by rw [rs.len]; exact hw, fun p hp => k _ _ _ _ M h (.tup (.inl (.inl upd_same)) ((cutD_rs rs lo hi).mono (s.sameF hp))) (s.sameF hp) (s.newF hp)⟩
end
end L3

namespace L3
open PySem PySem.Spec L2
section
variable {K : PySem.W.Frag} {E : WX} {Ψ : PX} {ρ : Env3} {M : Mem} {Φ : D → Mem → Prop}
theorem WT.test {t : TE} {Θ : Bool → Mem → Prop} (h : W K E t ρ M (fun x M1 => ∃ b, x = .bl b ∧ Θ b M1) Ψ) : WT K E (tTest t) ρ M Θ Ψ := WT.tB h
theorem W.chain {r r' : R2} {ta tb tc : TE} (h : W K E ta ρ M (fun x M1 => W K E tb ρ M1 (fun y M2 => OpD K r x y M2 (fun z M3 => ∃ b, z = .bl b ∧ (b = true → W K E tc ρ M3 (fun w M4 => OpD K r' y w M4 Φ) Ψ) ∧ (b = false → Φ (.bl false) M3))) Ψ) Ψ) : W K E (tChain r r' ta tb tc) ρ M Φ Ψ := fun σ F H Mf Q a s k q =>
  h σ F H Mf _ a s k fun v x F1 H1 M1 h1 r1 s1 c1 => h1 σ F1 H1 Mf _ (a.mono s1) c1 (k.mono s1) fun u y F2 H2 M2 h2 r2 s2 c2 => h2 F2 H2 Mf v u _ (r1.mono s2) r2 c2 fun z w F3 H3 M3 ⟨b, eb, h3, h4⟩ r3 s3 c3 => by
    subst eb
    cases r3
    refine ⟨b, rfl, ?_⟩
    cases b with
    | true => exact h3 rfl σ F3 H3 Mf _ (a.mono ((s1.trans s2).trans s3)) c3 (k.mono ((s1.trans s2).trans s3)) fun v4 x4 F4 H4 M4 h4 r4 s4 c4 => h4 F4 H4 Mf u v4 Q (r2.mono (s3.trans s4)) r4 c4 (Kont.mono q (((s1.trans s2).trans s3).trans s4))
    | false => exact q _ _ F3 H3 M3 (h4 rfl) (.bl false) ((s1.trans s2).trans s3) c3
/-! ### a dict displayed -/
def WPs (K : PySem.W.Frag) (E : WX) (trs : List (TE × TE)) (ρ : Env3) (M : Mem) (Θ : List (D × D) → Mem → Prop) (Ψ : PX) : Prop :=
  ∀ σ F H Mf Q, EnvR K F σ ρ → StC K F H (M ++ Mf) → EK K F Mf Ψ E → (∀ vs xs F' H' M', Θ xs M' → Paired (fun p q => RD K F' p.1 q.1 ∧ RD K F' p.2 q.2) vs xs → Same F F' → StC K F' H' (M' ++ Mf) → Q vs H') → tPairs trs σ H Q
theorem WPs.nil {Θ : List (D × D) → Mem → Prop} (h : Θ [] M) : WPs K E [] ρ M Θ Ψ := fun σ F H Mf Q a s k q => q [] [] F H M h .nil (Same.refl _) s
theorem WPs.cons {tk tv : TE} {trs : List (TE × TE)} {Θ : List (D × D) → Mem → Prop} (h : W K E tk ρ M (fun x M1 => W K E tv ρ M1 (fun y M2 => WPs K E trs ρ M2 (fun ps M3 => Θ ((x, y) :: ps) M3) Ψ) Ψ) Ψ) : WPs K E ((tk, tv) :: trs) ρ M Θ Ψ := fun σ F H Mf Q a s k q =>
  h σ F H Mf _ a s k fun v x F1 H1 M1 h1 r1 s1 c1 => h1 σ F1 H1 Mf _ (a.mono s1) c1 (k.mono s1) fun u y F2 H2 M2 h2 r2 s2 c2 => h2 σ F2 H2 Mf _ (a.mono (s1.trans s2)) c2 (k.mono (s1.trans s2)) fun ws ys F3 H3 M3 h3 r3 s3 c3 =>
    q _ _ F3 H3 M3 h3 (.cons ⟨r1.mono (s2.trans s3), r2.mono s3⟩ r3) ((s1.trans s2).trans s3) c3
def mergeD (ks more : List (Key × D)) : List (Key × D) := more.foldl (fun acc kv => putD3 acc kv.1 kv.2) ks
theorem RK.merge {F : Hp} : ∀ {more : List (Key × V)} {ms : List (Key × D)} {kvs : List (Key × V)} {ks : List (Key × D)}, Paired (RK K F) more ms → Paired (RK K F) kvs ks → Paired (RK K F) (mergeK kvs more) (mergeD ks ms)
  | _, _, _, _, .nil, h => h
  | p :: more, q :: ms, kvs, ks, .cons a t, h => by
    obtain ⟨h1, h2⟩ := a
    show Paired (RK K F) (mergeK (putK kvs p.1 p.2) more) (mergeD (putD3 ks q.1 q.2) ms)
    rw [h1]
    exact RK.merge t (RK.put h2 h)
theorem pairs_keys {F : Hp} : ∀ {ms : List (Key × D)} {vs : List (V × V)}, Paired (fun (p : V × V) (q : D × D) => RD K F p.1 q.1 ∧ RD K F p.2 q.2) vs (ms.map fun kv => (keyD kv.1, kv.2)) → ∃ kvs : List (Key × V), vs = kvs.map (fun kv => (kV kv.1, kv.2)) ∧ Paired (RK K F) kvs ms
  | [], _, h => by cases h; exact ⟨[], rfl, .nil⟩
  | m :: ms, _, h => by
    cases h with
    | cons a t =>
      rename_i p _
      obtain ⟨kvs, rfl, h2⟩ := pairs_keys t
      refine ⟨(m.1, p.2) :: kvs, ?_, .cons ⟨rfl, a.2⟩ h2⟩
      rw [List.map_cons, ← keyD_v a.1]
theorem W.disp {trs : List (TE × TE)} (h : WPs K E trs ρ M (fun ps M1 => ∃ ms : List (Key × D), ps = ms.map (fun kv => (keyD kv.1, kv.2)) ∧ ms.length ≤ 15 ∧ ∀ p, Φ (.ref p) ((p, .dct (mergeD [] ms)) :: M1)) Ψ) : W K E (tDisp trs) ρ M Φ Ψ := fun σ F H Mf Q a s k q => by
  intro p hp
  refine h σ F (upd H p (.dK [])) ((p, .dct []) :: Mf) _ a ((s.newO (ho := .dK []) (o := .dct []) hp Paired.nil).perm List.perm_middle.symm) (fun x ρ' M' F' H' σ' cls d p1 p2 p3 p4 p5 => ?_) fun vs xs F1 H1 M1 ⟨ms, ex, hl, h1⟩ r1 s1 c1 => ?_
  · refine k x ρ' M' F' H' σ' cls d p1 p2 p3 ?_ p5
    exact (p4.perm (List.perm_middle)).dropM (A := [(p, O.dct [])])
  · subst ex
    obtain ⟨kvs, rfl, rk⟩ := pairs_keys r1
    obtain ⟨kvs0, e0, rk0⟩ := own_dct (M := M1 ++ (p, O.dct []) :: Mf) (Mf := []) (p := p) (ks := []) (by rw [List.append_nil]; exact c1) (List.mem_append_right _ List.mem_cons_self)
    cases rk0
    refine ⟨e0, kvs, rfl, by rw [Paired.length rk]; exact hl, q _ _ F1 _ _ (h1 p) (.ref p) s1 ?_⟩
    have c2 := StC.put (o' := .dct (mergeD [] ms)) (ho := .dK (mergeK [] kvs)) c1 (show RO K F1 (.dK _) (.dct _) from RK.merge rk .nil)
    exact c2.perm List.perm_middle
/-! ### a, b = x, y; a, b, c = x, y, z of plain names -/
theorem WS.par {i j : Nat} {ta : TA} {d : DD} (h : WA K E ta ρ M (fun xs M1 => ∃ x y, xs = [x, y] ∧ d.nx ((ρ.set i (some x)).set j (some y)) M1) Ψ) : WS K E (tPar i j ta) ρ M d Ψ := fun σ F H Mf e a s k q =>
  h σ F H Mf _ a s k fun vs xs F1 H1 M1 ⟨x, y, ex, h1⟩ r1 s1 c1 => by
    subst ex
    cases r1 with
    | cons r r1 => cases r1 with
      | cons r2 r1 =>
        cases r1
        exact ⟨_, _, rfl, q.nx _ _ F1 H1 M1 h1 (((a.mono s1).set r i).set r2 j) s1 c1⟩
/-- a tuple or a list of that length -/
def gSeq (K : PySem.W.Frag) (n : Nat) (t : TGs) : TG := fun v σ H Q => gTup K n t v σ H Q ∨ gLst K n t v σ H Q
theorem q_gseq (K : PySem.W.Frag) {X : Cx} {es : List Expr} {k : Nat} {pos : Pos} {t : TGs} {n : Nat} (hc : X.calm = true) (h : PGs X es t) (hn : (assignEach es X.env).length = n := by rfl) (hst : (assignEach es X.env).findIdx? (·.1) = none := by rfl) (e : X.K = K := by rfl) : PG X (.Tuple es k pos) (gSeq K n t) := by
  subst e
  exact ⟨fun pins s σ H v u Q I r w => w.elim ((pg_tup hc h hn hst).run pins s σ H v u Q I r) ((pg_lst hc h hn hst).run pins s σ H v u Q I r)⟩
theorem WG.seq {n : Nat} {t : TGs} {x : D} {xs : List D} {Θ : Env3 → Mem → Prop} (hs : Seq M x xs) (hl : xs.length = n) (h : WGs K E t xs ρ M Θ Ψ) : WG K E (gSeq K n t) x ρ M Θ Ψ := fun σ F H Mf v Q r a s k q => by
  obtain ⟨b, vs, rfl, hq, rs⟩ := hs.vv r s
  rcases hq with hq | hq
  · exact .inr ⟨b, vs, rfl, hq, rs.len.trans hl, h σ F H Mf _ Q rs a s k q⟩
  · exact .inl ⟨b, vs, rfl, hq, rs.len.trans hl, h σ F H Mf _ Q rs a s k q⟩
theorem gOnly_seq {n : Nat} {t : TGs} {vs : List Nat} (h : GsOnly t vs) : GOnly (gSeq K n t) vs := fun v σ H Q q => q.elim (fun ⟨a, xs, e, hs, hl, q⟩ => .inl ⟨a, xs, e, hs, hl, h _ _ _ _ q⟩) (fun ⟨a, xs, e, hs, hl, q⟩ => .inr ⟨a, xs, e, hs, hl, h _ _ _ _ q⟩)
theorem gMono_seq {n : Nat} {t : TGs} (h : GsMono t) : GMono (gSeq K n t) := fun v σ H Q Q' m q => q.elim (fun ⟨a, xs, e, hs, hl, q⟩ => .inl ⟨a, xs, e, hs, hl, h _ _ _ _ _ m q⟩) (fun ⟨a, xs, e, hs, hl, q⟩ => .inr ⟨a, xs, e, hs, hl, h _ _ _ _ _ m q⟩)
end
/-- a def as it stands behind the top -/
structure Df (K : PySem.W.Frag) (mg : Str → Option Value) (x : Str) (st : Stmt) (ps : List Str) where
  f : Addr
  fd : FuncData
  F : Fun K x x st f fd
  g : mg x = some (.ref f)
  b : Binds K fd ps []
theorem hu64 {A : Around} {k : Nat} (hr : Room k A) : A.units + 64 < cLine := hr.units
section
variable (K : PySem.W.Frag) {X : Cx}
theorem q_enum {e : Expr} {ta : TA} {p pos tpos : Pos} {elts : List Expr} {kk : Nat} (hg : Gl X "enumerate") (hm : X.mg "enumerate" = none) (ha : PA X [e] ta) (hs : starEach [e] X.env = [(false, eval e X.env)] := by rfl) (eK : X.K = K := by rfl) :
    PI X (.Tuple elts kk tpos) (.Call (.Name "enumerate" p) [e] [] pos) (iEnum K ta) := by subst eK; exact pi_enum hg hm ha hs
theorem q_zip {e e2 : Expr} {ta : TA} {p pos tpos : Pos} {elts : List Expr} {kk : Nat} (hg : Gl X "zip") (hm : X.mg "zip" = none) (ha : PA X [e, e2] ta)
    (hs : starEach [e, e2] X.env = (false, eval e X.env) :: starEach [e2] X.env := by rfl) (hpl : (backTo pos (starEach [e2] X.env)).any (·.1) = false := by rfl) (eK : X.K = K := by rfl) :
    PI X (.Tuple elts kk tpos) (.Call (.Name "zip" p) [e, e2] [] pos) (RZ.iZipA K ta) := by subst eK; exact RZ.pi_zipA hg hm ha hs hpl
theorem q_bm {o e : Expr} {es : List Expr} {to : TE} {t : TA} {name : Str} {apos cpos : Pos} {T id : String} {r : V → List V → Hp → VK → Prop} (pa : PlainAttrs T) (slot : Slot T name id) (hty : typeOf (.builtin id) = pure (.type "method_descriptor")) (hm : MtR X id r) (ho : PE X o to) (ha : PA X (e :: es) t)
    (hbase : attributeBase o name X.env (eval o X.env) = eval o X.env := by rfl)
    (hfew : ((backTo cpos (starEach (e :: es) X.env)).all (fun x => !x.1) && (backToKw cpos (keywordEach [] X.env)).all (fun x => x.1.isSome)
      && decide ((e :: es).length + ([] : List Keyword).length + (if ([] : List Keyword).isEmpty then 0 else 1) < 30)) = true := by rfl)
    (hline : (apos.endLine == cpos.line) = true := by rfl) (hs : starEach (e :: es) X.env = (false, eval e X.env) :: starEach es X.env := by rfl) (hplain : (backTo cpos (starEach es X.env)).any (·.1) = false := by rfl) (eK : X.K = K := by rfl) :
    PE X (.Call (.Attribute o name apos) (e :: es) [] cpos) (tBM K T r to t) := by subst eK; exact pe_bm pa slot hty hm ho ha hbase hfew hline hs hplain
theorem q_bm0 {o : Expr} {to : TE} {name : Str} {apos cpos : Pos} {T id : String} {r : V → List V → Hp → VK → Prop} (pa : PlainAttrs T) (slot : Slot T name id) (hty : typeOf (.builtin id) = pure (.type "method_descriptor")) (hm : MtR X id r) (ho : PE X o to)
    (hbase : attributeBase o name X.env (eval o X.env) = eval o X.env := by rfl) (hline : (apos.endLine == cpos.line) = true := by rfl) (eK : X.K = K := by rfl) : PE X (.Call (.Attribute o name apos) [] [] cpos) (tBM0 K T r to) := by subst eK; exact pe_bm0 pa slot hty hm ho hbase hline
theorem q_fld {e : Expr} {f : Str} {pos : Pos} {ta : TE} (he : PE X e ta) (hb : attributeBase e f X.env (eval e X.env) = eval e X.env := by rfl) (eK : X.K = K := by rfl) : PE X (.Attribute e f pos) (tFld K ta f) := by subst eK; exact pe_fld he hb
end
end L3

namespace L3
open PySem PySem.Spec L2
section
variable {K : PySem.W.Frag} {E : WX} {Ψ : PX} {ρ : Env3} {M : Mem} {N B C : Env3 → Mem → Prop} {R : D → Mem → Prop}
theorem S.next (h : N ρ M) : WS K E tNext ρ M ⟨N, R, B, C⟩ Ψ := WS.next h
theorem S.seq {t u : TS} (h : WS K E t ρ M ⟨fun ρ1 M1 => WS K E u ρ1 M1 ⟨N, R, B, C⟩ Ψ, R, B, C⟩ Ψ) : WS K E (tSeq t u) ρ M ⟨N, R, B, C⟩ Ψ := WS.seq h
theorem S.asg {te : TE} {g : TG} (h : W K E te ρ M (fun x M1 => WG K E g x ρ M1 N Ψ) Ψ) : WS K E (tAsg te g) ρ M ⟨N, R, B, C⟩ Ψ := WS.asg h
theorem S.aug {i : Nat} {te : TE} {ti : TIp} {x : D} (h0 : ρ[i]? = some (some x)) (h : W K E te ρ M (fun y M1 => OpD K ti x y M1 (fun z M2 => WG K E (gName i) z ρ M2 N Ψ)) Ψ) : WS K E (tAug i te ti) ρ M ⟨N, R, B, C⟩ Ψ :=
  fun σ F H Mf e a s k q => by
    obtain ⟨v, h1, h2⟩ := a.get h0
    exact ⟨v, h1, h σ F H Mf _ a s k fun u y F1 H1 M1 g1 r1 s1 c1 => g1 F1 H1 Mf v u _ (h2.mono s1) r1 c1 fun w z F2 H2 M2 g2 r2 s2 c2 =>
      g2 σ F2 H2 Mf w _ r2 (a.mono (s1.trans s2)) c2 (k.mono (s1.trans s2)) fun σ3 ρ3 F3 H3 M3 p a3 s3 c3 => q.nx σ3 ρ3 F3 H3 M3 p a3 ((s1.trans s2).trans s3) c3⟩
theorem S.ret {te : TE} (h : W K E te ρ M R Ψ) : WS K E (tRet te) ρ M ⟨N, R, B, C⟩ Ψ := WS.ret h
theorem S.retN (h : R .non M) : WS K E tRetN ρ M ⟨N, R, B, C⟩ Ψ := WS.retN h
theorem S.drop {te : TE} (h : W K E te ρ M (fun _ M1 => N ρ M1) Ψ) : WS K E (tDrop te) ρ M ⟨N, R, B, C⟩ Ψ := WS.drop h
theorem S.ite {c : TT} {t u : TS} (h : WT K E c ρ M (fun b M1 => (b = true → WS K E t ρ M1 ⟨N, R, B, C⟩ Ψ) ∧ (b = false → WS K E u ρ M1 ⟨N, R, B, C⟩ Ψ)) Ψ) : WS K E (tIfS c t u) ρ M ⟨N, R, B, C⟩ Ψ := WS.ite h
theorem S.brk (h : B ρ M) : WS K E tBreak ρ M ⟨N, R, B, C⟩ Ψ := WS.brk h
theorem S.cnt (h : C ρ M) : WS K E tCont ρ M ⟨N, R, B, C⟩ Ψ := WS.cnt h
theorem S.dput {td ty tv : TE} (h : W K E tv ρ M (fun z M1 => W K E td ρ M1 (fun x M2 => W K E ty ρ M2 (fun y M3 => ∃ p ks k f, x = .ref p ∧ Sp p (O.dct ks) M3 f ∧ y = keyD k ∧ ks.length < sizeLine ∧ N ρ (f (.dct (putD3 ks k z)))) Ψ) Ψ) Ψ) : WS K E (sDPut td ty tv) ρ M ⟨N, R, B, C⟩ Ψ := WS.dput h
theorem S.daug {td ty tv : TE} {rd : R2} (h : W K E td ρ M (fun x M1 => W K E ty ρ M1 (fun y M2 => ∃ p ks k z, x = .ref p ∧ (p, O.dct ks) ∈ M2 ∧ y = keyD k ∧ getD3 ks k = some z ∧ W K E tv ρ M2 (fun u M3 => OpD K rd z u M3 (fun r M4 => ∃ ks' f, Sp p (O.dct ks') M4 f ∧ ks'.length < sizeLine ∧ N ρ (f (.dct (putD3 ks' k r))))) Ψ) Ψ) Ψ) : WS K E (sDAug td ty tv rd) ρ M ⟨N, R, B, C⟩ Ψ := WS.daug h
theorem S.par {i j : Nat} {ta : TA} (h : WA K E ta ρ M (fun xs M1 => ∃ x y, xs = [x, y] ∧ WG K E (gName i) x ρ M1 (fun ρ2 M2 => WG K E (gName j) y ρ2 M2 N Ψ) Ψ) Ψ) : WS K E (tPar i j ta) ρ M ⟨N, R, B, C⟩ Ψ :=
  fun σ F H Mf e a s k q => h σ F H Mf _ a s k fun vs xs F1 H1 M1 ⟨x, y, ex, h1⟩ r1 s1 c1 => by
    subst ex
    cases r1 with
    | cons r r1 => cases r1 with
      | cons r2 r1 =>
        cases r1
        exact ⟨_, _, rfl, h1 σ F1 H1 Mf _ (fun σ2 H2 => e.nx (σ2.set j (some _)) H2) r (a.mono s1) c1 (k.mono s1) fun σ2 ρ2 F2 H2 M2 h2 a2 s2 c2 => h2 σ2 F2 H2 Mf _ _ (r2.mono s2) a2 c2 (k.mono (s1.trans s2)) fun σ3 ρ3 F3 H3 M3 h3 a3 s3 c3 => q.nx σ3 ρ3 F3 H3 M3 h3 a3 ((s1.trans s2).trans s3) c3⟩
theorem S.for_ {wi : TI} {g : TG} {tb : TS} (h : WI K E wi ρ M (fun s M1 => ∃ I : Nat → Env3 → Mem → Prop, I 0 ρ M1 ∧ (∀ i ρ' M', i ≤ s.its.length → I i ρ' M' → s.need M') ∧
    (∀ i x ρ' M', s.its[i]? = some x → I i ρ' M' → WG K E g x ρ' M' (fun ρ2 M2 => WS K E tb ρ2 M2 ⟨I (i + 1), R, N, I (i + 1)⟩ Ψ) Ψ) ∧ ∀ ρ' M', I s.its.length ρ' M' → N ρ' M') Ψ) : WS K E (tFor wi g tb) ρ M ⟨N, R, B, C⟩ Ψ := WS.for_ h
theorem S.while_ {c : TT} {tb : TS} (I : Nat → Env3 → Mem → Prop) (m0 : Nat) (h0 : I m0 ρ M) (hs : ∀ m ρ' M', I m ρ' M' → WT K E c ρ' M' (fun b M1 => (b = true → WS K E tb ρ' M1 ⟨fun ρ2 M2 => ∃ m', m' < m ∧ I m' ρ2 M2, R, N, fun ρ2 M2 => ∃ m', m' < m ∧ I m' ρ2 M2⟩ Ψ) ∧ (b = false → N ρ' M1)) Ψ) :
    WS K E (tWhile c tb) ρ M ⟨N, R, B, C⟩ Ψ := WS.while_ I m0 h0 hs
theorem G.name {i : Nat} {x : D} {ρ' : Env3} {Θ : Env3 → Mem → Prop} (e : ρ.set i (some x) = ρ') (h : Θ ρ' M) : WG K E (gName i) x ρ M Θ Ψ := WG.name (e ▸ h)
/-- what passes a def's frame -/
theorem pass_of {P : Program} {w : World} {mg : Str → Option Value} {base : Heap} {N : List Str} {qual : Str} {scope : Scope} {f : Addr} {cdv : Value} {A : Around} {outer : List Env} {s : Shared} {H : Hp} {E : XK} {σ : L2.St} :
    PassesAt (L2.CX P w) (cxOf (L2.CX P w) P w K mg base N qual scope f cdv A outer s H E) σ (WE (fun cls d _ H => E cls d H) σ) := passAt (takes_of rfl rfl rfl rfl) σ
theorem own_of {P : Program} {w : World} {mg : Str → Option Value} {base : Heap} {N : List Str} {qual : Str} {scope : Scope} {f : Addr} {cdv : Value} {A : Around} {outer : List Env} {s : Shared} {H : Hp} {E : XK} :
    PassesOwn (model P w) (cxOf (L2.CX P w) P w K mg base N qual scope f cdv A outer s H E).A (cxOf (L2.CX P w) P w K mg base N qual scope f cdv A outer s H E).env (cxOf (L2.CX P w) P w K mg base N qual scope f cdv A outer s H E).xe := passes_of (K := fun e s'' => L2.CX P w outer H s E e s'') rfl
theorem pass_blk {X : Cx} {σ : L2.St} : PassesAt (L2.CX X.prog X.w) X σ (WE E0 σ) := passAt takes0 σ
end
section
variable {X : Cx}
theorem q_lstO {es : List Expr} {t : TA} {pos : Pos} (h : PA X es t) : PE X (.List es pos) (tLstO t) := pe_lst h
theorem q_lcO {e : Expr} {wi : TI} {g : TG} {tt : TT} {te : TE} {vs : List Nat} (h : PE X e (tLc wi g tt te vs)) : PE X e (tLcO wi g tt te vs) := h
theorem q_setO {st : Stmt} {wi : TI} {g : TG} {tt : TT} {te : TE} {vs : List Nat} {i : Nat} (h : PS X st (tAsg (tLc wi g tt te vs) (gName i))) : PS X st (tAsg (tLcO wi g tt te vs) (gName i)) := h
end
theorem b_len : bootBuiltins "len" = some (.builtin "len") := by first | exact PySem.boot_len | exact PyProof.Rows.boot_len | decide +kernel
theorem b_abs : bootBuiltins "abs" = some (.builtin "abs") := by first | exact PySem.boot_abs | exact PyProof.Rows.boot_abs | decide +kernel
theorem b_max : bootBuiltins "max" = some (.builtin "max") := by first | exact PySem.boot_max | exact PyProof.Rows.boot_max | decide +kernel
theorem b_min : bootBuiltins "min" = some (.builtin "min") := by first | exact PySem.boot_min | exact PyProof.Rows.boot_min | decide +kernel
theorem b_sorted : bootBuiltins "sorted" = some (.builtin "sorted") := by first | exact PySem.boot_sorted | exact PyProof.Rows.boot_sorted | decide +kernel
theorem b_sum : bootBuiltins "sum" = some (.builtin "sum") := by first | exact PySem.boot_sum | exact PyProof.Rows.boot_sum | decide +kernel
theorem b_any : bootBuiltins "any" = some (.builtin "any") := by first | exact PySem.boot_any | exact PyProof.Rows.boot_any | decide +kernel
theorem b_all : bootBuiltins "all" = some (.builtin "all") := by first | exact PySem.boot_all | exact PyProof.Rows.boot_all | decide +kernel
theorem b_isinstance : bootBuiltins "isinstance" = some (.builtin "isinstance") := by first | exact PySem.boot_isinstance | exact PyProof.Rows.boot_isinstance | decide +kernel
theorem b_repr : bootBuiltins "repr" = some (.builtin "repr") := by first | exact PySem.boot_repr | exact PyProof.Rows.boot_repr | decide +kernel
theorem b_ord : bootBuiltins "ord" = some (.builtin "ord") := by first | exact PySem.boot_ord | exact PyProof.Rows.boot_ord | decide +kernel
theorem b_list : bootBuiltins "list" = some (.type "list") := by first | exact PySem.boot_list | exact PyProof.Rows.boot_list | decide +kernel
theorem b_tuple : bootBuiltins "tuple" = some (.type "tuple") := by first | exact PySem.boot_tuple | exact PyProof.Rows.boot_tuple | decide +kernel
theorem b_int : bootBuiltins "int" = some (.type "int") := by first | exact PySem.boot_int | exact PyProof.Rows.boot_int | decide +kernel
theorem b_bool : bootBuiltins "bool" = some (.type "bool") := by first | exact PySem.boot_bool | exact PyProof.Rows.boot_bool | decide +kernel
theorem b_str : bootBuiltins "str" = some (.type "str") := by first | exact PySem.boot_str | exact PyProof.Rows.boot_str | decide +kernel
theorem b_dict : bootBuiltins "dict" = some (.type "dict") := by first | exact PySem.boot_dict | exact PyProof.Rows.boot_dict | decide +kernel
/-! ### the law's def -/
def spLaw : SpD := fun xs M Φ _ => ∃ ns, xs = [.scr ns] ∧ M = [] ∧ ns.length ≤ 63 ∧ (∀ z ∈ ns, Builtin.Int.intBits z ≤ 1048576) ∧ ∀ M', Φ (.bl true) M'
def noTab (H : Hp) : Hp := fun b => match H b with
  | some (.tbl _) => none
  | o => o
theorem noTab_of {H : Hp} {b : Addr} {o : HO} (e : H b = some o) (n : ∀ ps, o ≠ .tbl ps) : noTab H b = some o := by
  unfold noTab
  rw [e]
  cases o <;> first | rfl | exact absurd rfl (n _)
theorem noTab_to {H : Hp} : Same (noTab H) H := fun b o e => by
  unfold noTab at e
  split at e
  · cases e
  · exact e
theorem noTab_no {H : Hp} : ∀ p ps, noTab H p ≠ some (.tbl ps) := fun p ps e => by
  unfold noTab at e
  split at e
  · cases e
  · rename_i h
    exact h ps e
theorem noTab_sq {K : PySem.W.Frag} {H : Hp} {a : Addr} {xs : List V} (h : SqL K H a xs) : SqL K (noTab H) a xs := by
  rcases h with h | h
  · refine .inl ?_
    rcases h with h | ⟨o, h⟩
    · exact .inl (noTab_of h fun _ z => by cases z)
    · exact .inr ⟨o, noTab_of h fun _ z => by cases z⟩
  · exact .inr h
theorem law_start {K : PySem.W.Frag} {H : Hp} {a : Addr} {ns : List Int} (hl : ns.length ≤ 63) (hb : ∀ z ∈ ns, Builtin.Int.intBits z ≤ 1048576) (hS : SqL K H a (ns.map V.int)) : lift K spLaw [.ref a] H (fun v _ => v = .bl true) fun _ _ _ => False :=
  ⟨[.scr ns], noTab H, [], [], fun x _ => x = .bl true, fun _ _ => False, .cons (.scr (noTab_sq hS)) .nil, ⟨noTab_to, (fun _ _ m => by cases m), List.nodup_nil, noTab_no⟩, ⟨ns, rfl, rfl, hl, hb, fun _ => rfl⟩, fun v x F' H' M' e r _ _ => by subst e; cases r; rfl, fun _ _ _ _ _ _ p => p.elim⟩
theorem cx_none {P : Program} {w : World} {H : Hp} {s : Shared} {e : Value} {s' : Shared} (z : L2.CX P w [] H s (fun _ _ _ => False) e s') : False := by
  obtain ⟨_, _, _, _, _, _, _, _, _, _, _, _, z⟩ := z
  exact z
/-! ### sizes -/
theorem cdivw {i j : Int} (h0 : 0 < j) (h : j < 2 ^ 2000) : CDivW i j := wide_div h0 (b := 2000) (by omega) (by decide) (by decide)
theorem cmulw {i j : Int} (a b : Nat) (ha : i.natAbs < 2 ^ a) (hb : j.natAbs < 2 ^ b) (h0 : 0 < a := by decide) (h1 : 0 < b := by decide) (h : a + b ≤ 1000000 := by decide) : CMulW i j := wide_mul ha hb h0 h1 h
theorem line_of {n : Nat} (h : n ≤ 100000) : n ≤ sizeLine := Nat.le_trans h (by decide)
theorem line_lt {n : Nat} (h : n < 100000) : n < sizeLine := Nat.lt_of_lt_of_le h (by decide)
end L3
namespace L3
open PySem PySem.Spec L2
theorem lenOk {xs : List D} {P : Prop} (h : xs.length ≤ 1000) (p : P) : xs.length ≤ sizeLine ∧ P := ⟨line_of (Nat.le_trans h (by decide)), p⟩
theorem bl_intro {b : Bool} {Θ : Bool → Prop} (h : Θ b) : ∃ c, D.bl b = .bl c ∧ Θ c := ⟨b, rfl, h⟩
theorem two {p A B : Prop} [Decidable p] (h1 : p → A) (h2 : ¬ p → B) : (decide p = true → A) ∧ (decide p = false → B) := ⟨fun h => h1 (of_decide_eq_true h), fun h => h2 (of_decide_eq_false h)⟩
theorem twoN {p A B : Prop} [Decidable p] (h1 : ¬ p → A) (h2 : p → B) : ((!decide p) = true → A) ∧ ((!decide p) = false → B) := ⟨fun h => h1 (of_decide_eq_false (by simpa using h)), fun h => h2 (of_decide_eq_true (by simpa using h))⟩
theorem getD3_pos {k : Key} {v : D} {r : List (Key × D)} : getD3 ((k, v) :: r) k = some v := by simp [getD3]
theorem getD3_neg {a k : Key} {v : D} {r : List (Key × D)} (h : a ≠ k) : getD3 ((a, v) :: r) k = getD3 r k := by simp [getD3, h]
theorem putD3_pos {k : Key} {v z : D} {r : List (Key × D)} (h : ∀ p ∈ r, p.1 ≠ k) : putD3 ((k, v) :: r) k z = (k, z) :: r := by
  unfold putD3
  rw [if_pos (by simp)]
  rw [List.map_cons, if_pos rfl]
  congr 1
  rw [List.map_congr_left (g := id)]
  · simp
  · intro p hp
    rw [if_neg (h p hp)]
    rfl
theorem putD3_neg {a k : Key} {v z : D} {r : List (Key × D)} (h : a ≠ k) : putD3 ((a, v) :: r) k z = (a, v) :: putD3 r k z := by
  unfold putD3
  rw [List.any_cons, decide_eq_false h, Bool.false_or]
  split
  · rw [List.map_cons, if_neg h]
  · rfl
theorem putD3_nil {k : Key} {z : D} : putD3 [] k z = [(k, z)] := rfl
end L3
namespace L3
open PySem PySem.Spec L2
theorem WS.env {K : PySem.W.Frag} {E : WX} {Ψ : PX} {ρ ρ' : Env3} {M : Mem} {t : TS} {d : DD} (e : ρ = ρ') (h : WS K E t ρ' M d Ψ) : WS K E t ρ M d Ψ := e ▸ h
theorem W.env {K : PySem.W.Frag} {E : WX} {Ψ : PX} {ρ ρ' : Env3} {M : Mem} {t : TE} {Φ : D → Mem → Prop} (e : ρ = ρ') (h : W K E t ρ' M Φ Ψ) : W K E t ρ M Φ Ψ := e ▸ h
end L3
namespace L3
open PySem PySem.Spec L2
section
variable {K : PySem.W.Frag} {E : WX} {Ψ : PX} {ρ : Env3} {M : Mem} {N B C : Env3 → Mem → Prop} {R : D → Mem → Prop}
/-- what holds between two statements -/
theorem S.cut {t u : TS} (P : Env3 → Mem → Prop) (h : WS K E t ρ M ⟨P, R, B, C⟩ Ψ) (h2 : ∀ ρ' M', P ρ' M' → WS K E u ρ' M' ⟨N, R, B, C⟩ Ψ) : WS K E (tSeq t u) ρ M ⟨N, R, B, C⟩ Ψ :=
  S.seq (WS.mono h h2 (fun _ _ h => h) (fun _ _ h => h) (fun _ _ h => h))
theorem S.iteP {c : TT} {t u : TS} (P : Bool → Mem → Prop) (h : WT K E c ρ M P Ψ) (h1 : ∀ M1, P true M1 → WS K E t ρ M1 ⟨N, R, B, C⟩ Ψ) (h2 : ∀ M1, P false M1 → WS K E u ρ M1 ⟨N, R, B, C⟩ Ψ) : WS K E (tIfS c t u) ρ M ⟨N, R, B, C⟩ Ψ :=
  S.ite (WT.mono h fun b M1 p => ⟨fun e => h1 M1 (e ▸ p), fun e => h2 M1 (e ▸ p)⟩)
theorem W.cut {t : TE} {Φ : D → Mem → Prop} (P : D → Mem → Prop) (h : W K E t ρ M P Ψ) (h2 : ∀ x M1, P x M1 → Φ x M1) : W K E t ρ M Φ Ψ := W.mono h h2
end
end L3
namespace L3
open PySem PySem.Spec L2
section
variable {K : PySem.W.Frag} {E : WX} {Ψ : PX} {ρ : Env3} {M : Mem} {Φ : D → Mem → Prop}
theorem Sp.perm {p : Addr} {o : O} {M : Mem} {f : O → Mem} (h : Sp p o M f) : ∃ R, M.Perm ((p, o) :: R) ∧ ∀ u, (f u).Perm ((p, u) :: R) := by
  obtain ⟨A, B, rfl, rfl⟩ := h.split
  exact ⟨A ++ B, List.perm_middle, fun u => List.perm_middle⟩
/-- a call that needs one cell -/
theorem W.call1 {sp : SpD} {t : TA} (h : WA K E t ρ M (fun xs M1 => ∃ p o f, Sp p o M1 f ∧ sp xs [(p, o)] (fun x M' => ∃ o', M' = [(p, o')] ∧ Φ x (f o')) (fun x M' => ∃ o', M' = [(p, o')] ∧ Ψ x ρ (f o'))) Ψ) : W K E (tCallSD (lift K sp) [] (WE E) t) ρ M Φ Ψ := fun σ F H Mf Q e s k q =>
  h σ F H Mf _ e s k fun vs xs F1 H1 M1 ⟨p, o, f, hm, hs⟩ r1 s1 c1 => by
    obtain ⟨R, h1, h2⟩ := hm.perm
    rw [List.append_nil]
    exact ⟨xs, F1, [(p, o)], R ++ Mf, _, _, r1, c1.perm (perm_fr h1), hs, fun v x F2 H2 M2 ⟨o', e2, g2⟩ r2 s2 c2 => q v x F2 H2 (f o') g2 r2 (s1.trans s2) (by subst e2; exact c2.perm (perm_fr (h2 o')).symm),
      fun x M2 F2 H2 cls d ⟨o', e2, g2⟩ s2 c2 er => k x ρ (f o') F2 H2 σ cls d g2 (e.mono (s1.trans s2)) (s1.trans s2) (by subst e2; exact c2.perm (perm_fr (h2 o')).symm) er⟩
end
end L3
namespace L3
open PySem PySem.Spec L2
section
variable {K : PySem.W.Frag} {E : WX} {Ψ : PX} {ρ : Env3} {M : Mem} {N B C : Env3 → Mem → Prop} {R : D → Mem → Prop} {Φ : D → Mem → Prop}
theorem S.to {t : TS} (P : Env3 → Mem → Prop) (h : WS K E t ρ M ⟨P, R, B, C⟩ Ψ) (h2 : ∀ ρ' M', P ρ' M' → N ρ' M') : WS K E t ρ M ⟨N, R, B, C⟩ Ψ :=
  WS.mono h h2 (fun _ _ h => h) (fun _ _ h => h) (fun _ _ h => h)
/-- xs.append(e), xs a cell of ours -/
theorem W.app {to : TE} {ta : TA} {p : Addr} {xs : List D} {f : O → Mem} (h1 : W K E to ρ M (fun x M1 => x = .ref p ∧ M1 = M) Ψ) (hm : Sp p (O.lst xs) M f) (hl : xs.length < 100000) (h2 : WA K E ta ρ M (fun ys M2 => ∃ y xs' f', ys = [y] ∧ Sp p (O.lst xs') M2 f' ∧ xs'.length < 100000 ∧ Φ .non (f' (.lst (xs' ++ [y])))) Ψ) : W K E (tBM K "list" mAppend to ta) ρ M Φ Ψ :=
  W.bm (W.mono h1 fun x M1 ⟨e1, e2⟩ => by
    subst e1
    subst e2
    exact ⟨.own hm.mem, fun σ F H Mf Q a s k q => h2 σ F H Mf Q a s k fun vs ys F' H' M' ⟨y, xs', f', ey, hm', hl', hp⟩ => q vs ys F' H' M' (by subst ey; exact MtD.append hm' (line_lt hl') hp)⟩)
end
end L3
namespace L3
open PySem PySem.Spec L2
section
variable {K : PySem.W.Frag} {E : WX} {Ψ : PX} {ρ : Env3} {M : Mem} {N B C : Env3 → Mem → Prop} {R : D → Mem → Prop} {Φ : D → Mem → Prop}
/-- no cell is needed any more -/
theorem S.clear {t : TS} (h : WS K E t ρ [] ⟨N, R, B, C⟩ Ψ) : WS K E t ρ M ⟨N, R, B, C⟩ Ψ := by
  have := WS.forget (A := M) (M := []) h
  rw [List.append_nil] at this
  exact this
theorem S.drop1 {t : TS} {c : Addr × O} (h : WS K E t ρ M ⟨N, R, B, C⟩ Ψ) : WS K E t ρ (c :: M) ⟨N, R, B, C⟩ Ψ := WS.forget (A := [c]) h
theorem paired_one {α β : Type} {R : α → β → Prop} {xs : List α} {ys : List β} (h : Paired R xs ys) (hl : xs.length = 1) : ∃ x y, xs = [x] ∧ ys = [y] ∧ R x y := by
  cases h with
  | nil => simp at hl
  | cons r t =>
    cases t with
    | nil => exact ⟨_, _, rfl, rfl, r⟩
    | cons _ _ => simp at hl
theorem Paired.app {α β : Type} {R : α → β → Prop} : ∀ {xs zs : List α} {ys ws : List β}, Paired R xs ys → Paired R zs ws → Paired R (xs ++ zs) (ys ++ ws)
  | _, _, _, _, .nil, h => h
  | _, _, _, _, .cons r t, h => .cons r (Paired.app t h)
theorem Paired.at {α β : Type} {R : α → β → Prop} : ∀ {xs : List α} {ys : List β} {i : Nat} {y : β}, Paired R xs ys → ys[i]? = some y → ∃ x, xs[i]? = some x ∧ R x y
  | _, _, _, _, .nil, h => by simp at h
  | _, _, 0, _, .cons r _, h => by simp at h; subst h; exact ⟨_, rfl, r⟩
  | _, _, i + 1, y, .cons _ t, h => Paired.at (i := i) t (by simpa using h)
theorem Paired.atL {α β : Type} {R : α → β → Prop} : ∀ {xs : List α} {ys : List β} {i : Nat} {x : α}, Paired R xs ys → xs[i]? = some x → ∃ y, ys[i]? = some y ∧ R x y
  | _, _, _, _, .nil, h => by simp at h
  | _, _, 0, _, .cons r _, h => by simp at h; subst h; exact ⟨_, rfl, r⟩
  | _, _, i + 1, y, .cons _ t, h => Paired.atL (i := i) t (by simpa using h)
theorem Paired.rep {α β : Type} {R : α → β → Prop} {x : α} {y : β} (r : R x y) : ∀ n : Nat, Paired R (List.replicate n x) (List.replicate n y)
  | 0 => .nil
  | n + 1 => .cons r (Paired.rep r n)
end
end L3
namespace L3
open PySem PySem.Spec L2
theorem tyOwn {M : Mem} {p : Addr} {xs : List D} {P : Prop} (h : (p, O.lst xs) ∈ M) (q : P) : TyM M "list" (.ref p) ∧ P := ⟨.own h, q⟩
end L3
namespace L3
open PySem PySem.Spec L2
section
variable {K : PySem.W.Frag} {E : WX} {Ψ : PX} {ρ : Env3} {M : Mem} {Φ : D → Mem → Prop}
theorem WT.yes' {t : TT} {Θ : Bool → Mem → Prop} (h : Θ true M) : WT K E tYes ρ M Θ Ψ := WT.yes h
/-- [e for x in xs], any items: each is as Py says, the cells stay as Iv says -/
theorem W.lcN {wi : TI} {g : TG} {te : TE} {vs : List Nat} (hg : GOnly g vs) (h : WI K E wi ρ M (fun s M1 => ∃ (Iv : Mem → Prop) (Py : Nat → D → Prop), s.its.length < 100000 ∧ Iv M1 ∧ (∀ M', Iv M' → s.need M') ∧
    (∀ (i : Nat) (x : D) (M' : Mem), s.its[i]? = some x → Iv M' → WG K E0 g x (wipeD ρ vs) M' (fun ρ2 M2 => W K E0 te ρ2 M2 (fun y M3 => Py i y ∧ Iv M3) P0) P0) ∧
    ∀ acc M', Iv M' → acc.length = s.its.length → (∀ (i : Nat) y, acc[i]? = some y → Py i y) → Φ (.lst acc) M') Ψ) : W K E (tLc wi g tYes te vs) ρ M Φ Ψ := by
  refine W.lc hg fun σ F H Mf R a s k q => h σ F H Mf R a s k fun sr F' H' M' J ⟨Iv, Py, hl, h0, hn, ht, he⟩ s' c' jr => q sr F' H' M' J ?_ s' c' jr
  refine ⟨fun i acc M' => Iv M' ∧ acc.length = i ∧ ∀ (i : Nat) y, acc[i]? = some y → Py i y, ⟨h0, rfl, fun i y h => by simp at h⟩, fun i acc M' _ ⟨h1, _⟩ => hn M' h1, fun i x acc M' hx ⟨h1, h2, h3⟩ => ⟨line_lt ?_, ?_⟩, fun acc M' ⟨h1, h2, h3⟩ => he acc M' h1 h2 h3⟩
  · have := (List.getElem?_eq_some_iff.mp hx).1
    omega
  · intro σ F H Mf v Q r a s k q
    refine ht i x M' hx h1 σ F H Mf v Q r a s k fun σ' ρ' F' H' M2 hw => q σ' ρ' F' H' M2 (WT.yes ⟨fun _ => W.mono hw ?_, fun z => Bool.noConfusion z⟩)
    rintro y M3 ⟨hy, hI⟩
    refine ⟨hI, by rw [List.length_append, h2]; rfl, fun j z hz => ?_⟩
    by_cases hj : j < acc.length
    · rw [List.getElem?_append_left hj] at hz
      exact h3 j z hz
    · rw [List.getElem?_append_right (by omega)] at hz
      have hj2 : j - acc.length = 0 := by
        have := (List.getElem?_eq_some_iff.mp hz).1
        simp at this
        exact this
      rw [hj2] at hz
      cases hz
      have : j = i := by omega
      subst this
      exact hy
/-- [e for x in xs], told item by item; the cells stay -/
theorem W.lcL {wi : TI} {g : TG} {te : TE} {vs : List Nat} (hg : GOnly g vs) (h : WI K E wi ρ M (fun s M1 => ∃ ds : List D, s.its.length < 100000 ∧ ds.length = s.its.length ∧ s.need M1 ∧
    (∀ (i : Nat) (x y0 : D), s.its[i]? = some x → ds[i]? = some y0 → WG K E0 g x (wipeD ρ vs) M1 (fun ρ2 M2 => W K E0 te ρ2 M2 (fun y M3 => y = y0 ∧ M3 = M1) P0) P0) ∧ Φ (.lst ds) M1) Ψ) : W K E (tLc wi g tYes te vs) ρ M Φ Ψ := by
  refine W.lcN hg fun σ F H Mf R a s k q => h σ F H Mf R a s k fun sr F' H' M' J ⟨ds, hl, hd, hn, ht, he⟩ s' c' jr => q sr F' H' M' J ?_ s' c' jr
  refine ⟨fun M2 => M2 = M', fun i y => ds[i]? = some y, hl, rfl, fun M2 e => e ▸ hn, fun i x M2 hx e => ?_, fun acc M2 e ha hp => ?_⟩
  · subst e
    have hi : i < ds.length := by
      have := (List.getElem?_eq_some_iff.mp hx).1
      omega
    intro σ F H Mf v Q r a s k q
    refine ht i x ds[i] hx (List.getElem?_eq_getElem hi) σ F H Mf v Q r a s k fun σ' ρ' F' H' M2 hw => q σ' ρ' F' H' M2 (W.mono hw ?_)
    rintro y M3 ⟨rfl, rfl⟩
    exact ⟨List.getElem?_eq_getElem hi, rfl⟩
  · subst e
    have e2 : acc = ds := by
      apply List.ext_getElem?
      intro i
      by_cases hi : i < acc.length
      · rw [List.getElem?_eq_getElem hi]
        exact (hp i _ (List.getElem?_eq_getElem hi)).symm
      · rw [List.getElem?_eq_none (by omega), List.getElem?_eq_none (by omega)]
    rw [e2]
    exact he
end
end L3
namespace L3
open PySem PySem.Spec L2
theorem Seq.more {M : Mem} {x : D} {xs : List D} {c : Addr × O} (h : Seq M x xs) : Seq (c :: M) x xs := by
  cases h with
  | lst => exact .lst _
  | tup => exact .tup _
  | scr => exact .scr _
  | ownX h => exact .ownX (by rw [exM_cons]; exact List.mem_append_right _ h)
theorem cutD_to {xs : List D} {n : Nat} (h : n ≤ xs.length) : cutD xs none (some (n : Int)) = xs.take n := by
  unfold cutD
  rw [HT.sIx_none, HT.sIx_nat, Nat.min_eq_left h, List.drop_zero, Nat.sub_zero]
end L3

namespace L3
open PySem PySem.Spec L2
section
variable {K : PySem.W.Frag} {E : WX} {Ψ : PX} {ρ : Env3} {M : Mem} {Φ : D → Mem → Prop}
/-- a call that needs cells; the order of the cells is nothing, before and after -/
theorem W.callM {sp : SpD} {t : TA} (h : WA K E t ρ M (fun xs M1 => ∃ Mc Mr, M1.Perm (Mc ++ Mr) ∧ sp xs Mc (fun x Mc' => ∃ M2, (Mc' ++ Mr).Perm M2 ∧ Φ x M2) (fun x Mc' => ∃ M2, (Mc' ++ Mr).Perm M2 ∧ Ψ x ρ M2)) Ψ) : W K E (tCallSD (lift K sp) [] (WE E) t) ρ M Φ Ψ := fun σ F H Mf Q e s k q =>
  h σ F H Mf _ e s k fun vs xs F1 H1 M1 ⟨Mc, Mr, hp, hs⟩ r1 s1 c1 => by
    rw [List.append_nil]
    exact ⟨xs, F1, Mc, Mr ++ Mf, _, _, r1, c1.perm (perm_fr hp), hs, fun v x F2 H2 M2 ⟨M3, h3, h2⟩ r2 s2 c2 => q v x F2 H2 M3 h2 r2 (s1.trans s2) (c2.perm (by rw [← List.append_assoc]; exact h3.append_right Mf)),
      fun x M2 F2 H2 cls d ⟨M3, h3, h2⟩ s2 c2 er => k x ρ M3 F2 H2 σ cls d h2 (e.mono (s1.trans s2)) (s1.trans s2) (c2.perm (by rw [← List.append_assoc]; exact h3.append_right Mf)) er⟩
theorem Seq.perm {M M' : Mem} {x : D} {xs : List D} (hp : M.Perm M') (h : Seq M x xs) : Seq M' x xs := by
  cases h with
  | lst => exact .lst _
  | tup => exact .tup _
  | ownX h => exact .ownX ((exM_perm hp).mem_iff.mp h)
  | scr ns => exact .scr ns
end
theorem itT {A B : Prop} {b : Bool} (e : b = true) (h : A) : (b = true → A) ∧ (b = false → B) := ⟨fun _ => h, fun e2 => by rw [e] at e2; exact Bool.noConfusion e2⟩
theorem itF {A B : Prop} {b : Bool} (e : b = false) (h : B) : (b = true → A) ∧ (b = false → B) := ⟨fun e2 => by rw [e] at e2; exact Bool.noConfusion e2, fun _ => h⟩
end L3

namespace L3
open PySem PySem.Spec PyProof.Rows L2
section
variable {K : PySem.W.Frag} {E : WX} {Ψ : PX} {ρ : Env3} {M : Mem} {N B C : Env3 → Mem → Prop} {R : D → Mem → Prop} {Φ : D → Mem → Prop}
/-! ### three at once, three numbers of a range -/
theorem S.par3 {i j l : Nat} {ta : TA} (h : WA K E ta ρ M (fun xs M1 => ∃ x y z, xs = [x, y, z] ∧ WG K E (gName i) x ρ M1 (fun ρ2 M2 => WG K E (gName j) y ρ2 M2 (fun ρ3 M3 => WG K E (gName l) z ρ3 M3 N Ψ) Ψ) Ψ) Ψ) : WS K E (tPar3 i j l ta) ρ M ⟨N, R, B, C⟩ Ψ :=
  fun σ F H Mf e a s k q => h σ F H Mf _ a s k fun vs xs F1 H1 M1 ⟨x, y, z, ex, h1⟩ r1 s1 c1 => by
    subst ex
    cases r1 with
    | cons r r1 => cases r1 with
      | cons r2 r1 => cases r1 with
        | cons r3 r1 =>
          cases r1
          exact ⟨_, _, _, rfl, h1 σ F1 H1 Mf _ (fun σ2 H2 => e.nx ((σ2.set j (some _)).set l (some _)) H2) r (a.mono s1) c1 (k.mono s1) fun σ2 ρ2 F2 H2 M2 h2 a2 s2 c2 =>
            h2 σ2 F2 H2 Mf _ (fun σ3 H3 => e.nx (σ3.set l (some _)) H3) (r2.mono s2) a2 c2 (k.mono (s1.trans s2)) fun σ3 ρ3 F3 H3 M3 h3 a3 s3 c3 =>
              h3 σ3 F3 H3 Mf _ _ (r3.mono (s2.trans s3)) a3 c3 (k.mono ((s1.trans s2).trans s3)) fun σ4 ρ4 F4 H4 M4 h4 a4 s4 c4 => q.nx σ4 ρ4 F4 H4 M4 h4 a4 (((s1.trans s2).trans s3).trans s4) c4⟩
def ranc (lo c : Int) (n : Nat) : Src := ⟨(List.range n).map (fun (k : Nat) => D.int (lo + (k : Int) * c)), fun _ => True⟩
theorem ranc_len {lo c : Int} {n : Nat} : (ranc lo c n).its.length = n := by simp [ranc]
theorem ranc_get {lo c : Int} {n i : Nat} {x : D} (h : (ranc lo c n).its[i]? = some x) : i < n ∧ x = .int (lo + (i : Int) * c) := by
  have hi : i < (ranc lo c n).its.length := (List.getElem?_eq_some_iff.mp h).1
  rw [ranc_len] at hi
  refine ⟨hi, ?_⟩
  simp only [ranc, List.getElem?_map, Option.map_eq_some_iff] at h
  obtain ⟨j, hj, rfl⟩ := h
  rw [List.getElem?_range hi] at hj
  cases hj
  rfl
theorem jr_rangeC {F : Hp} {lo c : Int} {n : Nat} : JR K F (ranc lo c n) (Itc lo c n) := fun F' H M Mf e s _ => by
  refine ⟨fun i hi => (by rw [ranc_len] at hi; exact hi), fun i hi => (by rw [ranc_len] at hi; exact hi), fun i x v H' hx y => ?_⟩
  obtain ⟨rfl, rfl⟩ := y
  obtain ⟨_, rfl⟩ := ranc_get hx
  exact ⟨F', Same.refl _, s, .int _⟩
theorem WI.rng3 {ta : TA} {Θ : Src → Mem → Prop} (h : WA K E ta ρ M (fun xs M1 => ∃ (i j c : Int), ∃ n : Nat, xs = [.int i, .int j, .int c] ∧ RgC i j c n ∧ Θ (ranc i c n) M1) Ψ) : WI K E (iRng3 ta) ρ M Θ Ψ := fun σ F H Mf R e s k q =>
  h σ F H Mf _ e s k fun vs xs F1 H1 M1 ⟨i, j, c, n, ej, h1, h3⟩ r1 s1 c1 => by
    subst ej
    cases r1 with
    | cons r rr =>
      cases rr with
      | cons r2 rr =>
        cases rr with
        | cons r3 rr =>
          cases rr
          cases r
          cases r2
          cases r3
          exact ⟨i, j, c, n, rfl, h1, q _ F1 H1 M1 _ h3 s1 c1 jr_rangeC⟩
end
/-! ### xs[lo:hi:st] -/
def pickX {α : Type} (xs : List α) (lo hi st : Option Int) : List α :=
  (sliceRange (sliceBounds lo hi st xs.length).1 (sliceBounds lo hi st xs.length).2.1 (sliceBounds lo hi st xs.length).2.2).filterMap (fun (i : Nat) => xs[i]?)
theorem pick_vals {xs : List V} {its : List Value} (r : Vals xs its) : ∀ l : List Nat, Vals (l.filterMap (fun (i : Nat) => xs[i]?)) (l.filterMap (fun (i : Nat) => its[i]?))
  | [] => .nil
  | i :: l => by
    have e := r.length
    by_cases hi : i < xs.length
    · have h1 : xs[i]? = some xs[i] := List.getElem?_eq_getElem hi
      have h2 : its[i]? = some its[i] := List.getElem?_eq_getElem (by omega)
      rw [List.filterMap_cons, List.filterMap_cons, h1, h2]
      refine .cons ?_ (pick_vals r l)
      obtain ⟨u, hu, ru⟩ := Vals.get r h1
      rw [h2] at hu
      cases hu
      exact ru
    · have h1 : xs[i]? = none := List.getElem?_eq_none (by omega)
      have h2 : its[i]? = none := List.getElem?_eq_none (by omega)
      rw [List.filterMap_cons, List.filterMap_cons, h1, h2]
      exact pick_vals r l
theorem pick_rds {K : PySem.W.Frag} {F : Hp} {vs : List V} {xs : List D} (r : RDs K F vs xs) : ∀ l : List Nat, RDs K F (l.filterMap (fun (i : Nat) => vs[i]?)) (l.filterMap (fun (i : Nat) => xs[i]?))
  | [] => .nil
  | i :: l => by
    have e := r.len
    by_cases hi : i < xs.length
    · obtain ⟨u, hu, ru⟩ := r.get (List.getElem?_eq_getElem hi)
      rw [List.filterMap_cons, List.filterMap_cons, List.getElem?_eq_getElem hi, hu]
      exact .cons ru (pick_rds r l)
    · rw [List.filterMap_cons, List.filterMap_cons, List.getElem?_eq_none (by omega), List.getElem?_eq_none (by omega)]
      exact pick_rds r l
def tSlS (K : PySem.W.Frag) (te : TE) (tl th ts : TO) : TE := fun σ H Q => te σ H fun x H1 => tl σ H1 fun l H2 => th σ H2 fun u H3 => ts σ H3 fun o H4 =>
  ∃ a xs, x = .ref a ∧ SqL K H4 a xs ∧ o ≠ some 0 ∧ (pickX xs l u o).length ≤ sizeLine ∧ ∀ p, H4 p = none → Q (.ref p) (upd H4 p (.lst (pickX xs l u o)))
theorem pe_slS {X : Cx} {e : Expr} {te : TE} {lo hi : Option Expr} {sx : Expr} {tl th ts : TO} {pos p2 : Pos} (he : PE X e te) (hl : PO X lo tl) (hu : PO X hi th) (hst : PO X (some sx) ts) : PE X (.Subscript e (.Slice lo hi (some sx) p2) pos) (tSlS X.K te tl th ts) := by
  refine ⟨fun pins s σ H Q I h => ?_⟩
  refine Subscript_ (thn (he.run pins s σ H _ I h) fun v s1 ⟨x, H1, I1, r1, q1⟩ => ?_)
  refine wpAny_Slice (thn (hl.run pins s1 σ H1 _ I1 q1) fun vl s2 ⟨l, H2, I2, pl, q2⟩ => thn (hu.run pins s2 σ H2 _ I2 q2) fun vu s3 ⟨u, H3, I3, pu, q3⟩ => thn (hst.run pins s3 σ H3 _ I3 q3) fun vs s4 ⟨o, H4, I4, ps, q4⟩ => ?_)
  obtain ⟨a, xs, ex, hx, h0, hle, q⟩ := q4
  subst ex
  cases r1
  have I5 : Inv X pins σ H4 { s4 with heap := s4.heap.push { cls := .type "slice", data := .fields #[vl, vu, vs] } } := I4.kept (t' := s4.toks) fun b ob q => Heap.get?_push_of_some _ q
  obtain ⟨its, r, ht, hz⟩ := I5.list hx
  have hlen := r.length
  show wpAny (model X.prog X.w) X.A (subscriptTail e (.Slice lo hi (some sx) p2) (.ref a) (.ref s4.heap.objs.size)) (EP X pins σ Q) X.xe { s4 with heap := s4.heap.push { cls := .type "slice", data := .fields #[vl, vu, vs] } }
  refine tail_any (ops := [.ref a, .ref s4.heap.objs.size]) ht.isList.typeIs (PySem.slot_list_getitem.lookup) ?_ (by with_unfolding_all rfl)
  refine wpAny_getItem_list_slice ht.isList (Heap.IsSliceOf.new _ vl vu vs) pl pu ps h0 ?_ (by rw [List.size_toArray]; omega)
  have e1 : slicePick its.toArray l u o = (pickX its l u o).toArray := by
    unfold slicePick pickX
    rw [List.size_toArray]
    congr 1
    simp only [List.getElem?_toArray]
  have rp : Vals (pickX xs l u o) (pickX its l u o) := by
    unfold pickX
    rw [hlen]
    exact pick_vals r _
  refine ⟨.ref _, _, I5.laid (t' := s4.toks) (o := .lst (pickX xs l u o)) (fun b ob q => Heap.get?_push_of_some _ q) (Nat.le_refl _) ?_, rfl, q _ (I5.hok.fresh (Nat.le_refl _))⟩
  refine ⟨hle, _, 0, rp, ?_⟩
  rw [← e1]
  exact Heap.get?_push_size _ rfl
theorem q_slS (K : PySem.W.Frag) {X : Cx} {e : Expr} {te : TE} {lo hi : Option Expr} {sx : Expr} {tl th ts : TO} {pos p2 : Pos} (he : PE X e te) (hl : PO X lo tl) (hu : PO X hi th) (hst : PO X (some sx) ts) (eK : X.K = K := by rfl) : PE X (.Subscript e (.Slice lo hi (some sx) p2) pos) (tSlS K te tl th ts) := by
  subst eK
  exact pe_slS he hl hu hst
section
variable {K : PySem.W.Frag} {E : WX} {Ψ : PX} {ρ : Env3} {M : Mem} {N B C : Env3 → Mem → Prop} {R : D → Mem → Prop} {Φ : D → Mem → Prop}
theorem W.slS {te : TE} {tl th ts : TO} (h : W K E te ρ M (fun x M1 => WO K E tl ρ M1 (fun lo M2 => WO K E th ρ M2 (fun hi M3 => WO K E ts ρ M3 (fun st M4 => ∃ xs, Seq M4 x xs ∧ isL x = true ∧ st ≠ some 0 ∧ (pickX xs lo hi st).length ≤ sizeLine ∧ Φ (.lst (pickX xs lo hi st)) M4) Ψ) Ψ) Ψ) Ψ) : W K E (tSlS K te tl th ts) ρ M Φ Ψ := fun σ F H Mf Q a s k q =>
  h σ F H Mf _ a s k fun v x F1 H1 M1 h1 r1 s1 c1 => h1 σ F1 H1 Mf _ (a.mono s1) c1 (k.mono s1) fun lo F2 H2 M2 h2 s2 c2 => h2 σ F2 H2 Mf _ (a.mono (s1.trans s2)) c2 (k.mono (s1.trans s2)) fun hi F3 H3 M3 h3 s3 c3 =>
    h3 σ F3 H3 Mf _ (a.mono ((s1.trans s2).trans s3)) c3 (k.mono ((s1.trans s2).trans s3)) fun st F4 H4 M4 ⟨xs, hq, hb, h0, hl, h4⟩ s4 c4 => by
      obtain ⟨b, vs, rfl, hv, rs⟩ := hq.vL hb (r1.mono ((s2.trans s3).trans s4)) c4
      have rp : RDs K F4 (pickX vs lo hi st) (pickX xs lo hi st) := by
        unfold pickX
        rw [rs.len]
        exact pick_rds rs _
      refine ⟨b, vs, rfl, hv, h0, by rw [rp.len]; exact hl, fun p hp => ?_⟩
      exact q _ _ _ _ M4 h4 (.lst upd_same (rp.mono (c4.sameF hp))) ((((s1.trans s2).trans s3).trans s4).trans (c4.sameF hp)) (c4.newF hp)
end
/-! ### xs.extend(ys) -/
theorem list_ext_tup (l : Addr) (items : Array Value) (n : Nat) (b : Addr) (items2 : Array Value) (n2 : Nat) (dd : Option Addr) (sl : Array (Option Value)) (hs0 : ¬(!items.isEmpty && Builtin.List.listTooLong (items.size + items2.size)) = true) (hs1 : items.size ≤ sizeLine) (hs2 : items.size + items2.size ≤ sizeLine + 1) :
    Meets (Builtin.«list.extend» ⟨[.ref l, .ref b], []⟩) (fun _ R s => s.heap.get? l = some { cls := .type "list", dict := none, data := .seq items n, slots := #[] } ∧ s.heap.get? b = some { cls := .type "tuple", dict := dd, data := .seq items2 n2, slots := sl } ∧ R (.ok (.ret Value.none)) { s with heap := s.heap.update l (Obj.mapSeq fun x => x ++ items2), toks := s.toks }) :=
  .of_wp fun prog w A R s h => by
    obtain ⟨hp, g, d, tk, os⟩ := s
    obtain ⟨hl, hb, h⟩ := h
    have f1 := AutoSeq1.idx_int
    have f2 := AutoSeq1.sub_tuple_tuple
    have f3 := AutoSeq1.sub_list_list
    have f4 := AutoSeq1.sub_tuple_list
    have f5 := AutoSeq1.sub_list_tuple
    have hz' : (items ++ items2).size ≤ sizeLine + 1 := by rw [Array.size_append]; exact hs2
    wp_walk using (wpAny_updateSeq hl rfl (hz := hs1) (_hz' := hz')), AutoSeq1.wpAny_loadPart' hl, AutoSeq1.wpAny_loadPart' hb
    exact ⟨_, rfl, h⟩
def mExtS (K : PySem.W.Frag) : V → List V → Hp → VK → Prop := fun x vs H Q => ∃ l b xs zs, x = .ref l ∧ vs = [.ref b] ∧ H l = some (.lst xs) ∧ (H b = some (.lst zs) ∨ SqT K H b zs) ∧ xs.length + zs.length ≤ sizeLine ∧ Q .non (upd H l (.lst (xs ++ zs)))
theorem mt_extS {X : Cx} : MtR X "list.extend" (mExtS X.K) := by
  intro pins s σ H x vs v us Q I rx rv h
  obtain ⟨l, b, xs, zs, rfl, rfl, hH, hB, hz, q⟩ := h
  rcases hB with hB | hB
  · exact mt_extend pins s σ H (.ref l) [.ref b] v us Q I rx rv ⟨l, b, xs, zs, rfl, rfl, hH, hB, hz, q⟩
  cases rx
  obtain ⟨u, rfl, ru⟩ := rv.one
  cases ru
  obtain ⟨z, its, n, r, hl, e⟩ := I.lstM hH
  obtain ⟨its2, r2, ⟨o2, e2, hc2, n2, hd2⟩, hz2⟩ := I.tuple hB
  have hl2 := r2.length
  obtain ⟨c2, dd, da, sl⟩ := o2
  simp only at hc2 hd2
  subst hc2
  subst hd2
  have hsz : its.toArray.size + its2.toArray.size ≤ sizeLine := by rw [List.size_toArray, List.size_toArray]; omega
  have hlong : ¬ (!its.toArray.isEmpty && Builtin.List.listTooLong (its.toArray.size + its2.toArray.size)) = true := by
    rw [notLongL hsz, Bool.and_false]
    exact Bool.false_ne_true
  refine call_meets F.slot_list_extend ⟨_, e, rfl⟩ F.entry_list_extend (F.args_list_extend_2 _ _)
    (list_ext_tup l its.toArray n b its2.toArray n2 dd sl hlong (by rw [List.size_toArray]; omega) (by omega)) ⟨e, e2, ?_⟩
  refine ⟨.non, _, I.lset (its' := its ++ its2) hH e (by simp) (r.append r2) ?_, rfl, q⟩
  rw [List.length_append]
  omega
theorem q_extend (K : PySem.W.Frag) {X : Cx} (e : X.K = K := by rfl) : MtR X "list.extend" (mExtS K) := by subst e; exact mt_extS
section
variable {K : PySem.W.Frag} {E : WX} {Ψ : PX} {ρ : Env3} {M : Mem} {N B C : Env3 → Mem → Prop} {R : D → Mem → Prop} {Φ : D → Mem → Prop}
theorem MtD.ext {p : Addr} {xs ys : List D} {y : D} {f : O → Mem} (hm : Sp p (O.lst xs) M f) (hy : y = .lst ys ∨ y = .tup ys) (hl : xs.length + ys.length ≤ sizeLine) (h : Φ .non (f (.lst (xs ++ ys)))) : MtD K (mExtS K) (.ref p) [y] M Φ := fun F H Mf v vs Q r rs s k => by
  cases r
  cases rs with
  | cons ry rr =>
    cases rr
    obtain ⟨ws, e, rw'⟩ := own_lst s hm.mem
    rcases hy with rfl | rfl
    · cases ry with
      | lst e2 q2 => exact ⟨p, _, ws, _, rfl, rfl, e, .inl (s.sub _ _ e2), by rw [rw'.len, q2.len]; exact hl, k _ _ F _ _ h .non (Same.refl _) (hm.put s (show RO K F (.lst _) (.lst _) from rw'.app q2))⟩
    · cases ry with
      | tup e2 q2 => exact ⟨p, _, ws, _, rfl, rfl, e, .inr (sqt_mono s.sub e2), by rw [rw'.len, q2.len]; exact hl, k _ _ F _ _ h .non (Same.refl _) (hm.put s (show RO K F (.lst _) (.lst _) from rw'.app q2))⟩
end
end L3

namespace L3
open PySem PySem.Spec PyProof.Rows L2
/-! ### own errors without own making -/
/-- an own error class, as the top has it -/
structure Xf (K : PySem.W.Frag) (mg : Str → Option Value) (x : Str) where
  C : Addr
  g : mg x = some (.ref C)
  q : PySem.W.excIn K C [.type "ValueError", .type "Exception", .type "BaseException", .type "object"] "ValueError.__new__" = true
  kC : PySem.W.keepIn K (.ref C) = true
  b : PySem.W.subIn K (.ref C) (.type "BaseException") = some true
  t : PySem.W.typeIn K (.ref C) = some (.type "type")
/-- it is raised -/
def tRaise0 (C : Addr) (U : WX) : TS := fun _ σ H => U (.ref C) none σ H
theorem q_raise {X : Cx} {U : WX} {x m : Str} {j : Nat} {p p2 pos pos2 : Pos} (T : Xf X.K X.mg x) (hg : Gl X x) (tk : Takes X U) (hc : X.calm = true := by rfl) (hdb : (x == ("__debug__" : Str)) = false := by decide) :
    PS X (.Raise (some (.Call (.Name x p) [.Constant (.str m) j p2] [] pos)) none pos2) (tRaise0 T.C U) := ps_raise hc tk (pmk_own F.excBase_ValueError T.q T.g T.kC (raises_own T.b T.t) hg hdb)
/-- what leaves a def -/
theorem takes_def {P : Program} {w : World} {mg : Str → Option Value} {K : PySem.W.Frag} {base : Heap} {N : List Str} {qual : Str} {scope : Scope} {f : Addr} {cdv : Value} {A : Around} {outer : List Env} {s : Shared} {H : Hp} {E : XK} :
    Takes (cxOf (L2.CX P w) P w K mg base N qual scope f cdv A outer s H E) (fun cls d _ H => E cls d H) := takes_of rfl rfl rfl rfl
section
variable {K : PySem.W.Frag} {E : WX} {Ψ : PX} {ρ : Env3} {M : Mem} {N B C : Env3 → Mem → Prop} {R : D → Mem → Prop} {Φ : D → Mem → Prop}
theorem S.raise {A : Addr} (h : Ψ ⟨.ref A, none⟩ ρ M) : WS K E (tRaise0 A E) ρ M ⟨N, R, B, C⟩ Ψ := fun σ F H Mf e a s k q =>
  k _ ρ M F H σ _ _ h a (Same.refl _) s ⟨rfl, rfl⟩
end
/-! ### isinstance -/
/-- the name of a datum's type -/
def D.tn : D → Option String
  | .non => some "NoneType"
  | .bl _ => some "bool"
  | .int _ => some "int"
  | .str _ => some "str"
  | .lst _ => some "list"
  | .tup _ => some "tuple"
  | .dic _ => some "dict"
  | _ => none
/-- one of several types -/
def isAny (a : String) : List String → Option Bool
  | [] => some false
  | b :: r => match kitB a b with
    | some true => some true
    | some false => isAny a r
    | none => none
theorem kit_any {K : PySem.W.Frag} {a : String} : ∀ {ns : List String} {r : Bool}, isAny a ns = some r → PySem.W.kitAny K (.type a) (ns.map Value.type) = some r
  | [], r, h => by
    cases h
    exact kitAny_nil
  | b :: ns, r, h => by
    unfold isAny at h
    split at h
    · rename_i e
      cases h
      exact kitAny_cons (kit_ty e) (fun z => Bool.noConfusion z) fun _ => rfl
    · rename_i e
      exact kitAny_cons (kit_ty e) (fun _ => kit_any h) fun z => Bool.noConfusion z
    · cases h
/-- a row of the program that may be an own cell -/
def TnM (M : Mem) (x : D) (n : String) : Prop := x.tn = some n ∨ (n = "list" ∧ ∃ p xs, x = .ref p ∧ (p, O.lst xs) ∈ exM M)
section
variable {K : PySem.W.Frag} {E : WX} {Ψ : PX} {ρ : Env3} {M : Mem} {N B C : Env3 → Mem → Prop} {R : D → Mem → Prop} {Φ : D → Mem → Prop}
theorem tyx_of {F H : Hp} {Mf : Mem} {v : V} {x : D} {n : String} (t : TnM M x n) (r : RD K F v x) (s : StC K F H (M ++ Mf)) : TyX K H v (.type n) := by
  rcases t with t | ⟨rfl, p, xs, rfl, hm⟩
  · cases r with
    | non => cases t; exact .base .non
    | bl b => cases t; exact .base (.bl b)
    | int i => cases t; exact .base (.int i)
    | str z => cases t; exact .base (.str z)
    | lst e q => cases t; exact .base (.lst (s.sub _ _ e))
    | dic e q => cases t; exact .base (.dK (s.sub _ _ e))
    | tup e q =>
      cases t
      rcases sqt_mono s.sub e with h | ⟨o, its, m, hk, hc, _⟩
      · rcases h with h | ⟨o, h⟩
        · exact .base (.tup h)
        · exact .fTuple h
      · exact .kTuple hk hc
    | _ => cases t
  · cases r
    obtain ⟨vs, e, _⟩ := own_lstX s hm
    exact .base (.lst e)
def cIsi (K : PySem.W.Frag) : List V → Hp → VK → Prop := fun xs H Q => rIsi K xs H Q ∨ rIsiT K xs H Q
theorem q_isinstance (K : PySem.W.Frag) {X : Cx} (e : X.K = K := by rfl) : CallR X (.builtin "isinstance") (cIsi K) := by subst e; exact CallR.or call_isi call_isiT
theorem CbD.isi {x : D} {n m : String} {b : Bool} (t : TnM M x n) (e : kitB n m = some b) (h : Φ (.bl b) M) : CbD K (cIsi K) [x, .ty m] M Φ := fun F H Mf vs Q r s k => by
  cases r with
  | cons r1 r => cases r with
    | cons r2 r =>
      cases r
      cases r2
      exact .inl ⟨_, _, _, _, b, rfl, .ty m, tyx_of t r1 s, kit_ty e, k _ _ F H M h (.bl _) (Same.refl _) s⟩
theorem tys_of {F : Hp} : ∀ {vs : List V} {ns : List String}, RDs K F vs (ns.map D.ty) → Paired ClsV vs (ns.map Value.type)
  | _, [], r => by
    cases r
    exact .nil
  | _, n :: ns, r => by
    cases r with
    | cons r1 r2 =>
      cases r1
      exact .cons (.ty n) (tys_of r2)
/-- isinstance(x, (A, B, ..)) -/
theorem W.isT {te : TE} {ta : TA} (h : W K E te ρ M (fun x M1 => WA K E ta ρ M1 (fun cs M2 => cs.length ≤ sizeLine ∧ ∃ (ns : List String), ∃ n b, cs = ns.map D.ty ∧ TnM M2 x n ∧ isAny n ns = some b ∧ Φ (.bl b) M2) Ψ) Ψ) : W K E (tCB (cIsi K) (tCons te (tCons (tTup ta) tNil))) ρ M Φ Ψ := fun σ F H Mf Q a s k q =>
  h σ F H Mf _ a s k fun v x F1 H1 M1 h1 r1 s1 c1 => h1 σ F1 H1 Mf _ (a.mono s1) c1 (k.mono s1) fun vs cs F2 H2 M2 ⟨hl, ns, n, b, ec, ht, hb, hp⟩ r2 s2 c2 => by
    subst ec
    refine ⟨by rw [r2.len]; exact hl, fun p hp' => ?_⟩
    have c3 : StC K (upd F2 p (.tup vs)) (upd H2 p (.tup vs)) (M2 ++ Mf) := c2.newF hp'
    have e3 := c2.sameF (ho := .tup vs) hp'
    exact .inr ⟨v, p, vs, _, _, b, rfl, upd_same, tys_of r2, tyx_of ht ((r1.mono s2).mono e3) c3, kit_any hb, q _ _ _ _ M2 hp (.bl b) ((s1.trans s2).trans e3) c3⟩
end
end L3

namespace L3
open PySem PySem.Spec PyProof.Rows L2
section
variable {K : PySem.W.Frag} {E : WX} {Ψ : PX} {ρ : Env3} {M : Mem} {N B C : Env3 → Mem → Prop} {R : D → Mem → Prop} {Φ : D → Mem → Prop}
/-! ### [e for .. in .. for .. in ..] -/
theorem W.lc2Any {wi wi1 : TI} {g g1 : TG} {tt tt1 : TT} {te : TE} {vs vs1 : List Nat} {Q0 : List D → Mem → Prop} (hg : GOnly g vs) (hg1 : GOnly g1 vs1) (h : WI K E wi ρ M (fun s M1 => ∃ J : Nat → List D → Mem → Prop, J 0 [] M1 ∧ (∀ i acc M', i ≤ s.its.length → J i acc M' → s.need M') ∧
    (∀ i x acc M', s.its[i]? = some x → J i acc M' → WG K E0 g x (wipeD ρ vs) M' (fun ρ2 M2 => WT K E0 tt ρ2 M2 (fun b M3 => (b = true → WI K E0 wi1 ρ2 M3 (fun s1 M4 => ∃ J1 : Nat → List D → Mem → Prop, J1 0 acc M4 ∧ (∀ j ac M', j ≤ s1.its.length → J1 j ac M' → s1.need M') ∧
        (∀ j y ac M5, s1.its[j]? = some y → J1 j ac M5 → ac.length < sizeLine ∧ WG K E0 g1 y (wipeD ρ2 vs1) M5 (fun ρ3 M6 => WT K E0 tt1 ρ3 M6 (fun b M7 => (b = true → W K E0 te ρ3 M7 (fun z M8 => J1 (j + 1) (ac ++ [z]) M8) P0) ∧ (b = false → J1 (j + 1) ac M7)) P0) P0) ∧
        ∀ ac M5, J1 s1.its.length ac M5 → J (i + 1) ac M5) P0) ∧ (b = false → J (i + 1) acc M3)) P0) P0) ∧
    ∀ acc M', J s.its.length acc M' → Q0 acc M') Ψ) (fin : ∀ (σ : L2.St) (F H : Hp) (Mf : Mem) (Q : VK), (∀ v x F' H' M', Φ x M' → RD K F' v x → Same F F' → StC K F' H' (M' ++ Mf) → Q v H') → ∀ Dd acc M' F' H', Q0 acc M' → Same F F' → StC K F' H' (M' ++ (Dd, O.lst acc) :: Mf) → Q (.ref Dd) H') :
    W K E (tLc2 wi g tt wi1 g1 tt1 te vs vs1) ρ M Φ Ψ := fun σ F H Mf Q a s k q =>
  h σ F H Mf _ a s k fun src F1 H1 M1 J ⟨I, h0, hn, ht, he⟩ s1 c1 jr => by
    intro Dd hD
    refine ⟨fun i m H' => ∃ acc F' M', i ≤ src.its.length ∧ m = src.its.length - i ∧ I i acc M' ∧ Same F1 F' ∧ StC K F' H' (M' ++ (Dd, O.lst acc) :: Mf), ⟨_, [], F1, M1, Nat.zero_le _, rfl, h0, Same.refl _, (c1.newO (ho := .lst []) (o := .lst []) hD RDs.nil).perm List.perm_middle.symm⟩, ?_⟩
    rintro i m H' ⟨acc, F', M', hi, rfl, hI, s', c'⟩
    obtain ⟨jg, js, jy⟩ := jr F' H' M' _ s' c' (hn i acc M' hi hI)
    by_cases hlt : i < src.its.length
    · refine .inr ⟨jg i hlt, fun H2 => ∃ acc2 F2 M2, I (i + 1) acc2 M2 ∧ Same F1 F2 ∧ StC K F2 H2 (M2 ++ (Dd, O.lst acc2) :: Mf), fun H2 ⟨acc2, F2, M2, h1, h3, h4⟩ => ⟨src.its.length - (i + 1), by omega, acc2, F2, M2, hlt, rfl, h1, h3, h4⟩, fun v H2 y => ?_⟩
      have hx : src.its[i]? = some src.its[i] := List.getElem?_eq_getElem hlt
      obtain ⟨F2, e2, c2, r2⟩ := jy i _ v H2 hx y
      have hw := ht i _ acc M' hx hI
      have a2 : EnvR K F2 (wipe σ vs) (wipeD ρ vs) := (a.mono ((s1.trans s').trans e2)).wipe vs
      have hw2 := hg _ _ _ _ (hw (wipe σ vs) F2 H2 ((Dd, O.lst acc) :: Mf) v (fun σ3 H3 => tt σ3 H3 fun b H4 => if b = true then wi1 σ3 H4 fun J1 H4 => ∃ W1 : Nat → Nat → Hp → Prop, (∃ m, W1 0 m H4) ∧ ∀ j k H, W1 j k H →
          (J1.stop j H ∧ (∃ acc2 F2 M2, I (i + 1) acc2 M2 ∧ Same F1 F2 ∧ StC K F2 H (M2 ++ (Dd, O.lst acc2) :: Mf))) ∨ (J1.go j H ∧ ∃ Nx1 : Hp → Prop, (∀ H', Nx1 H' → ∃ k', k' < k ∧ W1 (j + 1) k' H') ∧ ∀ x H', J1.yld j H x H' → g1 x (wipe σ3 vs1) H' fun σ4 H5 => wipe σ4 vs1 = wipe σ3 vs1 ∧ tt1 σ4 H5 fun b H6 =>
            if b = true then te σ4 H6 fun y H7 => ∃ acc, H7 Dd = some (.lst acc) ∧ acc.length < sizeLine ∧ Nx1 (upd H7 Dd (.lst (acc ++ [y]))) else Nx1 H6)
          else (∃ acc2 F2 M2, I (i + 1) acc2 M2 ∧ Same F1 F2 ∧ StC K F2 H4 (M2 ++ (Dd, O.lst acc2) :: Mf))) r2 a2 c2 ek0 fun σ3 ρ3 F3 H3 M3 h3 a3 s3 c3 => ?_)
      · rw [wipe_wipe fun v hv => hv] at hw2
        exact hw2
      · have s13 : Same F1 F3 := (s'.trans e2).trans s3
        refine h3 σ3 F3 H3 ((Dd, O.lst acc) :: Mf) _ a3 c3 ek0 fun b F4 H4 M4 h4 s4 c4 => ?_
        cases b with
        | false => exact ⟨acc, F4, M4, h4.2 rfl, s13.trans s4, c4⟩
        | true =>
          refine h4.1 rfl σ3 F4 H4 ((Dd, O.lst acc) :: Mf) _ (a3.mono s4) c4 ek0 fun src1 F5 H5 M5 Jb ⟨I1, h50, hn1, ht1, he1⟩ s5 c5 jr1 => ?_
          refine ⟨fun j m H' => ∃ ac F' M', j ≤ src1.its.length ∧ m = src1.its.length - j ∧ I1 j ac M' ∧ Same F5 F' ∧ StC K F' H' (M' ++ (Dd, O.lst ac) :: Mf), ⟨_, acc, F5, M5, Nat.zero_le _, rfl, h50, Same.refl _, c5⟩, ?_⟩
          rintro j m H6 ⟨ac, F6, M6, hj, rfl, hI6, s6, c6⟩
          obtain ⟨jg1, js1, jy1⟩ := jr1 F6 H6 M6 _ s6 c6 (hn1 j ac M6 hj hI6)
          by_cases hlt1 : j < src1.its.length
          · refine .inr ⟨jg1 j hlt1, fun H2 => ∃ ac2 F2 M2, I1 (j + 1) ac2 M2 ∧ Same F5 F2 ∧ StC K F2 H2 (M2 ++ (Dd, O.lst ac2) :: Mf), fun H2 ⟨ac2, F2, M2, h1, h3, h4⟩ => ⟨src1.its.length - (j + 1), by omega, ac2, F2, M2, hlt1, rfl, h1, h3, h4⟩, fun v7 H7 y7 => ?_⟩
            have hx7 : src1.its[j]? = some src1.its[j] := List.getElem?_eq_getElem hlt1
            obtain ⟨F7, e7, c7, r7⟩ := jy1 j _ v7 H7 hx7 y7
            obtain ⟨hz, hw7⟩ := ht1 j _ ac M6 hx7 hI6
            have a7 : EnvR K F7 (wipe σ3 vs1) (wipeD ρ3 vs1) := (a3.mono (((s4.trans s5).trans s6).trans e7)).wipe vs1
            have hw8 := hg1 _ _ _ _ (hw7 (wipe σ3 vs1) F7 H7 ((Dd, O.lst ac) :: Mf) v7 (fun σ8 H8 => tt1 σ8 H8 fun b H9 => if b = true then te σ8 H9 fun y H10 => ∃ acc', H10 Dd = some (.lst acc') ∧ acc'.length < sizeLine ∧ (∃ ac2 F2 M2, I1 (j + 1) ac2 M2 ∧ Same F5 F2 ∧ StC K F2 (upd H10 Dd (.lst (acc' ++ [y]))) (M2 ++ (Dd, O.lst ac2) :: Mf)) else (∃ ac2 F2 M2, I1 (j + 1) ac2 M2 ∧ Same F5 F2 ∧ StC K F2 H9 (M2 ++ (Dd, O.lst ac2) :: Mf))) r7 a7 c7 ek0 fun σ8 ρ8 F8 H8 M8 h8 a8 s8 c8 => ?_)
            · rw [wipe_wipe fun v hv => hv] at hw8
              exact hw8
            · have s58 : Same F5 F8 := (s6.trans e7).trans s8
              refine h8 σ8 F8 H8 ((Dd, O.lst ac) :: Mf) _ a8 c8 ek0 fun b F9 H9 M9 h9 s9 c9 => ?_
              cases b with
              | false => exact ⟨ac, F9, M9, h9.2 rfl, s58.trans s9, c9⟩
              | true =>
                refine h9.1 rfl σ8 F9 H9 ((Dd, O.lst ac) :: Mf) _ (a8.mono s9) c9 ek0 fun vv xx Fx Hx Mx hx5 rx sx cx => ?_
                obtain ⟨ws, ew, rw5⟩ := own_lst (M := Mx ++ (Dd, O.lst ac) :: Mf) (Mf := []) (p := Dd) (xs := ac) (by rw [List.append_nil]; exact cx) (List.mem_append_right _ List.mem_cons_self)
                exact ⟨ws, ew, by rw [rw5.len]; exact hz, ac ++ [xx], Fx, Mx, hx5, (s58.trans s9).trans sx, cx.put (rw5.app (.cons rx .nil))⟩
          · have e0 : j = src1.its.length := by omega
            subst e0
            exact .inl ⟨js1 _ (Nat.le_refl _), ac, F6, M6, he1 ac M6 hI6, (((s13.trans s4).trans s5).trans s6), c6⟩
    · have e0 : i = src.its.length := by omega
      subst e0
      exact .inl ⟨js _ (Nat.le_refl _), fin σ F H Mf Q q Dd acc M' F' H' (he acc M' hI) (s1.trans s') c'⟩
theorem W.lc2 {wi wi1 : TI} {g g1 : TG} {tt tt1 : TT} {te : TE} {vs vs1 : List Nat} (hg : GOnly g vs) (hg1 : GOnly g1 vs1) (h : WI K E wi ρ M (fun s M1 => ∃ J : Nat → List D → Mem → Prop, J 0 [] M1 ∧ (∀ i acc M', i ≤ s.its.length → J i acc M' → s.need M') ∧
    (∀ i x acc M', s.its[i]? = some x → J i acc M' → WG K E0 g x (wipeD ρ vs) M' (fun ρ2 M2 => WT K E0 tt ρ2 M2 (fun b M3 => (b = true → WI K E0 wi1 ρ2 M3 (fun s1 M4 => ∃ J1 : Nat → List D → Mem → Prop, J1 0 acc M4 ∧ (∀ j ac M', j ≤ s1.its.length → J1 j ac M' → s1.need M') ∧
        (∀ j y ac M5, s1.its[j]? = some y → J1 j ac M5 → ac.length < sizeLine ∧ WG K E0 g1 y (wipeD ρ2 vs1) M5 (fun ρ3 M6 => WT K E0 tt1 ρ3 M6 (fun b M7 => (b = true → W K E0 te ρ3 M7 (fun z M8 => J1 (j + 1) (ac ++ [z]) M8) P0) ∧ (b = false → J1 (j + 1) ac M7)) P0) P0) ∧
        ∀ ac M5, J1 s1.its.length ac M5 → J (i + 1) ac M5) P0) ∧ (b = false → J (i + 1) acc M3)) P0) P0) ∧
    ∀ acc M', J s.its.length acc M' → Φ (.lst acc) M') Ψ) : W K E (tLc2 wi g tt wi1 g1 tt1 te vs vs1) ρ M Φ Ψ :=
  W.lc2Any (Q0 := fun acc M' => Φ (.lst acc) M') hg hg1 h fun σ F H Mf Q q Dd acc M' F' H' p s c => by
    obtain ⟨vs, ev, rs, s2, c2⟩ := StC.frozen c
    exact q _ _ _ _ M' p (.lst upd_same (rs.mono s2)) (s.trans s2) c2
/-- .. of rows of rows, each item kept as it is -/
theorem W.lc2F {wi wi1 : TI} {g g1 : TG} {te : TE} {vs vs1 : List Nat} (hg : GOnly g vs) (hg1 : GOnly g1 vs1) (h : WI K E wi ρ M (fun s M1 => ∃ dss : List (List D), dss.length = s.its.length ∧ dss.flatten.length < 100000 ∧ s.need M1 ∧
    (∀ (i : Nat) (x : D) (ds : List D), s.its[i]? = some x → dss[i]? = some ds → WG K E0 g x (wipeD ρ vs) M1 (fun ρ2 M2 => WI K E0 wi1 ρ2 M2 (fun s1 M4 => M4 = M1 ∧ ds.length = s1.its.length ∧ s1.need M1 ∧
        (∀ (j : Nat) (y y0 : D), s1.its[j]? = some y → ds[j]? = some y0 → WG K E0 g1 y (wipeD ρ2 vs1) M1 (fun ρ3 M6 => W K E0 te ρ3 M6 (fun z M8 => z = y0 ∧ M8 = M1) P0) P0)) P0) P0) ∧ Φ (.lst dss.flatten) M1) Ψ) : W K E (tLc2 wi g tYes wi1 g1 tYes te vs vs1) ρ M Φ Ψ := by
  refine W.lc2 hg hg1 fun σ F H Mf R a s k q => h σ F H Mf R a s k fun sr F' H' M' J ⟨dss, hl, hd, hn, ht, he⟩ s' c' jr => q sr F' H' M' J ?_ s' c' jr
  refine ⟨fun i acc M2 => acc = (dss.take i).flatten ∧ M2 = M', ⟨rfl, rfl⟩, fun i acc M2 hi ⟨_, e⟩ => e ▸ hn, fun i x acc M2 hx ⟨ea, e⟩ => ?_, fun acc M2 ⟨ea, e⟩ => ?_⟩
  · subst e
    subst ea
    have hi : i < dss.length := by rw [hl]; exact (List.getElem?_eq_some_iff.mp hx).1
    have hds : dss[i]? = some dss[i] := List.getElem?_eq_getElem hi
    have et : dss.take (i + 1) = dss.take i ++ [dss[i]] := by rw [List.take_add_one, hds]; rfl
    have ef : (dss.take i).flatten.length + dss[i].length ≤ dss.flatten.length := by
      have e1 : dss.flatten = (dss.take (i + 1)).flatten ++ (dss.drop (i + 1)).flatten := by rw [← List.flatten_append, List.take_append_drop]
      have e2 := congrArg List.length e1
      rw [List.length_append, et, List.flatten_append, List.length_append] at e2
      simp only [List.flatten_cons, List.flatten_nil, List.append_nil] at e2
      omega
    refine fun σ F H Mf v Q r a s k q => ht i x _ hx hds σ F H Mf v Q r a s k fun σ' ρ' F' H' M3 hw a' s' c' => q σ' ρ' F' H' M3 ?_ a' s' c'
    refine fun σ F H Mf Q a s k q => q true F H M3 ⟨fun _ => ?_, fun z => Bool.noConfusion z⟩ (Same.refl _) s
    refine fun σ F H Mf Q a s k q => hw σ F H Mf Q a s k fun s1 F' H' M4 J ⟨e4, hl1, hn1, ht1⟩ s' c' jr => q s1 F' H' M4 J ?_ s' c' jr
    subst e4
    refine ⟨fun j ac M5 => ac = (dss.take i).flatten ++ dss[i].take j ∧ M5 = M4, ⟨by rw [List.take_zero, List.append_nil], rfl⟩, fun j ac M5 hj ⟨_, e⟩ => e ▸ hn1, fun j y ac M5 hy ⟨eac, e⟩ => ?_, fun ac M5 ⟨eac, e⟩ => ?_⟩
    · subst e
      subst eac
      have hj : j < dss[i].length := by rw [hl1]; exact (List.getElem?_eq_some_iff.mp hy).1
      have hdj : dss[i][j]? = some dss[i][j] := List.getElem?_eq_getElem hj
      refine ⟨line_lt (by rw [List.length_append, List.length_take]; omega), ?_⟩
      refine fun σ F H Mf v Q r a s k q => ht1 j y _ hy hdj σ F H Mf v Q r a s k fun σ' ρ' F' H' M6 hw a' s' c' => q σ' ρ' F' H' M6 ?_ a' s' c'
      refine fun σ F H Mf Q a s k q => q true F H M6 ⟨fun _ => ?_, fun z => Bool.noConfusion z⟩ (Same.refl _) s
      refine W.mono hw fun z M8 ⟨e1, e2⟩ => ⟨?_, e2⟩
      rw [e1, List.take_add_one, hdj, List.append_assoc]
      rfl
    · subst e
      subst eac
      refine ⟨?_, rfl⟩
      rw [et, List.flatten_append, ← hl1, List.take_length]
      simp
  · subst e
    subst ea
    rw [← hl, List.take_length]
    exact he
end
theorem par2 {P : D → D → Prop} {a b : D} (h : P a b) : ∃ x y, [a, b] = [x, y] ∧ P x y := ⟨_, _, rfl, h⟩
theorem par3 {P : D → D → D → Prop} {a b c : D} (h : P a b c) : ∃ x y z, [a, b, c] = [x, y, z] ∧ P x y z := ⟨_, _, _, rfl, h⟩
theorem one_i {P : Int → Prop} {i : Int} (h0 : -(2 ^ 62) ≤ i) (h1 : i < 2 ^ 62) (h : P i) : ∃ j, [D.int i] = [D.int j] ∧ -(2 ^ 62) ≤ j ∧ j < 2 ^ 62 ∧ P j := ⟨_, rfl, h0, h1, h⟩
theorem so_i {P : Int → Prop} {i : Int} (h : P i) : ∃ j, D.int i = D.int j ∧ P j := ⟨_, rfl, h⟩
theorem two' {b : Bool} {A B : Prop} (h1 : b = true → A) (h2 : b = false → B) : (b = true → A) ∧ (b = false → B) := ⟨h1, h2⟩
def isIB (x : D) : Bool := match x with
  | .int _ => true
  | .bl _ => true
  | _ => false
def isBl (x : D) : Bool := match x with
  | .bl _ => true
  | _ => false
theorem kit_int {x : D} {n : String} (h : x.tn = some n) : kitB n "int" = some (isIB x) := by
  have e1 : kitB "NoneType" "int" = some false := by decide +kernel
  have e2 : kitB "bool" "int" = some true := by decide +kernel
  have e3 : kitB "int" "int" = some true := by decide +kernel
  have e4 : kitB "str" "int" = some false := by decide +kernel
  have e5 : kitB "list" "int" = some false := by decide +kernel
  have e6 : kitB "tuple" "int" = some false := by decide +kernel
  cases x <;> cases h <;> first | exact e1 | exact e2 | exact e3 | exact e4 | exact e5 | exact e6
theorem kit_bool {x : D} {n : String} (h : x.tn = some n) : kitB n "bool" = some (isBl x) := by
  have e1 : kitB "NoneType" "bool" = some false := by decide +kernel
  have e2 : kitB "bool" "bool" = some true := by decide +kernel
  have e3 : kitB "int" "bool" = some false := by decide +kernel
  have e4 : kitB "str" "bool" = some false := by decide +kernel
  have e5 : kitB "list" "bool" = some false := by decide +kernel
  have e6 : kitB "tuple" "bool" = some false := by decide +kernel
  cases x <;> cases h <;> first | exact e1 | exact e2 | exact e3 | exact e4 | exact e5 | exact e6
section
variable {K : PySem.W.Frag} {E : WX} {Ψ : PX} {ρ : Env3} {M : Mem} {Φ : D → Mem → Prop}
/-- [e for x in xs], xs told as f a of a row, e as h a -/
theorem W.lcMap {α : Type} {tl : TE} {g : TG} {te : TE} {vs : List Nat} (as : List α) (f h : α → D) (hg : GOnly g vs) (q : W K E tl ρ M (fun x M1 => Seq M1 x (as.map f) ∧ as.length < 100000 ∧
    (∀ a ∈ as, WG K E0 g (f a) (wipeD ρ vs) M1 (fun ρ2 M2 => W K E0 te ρ2 M2 (fun y M3 => y = h a ∧ M3 = M1) P0) P0) ∧ Φ (.lst (as.map h)) M1) Ψ) : W K E (tLc (iSeq K tl) g tYes te vs) ρ M Φ Ψ := by
  refine W.lcL hg (WI.seq (W.mono q ?_))
  rintro x M1 ⟨hs, hl, hw, hp⟩
  refine ⟨_, hs, as.map h, ?_, ?_, hs, ?_, hp⟩
  · show (as.map f).length < 100000
    rw [List.length_map]
    exact hl
  · show (as.map h).length = (as.map f).length
    rw [List.length_map, List.length_map]
  · intro i y y0 hy hy0
    have hy : (as.map f)[i]? = some y := hy
    rw [List.getElem?_map] at hy hy0
    cases e : as[i]? with
    | none => rw [e] at hy; cases hy
    | some a =>
      rw [e] at hy hy0
      cases hy
      cases hy0
      exact hw a (List.mem_of_getElem? e)
/-- [e for i in range(n)] -/
theorem W.lcRan {ta : TA} {g : TG} {te : TE} {vs : List Nat} (n : Nat) (h : Nat → D) (hg : GOnly g vs) (q : WA K E ta ρ M (fun xs M1 => xs = [.int (n : Int)] ∧ n < 100000 ∧
    (∀ i, i < n → WG K E0 g (.int (i : Int)) (wipeD ρ vs) M1 (fun ρ2 M2 => W K E0 te ρ2 M2 (fun y M3 => y = h i ∧ M3 = M1) P0) P0) ∧ Φ (.lst ((List.range n).map h)) M1) Ψ) : W K E (tLc (iRng1 ta) g tYes te vs) ρ M Φ Ψ := by
  refine W.lcL hg (WI.rng1 fun σ F H Mf Q a s k qq => q σ F H Mf Q a s k fun vs xs F' H' M1 ⟨e, hl, hw, hp⟩ => qq vs xs F' H' M1 ⟨n, e, by omega, by omega, (List.range n).map h, ?_, ?_, trivial, ?_, hp⟩)
  · rw [ran_len]
    omega
  · rw [ran_len, List.length_map, List.length_range]
    omega
  · intro i y y0 hy hy0
    obtain ⟨hi, rfl⟩ := ran_get hy
    have hi : i < n := by omega
    rw [List.getElem?_map, List.getElem?_range hi] at hy0
    cases hy0
    rw [Int.zero_add]
    exact hw i hi
end
end L3

namespace L3
open PySem PySem.Spec PyProof.Rows L2
/-! ### less is known of the names -/
inductive Le : Env3 → Env3 → Prop
  | nil : Le [] []
  | skip {a : Option D} {r' r : Env3} : Le r' r → Le (none :: r') (a :: r)
  | same {a : Option D} {r' r : Env3} : Le r' r → Le (a :: r') (a :: r)
theorem Le.eq {a b : D} {r' r : Env3} (e : b = a) (h : Le r' r) : Le (some a :: r') (some b :: r) := by subst e; exact .same h
theorem Le.refl : ∀ r : Env3, Le r r
  | [] => .nil
  | _ :: r => .same (Le.refl r)
theorem EnvR.le {K : PySem.W.Frag} {F : Hp} {r' r : Env3} (h : Le r' r) : ∀ {σ : L2.St}, EnvR K F σ r → EnvR K F σ r' := by
  induction h with
  | nil => exact fun h => h
  | skip _ ih => intro σ h; cases h with | cons _ t => exact .cons True.intro (ih t)
  | same _ ih => intro σ h; cases h with | cons a t => exact .cons a (ih t)
/-! ### cells -/
theorem Sp.again {p : Addr} {o o' : O} {M : Mem} {f : O → Mem} (h : Sp p o M f) : Sp p o' (f o') f := by
  induction h with
  | here => exact .here
  | there _ ih => exact .there ih
theorem Sp.id {p : Addr} {o : O} {M : Mem} {f : O → Mem} (h : Sp p o M f) : f o = M := by
  induction h with
  | here => rfl
  | there _ ih => show _ :: _ = _ :: _; rw [ih]
/-- what is asked of a def -/
def Cal (sp : SpD) (xs : List D) (M : Mem) (Φ : D → Mem → Prop) (Ψ : Ex → Mem → Prop) : Prop := sp xs M Φ Ψ
theorem Cal.of {sp : SpD} {xs : List D} {M : Mem} {Φ : D → Mem → Prop} {Ψ : Ex → Mem → Prop} (h : sp xs M Φ Ψ) : Cal sp xs M Φ Ψ := h
section
variable {K : PySem.W.Frag} {E : WX} {Ψ : PX} {ρ : Env3} {M : Mem} {N B C : Env3 → Mem → Prop} {R : D → Mem → Prop} {Φ : D → Mem → Prop}
/-- a call; the def sees all cells -/
theorem W.callI {sp : SpD} {t : TA} (h : WA K E t ρ M (fun xs M1 => Cal sp xs M1 Φ (fun x M2 => Ψ x ρ M2)) Ψ) : W K E (tCallSD (lift K sp) [] (WE E) t) ρ M Φ Ψ :=
  W.call fun σ F H Mf Q e s k q => h σ F H Mf Q e s k fun vs xs F' H' M' p => q vs xs F' H' M' ⟨M', [], by rw [List.append_nil], by simp only [List.append_nil]; exact p⟩
/-- the cells without one -/
inductive Rm (p : Addr) (o : O) : Mem → Mem → Prop
  | here {M : Mem} : Rm p o ((p, o) :: M) M
  | there {q : Addr × O} {M M' : Mem} (h : Rm p o M M') : Rm p o (q :: M) (q :: M')
theorem Rm.split {p : Addr} {o : O} {M M' : Mem} (h : Rm p o M M') : ∃ A B, M = A ++ (p, o) :: B ∧ M' = A ++ B := by
  induction h with
  | here => exact ⟨[], _, rfl, rfl⟩
  | there _ ih =>
    obtain ⟨A, B, rfl, rfl⟩ := ih
    exact ⟨_ :: A, B, rfl, rfl⟩
theorem Rm.perm {p : Addr} {o : O} {M M' : Mem} (h : Rm p o M M') : M.Perm ((p, o) :: M') := by
  obtain ⟨A, B, rfl, rfl⟩ := h.split
  exact List.perm_middle
/-- these cells are among those, in any order -/
def Sb (M' M : Mem) : Prop := ∃ R, M.Perm (M' ++ R)
theorem Sb.refl (M : Mem) : Sb M M := ⟨[], by rw [List.append_nil]⟩
theorem Sb.nil {M : Mem} : Sb [] M := ⟨M, .refl _⟩
theorem Sb.trans {A B C : Mem} (h : Sb A B) (g : Sb B C) : Sb A C := by
  obtain ⟨R, h⟩ := h
  obtain ⟨S, g⟩ := g
  exact ⟨R ++ S, g.trans (by rw [← List.append_assoc]; exact h.append_right _)⟩
theorem Sb.drop {A M : Mem} {c : Addr × O} (h : Sb A M) : Sb A (c :: M) := by
  obtain ⟨R, h⟩ := h
  exact ⟨c :: R, (h.cons c).trans List.perm_middle.symm⟩
theorem Sb.pick {A M M1 : Mem} {p : Addr} {o : O} (h : Rm p o M M1) (g : Sb A M1) : Sb ((p, o) :: A) M := by
  obtain ⟨R, g⟩ := g
  exact ⟨R, h.perm.trans (g.cons _)⟩
theorem Sb.of {A M : Mem} (h : A.Sublist M) : Sb A M := by
  induction h with
  | slnil => exact .nil
  | cons a h ih => exact ih.drop
  | cons_cons a h ih => exact .pick .here ih
/-- cells are forgotten -/
theorem StC.subM {F H : Hp} {M M' Mf : Mem} (h : Sb M' M) (s : StC K F H (M ++ Mf)) : StC K F H (M' ++ Mf) := by
  obtain ⟨R, h⟩ := h
  have s2 := StC.perm s (h.append_right Mf)
  rw [List.append_assoc] at s2
  exact StR.subM (exM_sub ((List.Sublist.refl _).append (List.sublist_append_right _ _))) s2
theorem WS.sub {t : TS} {M' : Mem} {d : DD} (h : Sb M' M) (w : WS K E t ρ M' d Ψ) : WS K E t ρ M d Ψ := fun σ F H Mf x a s k q => w σ F H Mf x a (StC.subM h s) k q
theorem WT.sub {t : TT} {M' : Mem} {Θ : Bool → Mem → Prop} (h : Sb M' M) (w : WT K E t ρ M' Θ Ψ) : WT K E t ρ M Θ Ψ := fun σ F H Mf x a s k q => w σ F H Mf x a (StC.subM h s) k q
/-- it is handed back; cells that nobody asks for are forgotten -/
def Wk (R : D → Mem → Prop) (x : D) (M : Mem) : Prop := ∃ M', Sb M' M ∧ R x M'
theorem Wk.self {x : D} (h : R x M) : Wk R x M := ⟨M, Sb.refl _, h⟩
theorem Wk.drop {x : D} {c : Addr × O} (h : Wk R x M) : Wk R x (c :: M) := let ⟨M', h1, h2⟩ := h; ⟨M', Sb.drop h1, h2⟩
theorem Wk.keep {x : D} {c : Addr × O} (h : Wk (fun y M' => R y (c :: M')) x M) : Wk R x (c :: M) := let ⟨M', h1, h2⟩ := h; ⟨c :: M', Sb.pick .here h1, h2⟩
theorem Wk.sb {x : D} {M' : Mem} (g : Sb M' M) (h : R x M') : Wk R x M := ⟨M', g, h⟩
theorem S.retW {te : TE} (h : W K E te ρ M (fun x M1 => Wk R x M1) Ψ) : WS K E (tRet te) ρ M ⟨N, R, B, C⟩ Ψ := fun σ F H Mf e a s k q =>
  h σ F H Mf _ a s k fun v x F1 H1 M1 ⟨M', h1, h2⟩ r1 s1 c1 => q.rt v x F1 H1 M' h2 r1 s1 (StC.subM h1 c1)
theorem WS.le {t : TS} {ρ' : Env3} {d : DD} (e : Le ρ' ρ) (h : WS K E t ρ' M d Ψ) : WS K E t ρ M d Ψ := fun σ F H Mf x a s k q => h σ F H Mf x (a.le e) s k q
/-! ### what a statement leaves: a state of a told type -/
/-- the names and cells stand as a state s tells that P holds of -/
structure Is {σ : Type} (env : σ → Env3) (mem : σ → Mem) (P : σ → Prop) (ρ : Env3) (M : Mem) : Prop where
  ex : ∃ s, P s ∧ Le (env s) ρ ∧ Sb (mem s) M
theorem Is.mk' {σ : Type} {env : σ → Env3} {mem : σ → Mem} {P : σ → Prop} {ρ : Env3} {M : Mem} (s : σ) (h : P s) (e : Le (env s) ρ) (m : Sb (mem s) M) : Is env mem P ρ M := ⟨s, h, e, m⟩
theorem S.toI {t : TS} {σ : Type} (env : σ → Env3) (mem : σ → Mem) (P : σ → Prop) {u : TS} (h : WS K E t ρ M ⟨Is env mem P, R, B, C⟩ Ψ) (h2 : ∀ s, P s → WS K E u (env s) (mem s) ⟨N, R, B, C⟩ Ψ) : WS K E (tSeq t u) ρ M ⟨N, R, B, C⟩ Ψ :=
  S.seq (WS.mono h (fun ρ' M' ⟨s, hs, e, m⟩ => WS.sub m (WS.le e (h2 s hs))) (fun _ _ h => h) (fun _ _ h => h) (fun _ _ h => h))
/-- for x in ..: between two turns the names and cells stand as a state tells -/
theorem S.forI {wi : TI} {g : TG} {tb : TS} {σ : Type} (env : σ → Env3) (mem : σ → Mem) (I : Nat → σ → Prop)
    (h : WI K E wi ρ M (fun s M1 => (∃ s0, I 0 s0 ∧ Le (env s0) ρ ∧ Sb (mem s0) M1) ∧ (∀ i st, i ≤ s.its.length → I i st → s.need (mem st)) ∧
      (∀ (i : Nat) x st, s.its[i]? = some x → I i st → WG K E g x (env st) (mem st) (fun ρ2 M2 => WS K E tb ρ2 M2 ⟨Is env mem (I (i + 1)), R, N, Is env mem (I (i + 1))⟩ Ψ) Ψ) ∧
      ∀ st, I s.its.length st → ∀ ρ', Le (env st) ρ' → N ρ' (mem st)) Ψ) : WS K E (tFor wi g tb) ρ M ⟨N, R, B, C⟩ Ψ := by
  have key : ∀ (σ : L2.St) (F H : Hp) (Mf : Mem) (e : Ends), EnvR K F σ ρ → StC K F H (M ++ Mf) → EK K F Mf Ψ E → DR K F Mf ⟨N, R, B, C⟩ e → tFor wi g tb e σ H := fun σ F H Mf e a s k q =>
    h σ F H Mf _ a s k fun src F1 H1 M1 J ⟨⟨s0, h0, e0, m0⟩, hn, ht, he⟩ s1 c1 jr => by
      refine ⟨fun i m σ' H' => ∃ st F', i ≤ src.its.length ∧ m = src.its.length - i ∧ I i st ∧ EnvR K F' σ' (env st) ∧ Same F1 F' ∧ StC K F' H' (mem st ++ Mf), ⟨_, s0, F1, Nat.zero_le _, rfl, h0, (a.mono s1).le e0, Same.refl _, StC.subM m0 c1⟩, ?_⟩
      rintro i m σ' H' ⟨st, F', hi, rfl, hI, a', s', c'⟩
      obtain ⟨jg, js, jy⟩ := jr F' H' (mem st) Mf s' c' (hn i st hi hI)
      by_cases hlt : i < src.its.length
      · refine .inr ⟨jg i hlt, fun σ2 H2 => ∃ st2 F2, I (i + 1) st2 ∧ EnvR K F2 σ2 (env st2) ∧ Same F1 F2 ∧ StC K F2 H2 (mem st2 ++ Mf), fun σ2 H2 ⟨st2, F2, h1, h2, h3, h4⟩ => ⟨src.its.length - (i + 1), by omega, st2, F2, hlt, rfl, h1, h2, h3, h4⟩, fun v H2 y => ?_⟩
        have hx : src.its[i]? = some src.its[i] := List.getElem?_eq_getElem hlt
        obtain ⟨F2, e2, c2, r2⟩ := jy i _ v H2 hx y
        have eK2 := (k.mono s1).mono (s'.trans e2)
        refine ht i _ st hx hI σ' F2 H2 Mf v _ r2 (a'.mono e2) c2 eK2 fun σ3 ρ3 F3 H3 M3 h3 a3 s3 c3 => ?_
        have s13 : Same F1 F3 := (s'.trans e2).trans s3
        refine h3 σ3 F3 H3 Mf _ a3 c3 (eK2.mono s3) ⟨fun σ4 ρ4 F4 H4 M4 ⟨s4', p1, p2, p3⟩ a4 s4 c4 => ⟨s4', F4, p1, a4.le p2, s13.trans s4, StC.subM p3 c4⟩, fun v4 x4 F4 H4 M4 p r4 s4 c4 => q.rt v4 x4 F4 H4 M4 p r4 ((s1.trans s13).trans s4) c4,
          fun σ4 ρ4 F4 H4 M4 p a4 s4 c4 => q.nx σ4 ρ4 F4 H4 M4 p a4 ((s1.trans s13).trans s4) c4, fun σ4 ρ4 F4 H4 M4 ⟨s4', p1, p2, p3⟩ a4 s4 c4 => ⟨s4', F4, p1, a4.le p2, s13.trans s4, StC.subM p3 c4⟩⟩
      · have e0 : i = src.its.length := by omega
        subst e0
        exact .inl ⟨js _ (Nat.le_refl _), q.nx σ' (env st) F' H' (mem st) (he st hI _ (Le.refl _)) a' (s1.trans s') c'⟩
  exact key
theorem S.leN {t : TS} {P : Env3 → Mem → Prop} (h : WS K E t ρ M ⟨P, R, B, C⟩ Ψ) (h2 : ∀ ρ' M', P ρ' M' → N ρ' M') : WS K E t ρ M ⟨N, R, B, C⟩ Ψ := WS.mono h h2 (fun _ _ h => h) (fun _ _ h => h) (fun _ _ h => h)
/-- while .. -/
theorem S.whileI {c : TT} {tb : TS} {σ : Type} (env : σ → Env3) (mem : σ → Mem) (I : σ → Prop) (m : σ → Nat) (h : Is env mem I ρ M)
    (hs : ∀ st, I st → WT K E c (env st) (mem st) (fun b M1 => (b = true → WS K E tb (env st) M1 ⟨Is env mem (fun s' => I s' ∧ m s' < m st), R, N, Is env mem (fun s' => I s' ∧ m s' < m st)⟩ Ψ) ∧ (b = false → ∀ ρ', Le (env st) ρ' → N ρ' M1)) Ψ) :
    WS K E (tWhile c tb) ρ M ⟨N, R, B, C⟩ Ψ := fun σ0 F H Mf e a s k q => by
  obtain ⟨s0, h0, e0, m0⟩ := h.ex
  refine ⟨fun n σ' H' => ∃ st F', I st ∧ m st = n ∧ EnvR K F' σ' (env st) ∧ Same F F' ∧ StC K F' H' (mem st ++ Mf), ⟨m s0, s0, F, h0, rfl, a.le e0, Same.refl _, StC.subM m0 s⟩, ?_⟩
  rintro n σ' H' ⟨st, F', hI, rfl, a', s', c'⟩
  refine hs st hI σ' F' H' Mf _ a' c' (k.mono s') fun b F1 H1 M1 h1 s1 c1 => ?_
  cases b with
  | true =>
    refine ⟨fun σ2 H2 => ∃ m', m' < m st ∧ ∃ st2 F2, I st2 ∧ m st2 = m' ∧ EnvR K F2 σ2 (env st2) ∧ Same F F2 ∧ StC K F2 H2 (mem st2 ++ Mf), fun _ _ z => z, ?_⟩
    have s01 := s'.trans s1
    exact h1.1 rfl σ' F1 H1 Mf _ (a'.mono s1) c1 (k.mono s01) ⟨fun σ4 ρ4 F4 H4 M4 ⟨s4', ⟨p1, p2⟩, p3, p4⟩ a4 s4 c4 => ⟨m s4', p2, s4', F4, p1, rfl, a4.le p3, s01.trans s4, StC.subM p4 c4⟩, fun v4 x4 F4 H4 M4 p r4 s4 c4 => q.rt v4 x4 F4 H4 M4 p r4 (s01.trans s4) c4,
        fun σ4 ρ4 F4 H4 M4 p a4 s4 c4 => q.nx σ4 ρ4 F4 H4 M4 p a4 (s01.trans s4) c4, fun σ4 ρ4 F4 H4 M4 ⟨s4', ⟨p1, p2⟩, p3, p4⟩ a4 s4 c4 => ⟨m s4', p2, s4', F4, p1, rfl, a4.le p3, s01.trans s4, StC.subM p4 c4⟩⟩
  | false => exact q.nx σ' (env st) F1 H1 M1 (h1.2 rfl _ (Le.refl _)) (a'.mono s1) (s'.trans s1) c1
/-- if ..: both ways come to a state -/
theorem S.iteI {c : TT} {t u v : TS} {σ : Type} (env : σ → Env3) (mem : σ → Mem) (P : σ → Prop) (h : WS K E (tIfS c t u) ρ M ⟨Is env mem P, R, B, C⟩ Ψ) (h2 : ∀ s, P s → WS K E v (env s) (mem s) ⟨N, R, B, C⟩ Ψ) : WS K E (tSeq (tIfS c t u) v) ρ M ⟨N, R, B, C⟩ Ψ := S.toI env mem P h h2
/-! ### what a row holds, told by a row of another kind -/
inductive AsM {α : Type} (f : α → D) : List D → List α → Prop
  | map (as : List α) : AsM f (as.map f) as
  | nil : AsM f [] []
  | cons {a : α} {xs : List D} {as : List α} : AsM f xs as → AsM f (f a :: xs) (a :: as)
theorem AsM.eq {α : Type} {f : α → D} {xs : List D} {as : List α} (h : AsM f xs as) : xs = as.map f := by
  induction h with
  | map _ => rfl
  | nil => rfl
  | cons _ ih => rw [List.map_cons, ih]
/-- [e for x in xs]: items of which something is told -/
theorem acc_of {α : Type} {f : α → D} {P : α → Prop} : ∀ {acc : List D}, (∀ (i : Nat) y, acc[i]? = some y → ∃ a, y = f a ∧ P a) → ∃ as : List α, acc = as.map f ∧ ∀ a ∈ as, P a
  | [], _ => ⟨[], rfl, fun _ h => by cases h⟩
  | y :: acc, h => by
    obtain ⟨a, rfl, ha⟩ := h 0 y rfl
    obtain ⟨as, rfl, hs⟩ := acc_of (acc := acc) fun i z hz => h (i + 1) z hz
    exact ⟨a :: as, rfl, fun b hb => by rcases List.mem_cons.mp hb with rfl | hb; exact ha; exact hs b hb⟩
theorem W.lcD {α : Type} (f : α → D) (P : α → Prop) {wi : TI} {g : TG} {te : TE} {vs : List Nat} (hg : GOnly g vs) (h : WI K E wi ρ M (fun s M1 => s.its.length < 100000 ∧ s.need M1 ∧
    (∀ (i : Nat) (x : D), s.its[i]? = some x → WG K E0 g x (wipeD ρ vs) M1 (fun ρ2 M2 => W K E0 te ρ2 M2 (fun y M3 => (∃ a, y = f a ∧ P a) ∧ M3 = M1) P0) P0) ∧
    ∀ as : List α, as.length = s.its.length → (∀ a ∈ as, P a) → Φ (.lst (as.map f)) M1) Ψ) : W K E (tLc wi g tYes te vs) ρ M Φ Ψ := by
  refine W.lcN hg fun σ F H Mf R a s k q => h σ F H Mf R a s k fun sr F' H' M1 J ⟨hl, hn, ht, he⟩ s' c' jr => q sr F' H' M1 J ?_ s' c' jr
  refine ⟨fun M2 => M2 = M1, fun i y => ∃ a, y = f a ∧ P a, hl, rfl, fun M2 e => e ▸ hn, fun i x M2 hx e => ?_, fun acc M2 e ha hp => ?_⟩
  · subst e
    exact ht i x hx
  · subst e
    obtain ⟨as, rfl, hs⟩ := acc_of hp
    exact he as (by rw [← ha, List.length_map]) hs
/-- x if t else y, both whole numbers -/
theorem W.iteI {t : TT} {ta tb : TE} {p : Prop} [Decidable p] {i j : Int} (h : WT K E t ρ M (fun b M1 => b = decide p ∧ M1 = M) Ψ) (h1 : p → W K E ta ρ M (fun x M1 => x = .int i ∧ M1 = M) Ψ) (h2 : ¬ p → W K E tb ρ M (fun x M1 => x = .int j ∧ M1 = M) Ψ) (k : Φ (.int (if p then i else j)) M) : W K E (tIf t ta tb) ρ M Φ Ψ := by
  refine W.ite (WT.mono h ?_)
  rintro b M1 ⟨rfl, rfl⟩
  refine two (fun hp => ?_) (fun hp => ?_)
  · refine W.mono (h1 hp) ?_
    rintro x M2 ⟨rfl, rfl⟩
    rw [if_pos hp] at k
    exact k
  · refine W.mono (h2 hp) ?_
    rintro x M2 ⟨rfl, rfl⟩
    rw [if_neg hp] at k
    exact k
/-! ### places -/
theorem map_at {α : Type} [Inhabited α] {f : α → D} {as : List α} {i : Int} (h0 : 0 ≤ i) (h1 : i < as.length) : (as.map f)[i.toNat]? = some (f (as.getD i.toNat default)) := by
  have h : i.toNat < as.length := by omega
  rw [List.getElem?_map, List.getElem?_eq_getElem h, List.getD_eq_getElem?_getD, List.getElem?_eq_getElem h]
  rfl
theorem OpD.ixM {α : Type} [Inhabited α] {f : α → D} {as : List α} {x : D} {i : Int} (q : Seq M x (as.map f)) (h0 : 0 ≤ i) (h1 : i < as.length) (h : Φ (f (as.getD i.toNat default)) M) : OpD K (oIx K) x (.int i) M Φ := .ixN q h0 (map_at h0 h1) h
theorem OpD.ixR {f : Nat → D} {n : Nat} {x : D} {i : Int} (q : Seq M x ((List.range n).map f)) (h0 : 0 ≤ i) (h1 : i < n) (h : Φ (f i.toNat) M) : OpD K (oIx K) x (.int i) M Φ :=
  .ixN q h0 (by have h : i.toNat < n := by omega
                rw [List.getElem?_map, List.getElem?_range h]; rfl) h
/-- a place of a written row: each of its items -/
theorem OpD.ixE {xs : List D} {x : D} {i : Int} (q : Seq M x xs) (h0 : 0 ≤ i) (h1 : i < xs.length) (h : ∀ y ∈ xs, Φ y M) : OpD K (oIx K) x (.int i) M Φ := by
  have hl : i.toNat < xs.length := by omega
  exact .ixN q h0 (List.getElem?_eq_getElem hl) (h _ (List.getElem_mem hl))
theorem OpD.ixW {xs : List D} {ns : List Int} {x : D} {i : Int} (q : Seq M x xs) (e : AsM D.int xs ns) (h0 : 0 ≤ i) (h1 : i < ns.length) (h : Φ (.int (ns.getD i.toNat 0)) M) : OpD K (oIx K) x (.int i) M Φ := by
  have e := e.eq
  subst e
  exact .ixM q h0 h1 h
/-- x[-1] -/
theorem OpD.ixL {x y : D} {xs : List D} (q : Seq M x xs) (hy : xs.getLast? = some y) (h : Φ y M) : OpD K (oIx K) x (.int (-1)) M Φ := by
  have hl : 0 < xs.length := by
    cases xs with
    | nil => simp at hy
    | cons _ _ => simp
  refine .ix (xs.length - 1) q ?_ (by rw [← List.getLast?_eq_getElem?]; exact hy) h
  unfold L2.ixN
  rw [if_neg (by decide)]
  first | (rw [if_pos (by omega)]; congr 1; omega) | (simp; omega)
/-! ### greater, less -/
theorem CbD.max' {i j : Int} (h : Φ (.int (max i j)) M) : CbD K (cMax K) [.int i, .int j] M Φ := .max2 (by
  have e : (if j > i then j else i) = max i j := by omega
  rw [e]; exact h)
theorem CbD.min' {i j : Int} (h : Φ (.int (min i j)) M) : CbD K (cMin K) [.int i, .int j] M Φ := .min2 (by
  have e : (if j < i then j else i) = min i j := by omega
  rw [e]; exact h)
end
/-! ### may be compared -/
inductive Pln : Nat → D → Prop
  | non {n : Nat} : Pln n .non
  | bl {n : Nat} (b : Bool) : Pln n (.bl b)
  | int {n : Nat} (i : Int) : Pln n (.int i)
  | str {n : Nat} {x : Str} (h : PySem.PyData.strOk x = true) : Pln n (.str x)
  | lst {n : Nat} {xs : List D} (h : ∀ x ∈ xs, Pln n x) : Pln (n + 1) (.lst xs)
  | tup {n : Nat} {xs : List D} (h : ∀ x ∈ xs, Pln n x) : Pln (n + 1) (.tup xs)
theorem plL_of : ∀ {xs : List D}, (∀ x ∈ xs, x.pl = true) → D.plL xs = true
  | [], _ => rfl
  | x :: xs, h => by
    have h1 := h x List.mem_cons_self
    have h2 := plL_of (xs := xs) fun y hy => h y (List.mem_cons_of_mem _ hy)
    simp [D.plL, h1, h2]
theorem dpL_of {n : Nat} : ∀ {xs : List D}, (∀ x ∈ xs, x.dp n = true) → D.dpL xs n = true
  | [], _ => by simp [D.dpL]
  | x :: xs, h => by
    have h1 := h x List.mem_cons_self
    have h2 := dpL_of (xs := xs) fun y hy => h y (List.mem_cons_of_mem _ hy)
    simp [D.dpL, h1, h2]
theorem Pln.both {n : Nat} {x : D} (h : Pln n x) : x.pl = true ∧ x.dp n = true := by
  induction h with
  | non => simp [D.pl, D.dp]
  | bl _ => simp [D.pl, D.dp]
  | int _ => simp [D.pl, D.dp]
  | str h => simp [D.pl, D.dp, h]
  | lst _ ih => simp [D.pl, D.dp, plL_of fun x hx => (ih x hx).1, dpL_of fun x hx => (ih x hx).2]
  | tup _ ih => simp [D.pl, D.dp, plL_of fun x hx => (ih x hx).1, dpL_of fun x hx => (ih x hx).2]
theorem Pln.cm {x : D} (h : Pln 60 x) : x.cm = true := by
  have := h.both
  simp [D.cm, this.1, this.2]
theorem Pln.lstM {α : Type} {n : Nat} {as : List α} {f : α → D} (h : ∀ a ∈ as, Pln n (f a)) : Pln (n + 1) (.lst (as.map f)) := .lst fun x hx => by
  obtain ⟨a, ha, rfl⟩ := List.mem_map.mp hx
  exact h a ha
theorem Pln.tupM {α : Type} {n : Nat} {as : List α} {f : α → D} (h : ∀ a ∈ as, Pln n (f a)) : Pln (n + 1) (.tup (as.map f)) := .tup fun x hx => by
  obtain ⟨a, ha, rfl⟩ := List.mem_map.mp hx
  exact h a ha
inductive Plns (n : Nat) : List D → Prop
  | nil : Plns n []
  | cons {x : D} {xs : List D} : Pln n x → Plns n xs → Plns n (x :: xs)
theorem Plns.all {n : Nat} {xs : List D} (h : Plns n xs) : ∀ x ∈ xs, Pln n x := by
  induction h with
  | nil => intro x hx; cases hx
  | cons a _ ih => intro x hx; rcases List.mem_cons.mp hx with rfl | hx; exact a; exact ih x hx
theorem Pln.lstC {n : Nat} {xs : List D} (h : Plns n xs) : Pln (n + 1) (.lst xs) := .lst h.all
theorem Pln.tupC {n : Nat} {xs : List D} (h : Plns n xs) : Pln (n + 1) (.tup xs) := .tup h.all
/-! no truths in it -/
mutual
def D.nb : D → Bool
  | .bl _ => false
  | .lst xs => D.nbL xs
  | .tup xs => D.nbL xs
  | _ => true
def D.nbL : List D → Bool
  | [] => true
  | x :: xs => x.nb && D.nbL xs
end
mutual
theorem eqv_sound : ∀ {x y : D}, x.pl = true → y.pl = true → x.nb = true → y.nb = true → PyData.eqv x.py y.py = true → x = y
  | .non, y, _, h2, _, h4, e => by cases y <;> simp_all [D.pl, D.nb, D.py, PyData.eqv]
  | .bl b, y, _, h2, h3, h4, e => by simp [D.nb] at h3
  | .int i, y, _, h2, _, h4, e => by cases y <;> simp_all [D.pl, D.nb, D.py, PyData.eqv]
  | .str s, y, _, h2, _, h4, e => by cases y <;> simp_all [D.pl, D.nb, D.py, PyData.eqv]
  | .ty _, y, h, _, _, _, _ => by simp [D.pl] at h
  | .ref _, y, h, _, _, _, _ => by simp [D.pl] at h
  | .ob _ _, y, h, _, _, _, _ => by simp [D.pl] at h
  | .scr _, y, h, _, _, _, _ => by simp [D.pl] at h
  | .lst xs, y, h1, h2, h3, h4, e => by
    cases y with
    | lst ys =>
      simp only [D.pl, D.nb, D.py, PyData.eqv] at h1 h2 h3 h4 e
      rw [eqv_soundL h1 h2 h3 h4 e]
    | _ => simp_all [D.pl, D.nb, D.py, PyData.eqv]
  | .tup xs, y, h1, h2, h3, h4, e => by
    cases y with
    | tup ys =>
      simp only [D.pl, D.nb, D.py, PyData.eqv] at h1 h2 h3 h4 e
      rw [eqv_soundL h1 h2 h3 h4 e]
    | _ => simp_all [D.pl, D.nb, D.py, PyData.eqv]
theorem eqv_soundL : ∀ {xs ys : List D}, D.plL xs = true → D.plL ys = true → D.nbL xs = true → D.nbL ys = true → PyData.eqvAll (D.pyL xs) (D.pyL ys) = true → xs = ys
  | [], ys, _, _, _, _, e => by cases ys <;> simp_all [D.pyL, PyData.eqvAll]
  | x :: xs, ys, h1, h2, h3, h4, e => by
    cases ys with
    | nil => simp_all [D.pyL, PyData.eqvAll]
    | cons y ys =>
      simp only [D.plL, D.nbL, D.pyL, PyData.eqvAll, Bool.and_eq_true] at h1 h2 h3 h4 e
      rw [eqv_sound h1.1 h2.1 h3.1 h4.1 e.1, eqv_soundL h1.2 h2.2 h3.2 h4.2 e.2]
end
theorem eqD_iff {x y : D} (hx : x.pl = true) (hy : y.pl = true) (nx : x.nb = true) (ny : y.nb = true) : eqD x y = true ↔ x = y :=
  ⟨eqv_sound hx hy nx ny, fun e => by subst e; exact eqD_refl hx⟩
section
variable {K : PySem.W.Frag} {E : WX} {Ψ : PX} {ρ : Env3} {M : Mem} {Φ : D → Mem → Prop}
theorem OpD.eqS {x x' y y' : D} (cx : Cmp M x x') (cy : Cmp M y y') (e : x' = y') (h : Pln 60 x') (k : Φ (.bl true) M) : OpD K (oEq K) x y M Φ := by
  subst e
  refine .eq' cx cy h.cm h.cm ?_
  rw [eqD_refl h.both.1]
  exact k
theorem OpD.neS {x x' y y' : D} (cx : Cmp M x x') (cy : Cmp M y y') (e : x' = y') (h : Pln 60 x') (k : Φ (.bl false) M) : OpD K (oNe K) x y M Φ := by
  subst e
  refine .ne' cx cy h.cm h.cm ?_
  rw [eqD_refl h.both.1]
  exact k
/-- == of two told by a question -/
theorem OpD.eqP {x x' y y' : D} (p : Prop) [Decidable p] (cx : Cmp M x x') (cy : Cmp M y y') (hx : Pln 60 x') (hy : Pln 60 y') (nx : x'.nb = true) (ny : y'.nb = true) (e : x' = y' ↔ p) (k : Φ (.bl (decide p)) M) : OpD K (oEq K) x y M Φ := by
  refine .eq' cx cy hx.cm hy.cm ?_
  have : eqD x' y' = decide p := by
    rw [Bool.eq_iff_iff, eqD_iff hx.both.1 hy.both.1 nx ny, e, decide_eq_true_iff]
  rw [this]
  exact k
theorem OpD.neP {x x' y y' : D} (p : Prop) [Decidable p] (cx : Cmp M x x') (cy : Cmp M y y') (hx : Pln 60 x') (hy : Pln 60 y') (nx : x'.nb = true) (ny : y'.nb = true) (e : x' = y' ↔ p) (k : Φ (.bl (!decide p)) M) : OpD K (oNe K) x y M Φ := by
  refine .ne' cx cy hx.cm hy.cm ?_
  have : eqD x' y' = decide p := by
    rw [Bool.eq_iff_iff, eqD_iff hx.both.1 hy.both.1 nx ny, e, decide_eq_true_iff]
  rw [this]
  exact k
theorem OpD.eq_str {a b : Str} (ha : PySem.PyData.strOk a = true) (hb : PySem.PyData.strOk b = true) (k : Φ (.bl (decide (a = b))) M) : OpD K (oEq K) (.str a) (.str b) M Φ :=
  .eqP (a = b) .self .self (.str ha) (.str hb) rfl rfl (by simp) k
theorem OpD.ne_str {a b : Str} (ha : PySem.PyData.strOk a = true) (hb : PySem.PyData.strOk b = true) (k : Φ (.bl (!decide (a = b))) M) : OpD K (oNe K) (.str a) (.str b) M Φ :=
  .neP (a = b) .self .self (.str ha) (.str hb) rfl rfl (by simp) k
end
theorem nbL_ints (ns : List Int) : D.nbL (ns.map D.int) = true := by
  induction ns with
  | nil => rfl
  | cons n ns ih => simp [D.nbL, D.nb, ih]
end L3

namespace L3
open PySem PySem.Spec PyProof.Rows L2
/-! ### the draws' dict, whatever it holds -/
theorem kS_la : kS "left" ≠ kS "at" := by decide +kernel
theorem kS_lc : kS "left" ≠ kS "cells" := by decide +kernel
theorem kS_ac : kS "at" ≠ kS "cells" := by decide +kernel
theorem dgl {l a c : D} : getD3 (drawL l a c) (kS "left") = some l := getD3_pos
theorem dga {l a c : D} : getD3 (drawL l a c) (kS "at") = some a := (getD3_neg kS_la).trans getD3_pos
theorem dgc {l a c : D} : getD3 (drawL l a c) (kS "cells") = some c := (getD3_neg kS_lc).trans ((getD3_neg kS_ac).trans getD3_pos)
theorem dpl {l a c z : D} : putD3 (drawL l a c) (kS "left") z = drawL z a c := putD3_pos (by
  intro p hp
  simp only [List.mem_cons, List.not_mem_nil, or_false] at hp
  rcases hp with rfl | rfl
  · exact kS_la.symm
  · exact kS_lc.symm)
theorem dpa {l a c z : D} : putD3 (drawL l a c) (kS "at") z = drawL l z c := (putD3_neg kS_la).trans (congrArg _ (putD3_pos (by
  intro p hp
  simp only [List.mem_cons, List.not_mem_nil, or_false] at hp
  subst hp
  exact kS_ac.symm)))
theorem dpn {l a c : D} : mergeD [] [(kS "left", l), (kS "at", a), (kS "cells", c)] = drawL l a c := by
  show putD3 (putD3 (putD3 [] (kS "left") l) (kS "at") a) (kS "cells") c = _
  rw [putD3_nil, putD3_neg kS_la, putD3_nil, putD3_neg kS_lc, putD3_neg kS_ac, putD3_nil]
section
variable {K : PySem.W.Frag} {F H : Hp} {M Mf : Mem}
theorem own_drw {p : Addr} (s : StC K F H (M ++ Mf)) (h : (p, O.drw) ∈ M) : ∃ (kvs : List (Key × V)) (l a : Int) (cs : List Int), H p = some (.dK kvs) ∧ 0 ≤ l ∧ 0 ≤ a ∧ cs.length ≤ 63 ∧ Paired (RK K F) kvs (drawL (.int l) (.int a) (.lst (cs.map D.int))) := by
  obtain ⟨n, ho, e, r⟩ := s.own p _ (List.mem_append_left _ h)
  cases ho with
  | dK kvs =>
    obtain ⟨l, a, cs, h1, h2, h3, h4⟩ := r
    exact ⟨kvs, l, a, cs, e, h1, h2, h3, h4⟩
  | _ => exact absurd r (by intro z; exact z)
end
section
variable {K : PySem.W.Frag} {E : WX} {Ψ : PX} {ρ : Env3} {M : Mem} {N B C : Env3 → Mem → Prop} {R : D → Mem → Prop} {Φ : D → Mem → Prop}
/-- what is read of the draws' dict -/
inductive DrG : D → (D → Prop) → Prop
  | left {Q : D → Prop} (h : ∀ l : Int, 0 ≤ l → Q (.int l)) : DrG (.str "left") Q
  | at_ {Q : D → Prop} (h : ∀ l : Int, 0 ≤ l → Q (.int l)) : DrG (.str "at") Q
  | cells {Q : D → Prop} (h : ∀ cs : List Int, cs.length ≤ 63 → Q (.lst (cs.map D.int))) : DrG (.str "cells") Q
/-- what may be written there -/
inductive DrP : D → D → Prop
  | left {l : Int} (h : 0 ≤ l) : DrP (.str "left") (.int l)
  | at_ {l : Int} (h : 0 ≤ l) : DrP (.str "at") (.int l)
theorem DrG.get {y : D} {Q : D → Prop} (h : DrG y Q) {F : Hp} {kvs : List (Key × V)} {l a : Int} {cs : List Int} (h1 : 0 ≤ l) (h2 : 0 ≤ a) (h3 : cs.length ≤ 63) (r : Paired (RK K F) kvs (drawL (.int l) (.int a) (.lst (cs.map D.int)))) : ∃ k w z, y = keyD k ∧ valV kvs k = some w ∧ RD K F w z ∧ Q z := by
  cases h with
  | left h =>
    obtain ⟨w, e, rw'⟩ := RK.get r dgl
    exact ⟨kS "left", w, _, rfl, e, rw', h _ h1⟩
  | at_ h =>
    obtain ⟨w, e, rw'⟩ := RK.get r dga
    exact ⟨kS "at", w, _, rfl, e, rw', h _ h2⟩
  | cells h =>
    obtain ⟨w, e, rw'⟩ := RK.get r dgc
    exact ⟨kS "cells", w, _, rfl, e, rw', h _ h3⟩
theorem DrP.put {y z : D} (h : DrP y z) {F : Hp} {kvs : List (Key × V)} {l a : Int} {cs : List Int} {w : V} (h1 : 0 ≤ l) (h2 : 0 ≤ a) (h3 : cs.length ≤ 63) (r : Paired (RK K F) kvs (drawL (.int l) (.int a) (.lst (cs.map D.int)))) (rw' : RD K F w z) : ∃ k, y = keyD k ∧ RO K F (.dK (putK kvs k w)) .drw := by
  cases h with
  | @left n h =>
    refine ⟨kS "left", rfl, n, a, cs, h, h2, h3, ?_⟩
    have := RK.put (k := kS "left") rw' r
    rw [dpl] at this
    exact this
  | @at_ n h =>
    refine ⟨kS "at", rfl, l, n, cs, h1, h, h3, ?_⟩
    have := RK.put (k := kS "at") rw' r
    rw [dpa] at this
    exact this
theorem W.dgetW {td ty : TE} (h : W K E td ρ M (fun x M1 => W K E ty ρ M1 (fun y M2 => ∃ p, x = .ref p ∧ (p, O.drw) ∈ M2 ∧ DrG y (fun z => Φ z M2)) Ψ) Ψ) : W K E (tDGet td ty) ρ M Φ Ψ := fun σ F H Mf Q a s k q =>
  h σ F H Mf _ a s k fun v x F1 H1 M1 h1 r1 s1 c1 => h1 σ F1 H1 Mf _ (a.mono s1) c1 (k.mono s1) fun u y F2 H2 M2 ⟨p, ex, hm, hg⟩ r2 s2 c2 => by
    subst ex
    cases r1
    obtain ⟨kvs, l, at_, cs, e, g1, g2, g3, rk⟩ := own_drw c2 hm
    obtain ⟨kk, w, z, rfl, ew, rw', hz⟩ := hg.get g1 g2 g3 rk
    refine ⟨p, w, rfl, ?_, q _ _ F2 H2 M2 hz rw' (s1.trans s2) c2⟩
    rw [keyD_v r2, ← ew]
    exact DGet.k e
theorem S.dputW {td ty tv : TE} (h : W K E tv ρ M (fun z M1 => W K E td ρ M1 (fun x M2 => W K E ty ρ M2 (fun y M3 => ∃ p, x = .ref p ∧ (p, O.drw) ∈ M3 ∧ DrP y z ∧ N ρ M3) Ψ) Ψ) Ψ) : WS K E (sDPut td ty tv) ρ M ⟨N, R, B, C⟩ Ψ := fun σ F H Mf e a s k q =>
  h σ F H Mf _ a s k fun w z F0 H0 M0 h0 r0 s0 c0 => h0 σ F0 H0 Mf _ (a.mono s0) c0 (k.mono s0) fun v x F1 H1 M1 h1 r1 s1 c1 => h1 σ F1 H1 Mf _ (a.mono (s0.trans s1)) c1 (k.mono (s0.trans s1)) fun u y F2 H2 M2 ⟨p, ex, hm, hp, h2⟩ r2 s2 c2 => by
    subst ex
    cases r1
    obtain ⟨kvs, l, at_, cs, e', g1, g2, g3, rk⟩ := own_drw c2 hm
    obtain ⟨kk, rfl, ro⟩ := hp.put g1 g2 g3 rk (r0.mono (s1.trans s2))
    have hlen : kvs.length = 3 := Paired.length rk
    obtain ⟨A, B', eM⟩ := List.append_of_mem hm
    refine ⟨p, _, rfl, by rw [keyD_v r2]; exact DPut.k e' (by rw [hlen]; decide), q.nx σ ρ F2 _ _ h2 (a.mono ((s0.trans s1).trans s2)) ((s0.trans s1).trans s2) ?_⟩
    subst eM
    rw [List.append_assoc] at c2 ⊢
    exact StC.put c2 ro
theorem S.daugW {td ty tv : TE} {rd : R2} (h : W K E td ρ M (fun x M1 => W K E ty ρ M1 (fun y M2 => ∃ p, x = .ref p ∧ (p, O.drw) ∈ M2 ∧ DrG y (fun z => W K E tv ρ M2 (fun u M3 => OpD K rd z u M3 (fun r M4 => (p, O.drw) ∈ M4 ∧ DrP y r ∧ N ρ M4)) Ψ)) Ψ) Ψ) : WS K E (sDAug td ty tv rd) ρ M ⟨N, R, B, C⟩ Ψ := fun σ F H Mf e a s k q =>
  h σ F H Mf _ a s k fun v x F1 H1 M1 h1 r1 s1 c1 => h1 σ F1 H1 Mf _ (a.mono s1) c1 (k.mono s1) fun u y F2 H2 M2 ⟨p, ex, hm, hg⟩ r2 s2 c2 => by
    subst ex
    cases r1
    obtain ⟨kvs, l, at_, cs, e', g1, g2, g3, rk⟩ := own_drw c2 hm
    obtain ⟨kk, w, z, ey, ew, rw', h2⟩ := hg.get g1 g2 g3 rk
    subst ey
    refine ⟨p, w, rfl, ?_, ?_⟩
    · rw [keyD_v r2, ← ew]
      exact DGet.k e'
    · refine h2 σ F2 H2 Mf _ (a.mono (s1.trans s2)) c2 (k.mono (s1.trans s2)) fun v3 x3 F3 H3 M3 h3 r3 s3 c3 => h3 F3 H3 Mf w v3 _ (rw'.mono s3) r3 c3 fun v4 x4 F4 H4 M4 ⟨hm', hp', h4⟩ r4 s4 c4 => ?_
      obtain ⟨kvs', l', at', cs', e4, g1', g2', g3', rk'⟩ := own_drw c4 hm'
      obtain ⟨k2, ek, ro⟩ := hp'.put g1' g2' g3' rk' r4
      have ek : kk = k2 := by
        cases kk <;> cases k2 <;> cases ek <;> rfl
      subst ek
      have hlen : kvs'.length = 3 := Paired.length rk'
      have s14 := ((s1.trans s2).trans s3).trans s4
      obtain ⟨A, B', eM⟩ := List.append_of_mem hm'
      refine ⟨_, by rw [keyD_v r2]; exact DPut.k e4 (by rw [hlen]; decide), q.nx σ ρ F4 _ _ h4 (a.mono s14) s14 ?_⟩
      subst eM
      rw [List.append_assoc] at c4 ⊢
      exact StC.put c4 ro
theorem W.dispW {trs : List (TE × TE)} (h : WPs K E trs ρ M (fun ps M1 => ∃ (l a : Int) (cs : List Int), ps = [(.str "left", .int l), (.str "at", .int a), (.str "cells", .lst (cs.map D.int))] ∧ 0 ≤ l ∧ 0 ≤ a ∧ cs.length ≤ 63 ∧ AllA fun p => Φ (.ref p) ((p, .drw) :: M1)) Ψ) : W K E (tDisp trs) ρ M Φ Ψ := fun σ F H Mf Q a s k q => by
  intro p hp
  refine h σ F (upd H p (.dK [])) ((p, .dct []) :: Mf) _ a ((s.newO (ho := .dK []) (o := .dct []) hp Paired.nil).perm List.perm_middle.symm) (fun x ρ' M' F' H' σ' cls d p1 p2 p3 p4 p5 => ?_) fun vs xs F1 H1 M1 ⟨l, at_, cs, ex, g1, g2, g3, h1⟩ r1 s1 c1 => ?_
  · refine k x ρ' M' F' H' σ' cls d p1 p2 p3 ?_ p5
    exact (p4.perm (List.perm_middle)).dropM (A := [(p, O.dct [])])
  · have ex : xs = (drawL (.int l) (.int at_) (.lst (cs.map D.int))).map (fun kv => (keyD kv.1, kv.2)) := ex
    subst ex
    obtain ⟨kvs, rfl, rk⟩ := pairs_keys r1
    obtain ⟨kvs0, e0, rk0⟩ := own_dct (M := M1 ++ (p, O.dct []) :: Mf) (Mf := []) (p := p) (ks := []) (by rw [List.append_nil]; exact c1) (List.mem_append_right _ List.mem_cons_self)
    cases rk0
    refine ⟨e0, kvs, rfl, by rw [Paired.length rk]; exact Nat.le_of_ble_eq_true rfl, q _ _ F1 _ _ (h1 p) (.ref p) s1 ?_⟩
    have rm : RO K F1 (.dK (mergeK [] kvs)) .drw := ⟨l, at_, cs, g1, g2, g3, by have := RK.merge (kvs := []) (ks := []) rk Paired.nil; rw [dpn] at this; exact this⟩
    have c2 := StC.put (o' := .drw) (ho := .dK (mergeK [] kvs)) c1 rm
    exact c2.perm List.perm_middle
end
/-! ### the law's draws -/
inductive SpBegin : SpD
  | mk (ns : List Int) {M : Mem} {Φ : D → Mem → Prop} {Ψ : Ex → Mem → Prop} (h : ns.length ≤ 63) (k : AllA fun p => Φ (.ref p) ((p, .drw) :: M)) : SpBegin [.scr ns] M Φ Ψ
inductive SpMore : SpD
  | mk (p : Addr) {M : Mem} {Φ : D → Mem → Prop} {Ψ : Ex → Mem → Prop} (h : (p, O.drw) ∈ M) (k : ∀ n : Int, 0 ≤ n → Φ (.int n) M) : SpMore [.ref p] M Φ Ψ
inductive SpNext : SpD
  | mk (p : Addr) (m : Int) {M : Mem} {Φ : D → Mem → Prop} {Ψ : Ex → Mem → Prop} (h : (p, O.drw) ∈ M) (h0 : 0 < m) (h1 : m < 2 ^ 2000) (k : ∀ n : Int, 0 ≤ n → n < m → Φ (.int n) M) : SpNext [.ref p, .int m] M Φ Ψ
inductive SpPick : SpD
  | mk (p : Addr) (x : D) (ys : List D) {M : Mem} {Φ : D → Mem → Prop} {Ψ : Ex → Mem → Prop} (h : (p, O.drw) ∈ M) (hs : Seq M x ys) (h0 : 0 < ys.length) (h1 : ys.length < 100000) (k : ∀ y ∈ ys, Φ y M) : SpPick [.ref p, x] M Φ Ψ
end L3

namespace L3
open PySem PySem.Spec PyProof.Rows L2
theorem tn2 : Int.toNat 2 = 2 := rfl
theorem tn3 : Int.toNat 3 = 3 := rfl
theorem tn4 : Int.toNat 4 = 4 := rfl
theorem tn5 : Int.toNat 5 = 5 := rfl
theorem tn8 : Int.toNat 8 = 8 := rfl
theorem tn16 : Int.toNat 16 = 16 := rfl
theorem tn32 : Int.toNat 32 = 32 := rfl
/-- rows of whole numbers -/
abbrev lI (ns : List Int) : D := .lst (ns.map D.int)
abbrev tI (ns : List Int) : D := .tup (ns.map D.int)
abbrev lT (rs : List (List Int)) : D := .lst (rs.map tI)
abbrev tT (rs : List (List Int)) : D := .tup (rs.map tI)
theorem prp {p : Prop} (h : p) : p := h
/-! ### what is gone through, told by a row of another kind -/
def rn (n : Nat) : Src := ⟨(List.range n).map (fun (k : Nat) => D.int (k : Int)), fun _ => True⟩
theorem rn_eq {n : Nat} : ran 0 n = rn n := by
  unfold ran rn
  simp only [Int.zero_add]
def rc (lo c : Int) (n : Nat) : Src := ⟨(List.range n).map (fun (k : Nat) => D.int (lo + (k : Int) * c)), fun _ => True⟩
theorem range_get {n i a : Nat} (h : (List.range n)[i]? = some a) : i < n ∧ i = a := by
  have hi : i < n := by
    have := (List.getElem?_eq_some_iff.mp h).1
    simpa using this
  rw [List.getElem?_range hi] at h
  cases h
  exact ⟨hi, rfl⟩
section
variable {K : PySem.W.Frag} {E : WX} {Ψ : PX} {ρ : Env3} {M : Mem} {N B C : Env3 → Mem → Prop} {R : D → Mem → Prop} {Φ : D → Mem → Prop}
theorem seq_i {x : D} {xs : List D} {P : List D → Prop} (q : Seq M x xs) (h : P xs) : ∃ xs, Seq M x xs ∧ P xs := ⟨xs, q, h⟩
theorem WI.rn {ta : TA} {Θ : Src → Mem → Prop} (h : WA K E ta ρ M (fun xs M1 => ∃ (j : Int) (n : Nat), xs = [.int j] ∧ j.toNat = n ∧ -1000 ≤ j ∧ n < 2 ^ 60 ∧ Θ (rn n) M1) Ψ) : WI K E (iRng1 ta) ρ M Θ Ψ :=
  WI.rng1 fun σ F H Mf Q a s k qq => h σ F H Mf Q a s k fun vs xs F' H' M1 ⟨j, n, e, en, hj, hn, p⟩ => qq vs xs F' H' M1 ⟨j, e, by omega, by omega, by subst en; rw [rn_eq]; exact p⟩
theorem rn_i {n : Nat} {j : Int} {P : Nat → Prop} (e : j.toNat = n) (h0 : -1000 ≤ j) (h1 : n < 2 ^ 60) (h : P n) : ∃ (i : Int) (n : Nat), [D.int j] = [D.int i] ∧ i.toNat = n ∧ -1000 ≤ i ∧ n < 2 ^ 60 ∧ P n := ⟨j, n, rfl, e, h0, h1, h⟩
theorem WI.rn2 {ta : TA} {Θ : Src → Mem → Prop} (h : WA K E ta ρ M (fun xs M1 => ∃ (i j : Int), xs = [.int i, .int j] ∧ (-(2 ^ 62) ≤ i ∧ i < 2 ^ 62 ∧ -(2 ^ 62) ≤ j ∧ j < 2 ^ 62) ∧ Θ (ran i (j - i).toNat) M1) Ψ) : WI K E (iRng2 ta) ρ M Θ Ψ := WI.rng2 h
theorem rn2_i {i j : Int} {P : Int → Int → Prop} (h0 : -(2 ^ 62) ≤ i ∧ i < 2 ^ 62 ∧ -(2 ^ 62) ≤ j ∧ j < 2 ^ 62) (h : P i j) : ∃ (i' j' : Int), [D.int i, D.int j] = [D.int i', D.int j'] ∧ (-(2 ^ 62) ≤ i' ∧ i' < 2 ^ 62 ∧ -(2 ^ 62) ≤ j' ∧ j' < 2 ^ 62) ∧ P i' j' := ⟨i, j, rfl, h0, h⟩
theorem rn3_i {i j c : Int} {P : Int → Int → Int → Nat → Prop} (n : Nat) (h0 : RgC i j c n) (h : P i j c n) : ∃ (i' j' c' : Int), ∃ n' : Nat, [D.int i, D.int j, D.int c] = [D.int i', D.int j', D.int c'] ∧ RgC i' j' c' n' ∧ P i' j' c' n' := ⟨i, j, c, n, rfl, h0, h⟩
theorem enum_i {x : D} {xs : List D} {P : List D → Prop} (q : Seq M x xs) (hl : isL x = true) (h : P xs) : ∃ y xs, [x] = [y] ∧ Seq M y xs ∧ isL y = true ∧ P xs := ⟨x, xs, rfl, q, hl, h⟩
/-- a new row goes on, told by numbers where they are -/
def LcK (Φ : D → Mem → Prop) (M : Mem) (xs : List D) : Prop := Φ (.lst xs) M
theorem LcK.int {α : Type} {as : List α} {g : α → Int} (h : Φ (lI (as.map g)) M) : LcK Φ M (as.map fun a => D.int (g a)) := by
  unfold LcK
  rw [show (as.map fun a => D.int (g a)) = (as.map g).map D.int by rw [List.map_map]; rfl]
  exact h
theorem LcK.tI {α : Type} {as : List α} {g : α → List Int} (h : Φ (lT (as.map g)) M) : LcK Φ M (as.map fun a => tI (g a)) := by
  unfold LcK
  rw [show (as.map fun a => L3.tI (g a)) = (as.map g).map L3.tI by rw [List.map_map]; rfl]
  exact h
theorem LcK.any {xs : List D} (h : Φ (.lst xs) M) : LcK Φ M xs := h
theorem LcK.fmI {α β : Type} {as : List α} {bs : α → List β} {g : α → β → Int} (h : Φ (lI (as.flatMap fun a => (bs a).map (g a))) M) : LcK Φ M (as.flatMap fun a => (bs a).map fun b => D.int (g a b)) := by
  unfold LcK
  have e : (as.flatMap fun a => (bs a).map fun b => D.int (g a b)) = (as.flatMap fun a => (bs a).map (g a)).map D.int := by
    rw [List.map_flatMap]
    simp only [List.map_map, Function.comp_def]
  rw [e]
  exact h
theorem LcK.fmD {α : Type} {as : List α} {bs : α → List Int} (h : Φ (lI (as.flatMap bs)) M) : LcK Φ M (as.flatMap fun a => (bs a).map D.int) := by
  unfold LcK
  rw [← List.map_flatMap]
  exact h
/-- [e for x in xs]: each item told by a function -/
structure LcG (K : PySem.W.Frag) (g : TG) (te : TE) (vs : List Nat) (ρ : Env3) {α : Type} (s : Src) (M : Mem) (Φ : D → Mem → Prop) (as : List α) (f h : α → D) : Prop where
  it : AsM f s.its as
  need : s.need M
  len : as.length < 100000
  body : ∀ a ∈ as, WG K E0 g (f a) (wipeD ρ vs) M (fun ρ2 M2 => W K E0 te ρ2 M2 (fun y M3 => y = h a ∧ M3 = M) P0) P0
  k : LcK Φ M (as.map h)
theorem W.lcG {α : Type} {wi : TI} {g : TG} {te : TE} {vs : List Nat} {as : List α} {f h : α → D} (hg : GOnly g vs) (q : WI K E wi ρ M (fun s M1 => LcG K g te vs ρ s M1 Φ as f h) Ψ) : W K E (tLc wi g tYes te vs) ρ M Φ Ψ := by
  refine W.lcL hg fun σ F H Mf R a s k qq => q σ F H Mf R a s k fun sr F' H' M' J p s' c' jr => qq sr F' H' M' J ?_ s' c' jr
  have ei := p.it.eq
  refine ⟨as.map h, ?_, ?_, p.need, ?_, p.k⟩
  · rw [ei, List.length_map]; exact p.len
  · rw [ei, List.length_map, List.length_map]
  · intro i x y0 hx hy
    rw [ei, List.getElem?_map] at hx
    rw [List.getElem?_map] at hy
    cases e : as[i]? with
    | none => rw [e] at hx; cases hx
    | some a =>
      rw [e] at hx hy
      cases hx
      cases hy
      exact p.body a (List.mem_of_getElem? e)
/-- .. if t -/
structure LcF (K : PySem.W.Frag) (g : TG) (tt : TT) (te : TE) (vs : List Nat) (ρ : Env3) {α : Type} (s : Src) (M : Mem) (Φ : D → Mem → Prop) (as : List α) (f h : α → D) (c : α → Bool) : Prop where
  it : AsM f s.its as
  need : s.need M
  len : as.length < 100000
  body : ∀ a ∈ as, WG K E0 g (f a) (wipeD ρ vs) M (fun ρ2 M2 => WT K E0 tt ρ2 M2 (fun b M3 => b = c a ∧ M3 = M ∧ (c a = true → W K E0 te ρ2 M (fun y M4 => y = h a ∧ M4 = M) P0)) P0) P0
  k : LcK Φ M ((as.filter c).map h)
theorem W.lcF {α : Type} {wi : TI} {g : TG} {tt : TT} {te : TE} {vs : List Nat} {as : List α} {f h : α → D} {c : α → Bool} (hg : GOnly g vs) (q : WI K E wi ρ M (fun s M1 => LcF K g tt te vs ρ s M1 Φ as f h c) Ψ) : W K E (tLc wi g tt te vs) ρ M Φ Ψ := by
  refine W.lc hg fun σ F H Mf R a s k qq => q σ F H Mf R a s k fun sr F' H' M' J p s' c' jr => qq sr F' H' M' J ?_ s' c' jr
  have ei := p.it.eq
  have el : sr.its.length = as.length := by rw [ei, List.length_map]
  refine ⟨fun i acc M2 => acc = ((as.take i).filter c).map h ∧ M2 = M', ⟨rfl, rfl⟩, fun i acc M2 _ e => e.2 ▸ p.need, ?_, ?_⟩
  · rintro i x acc M2 hx ⟨rfl, rfl⟩
    rw [ei, List.getElem?_map] at hx
    cases e : as[i]? with
    | none => rw [e] at hx; cases hx
    | some a =>
      rw [e] at hx
      cases hx
      have hi : i < as.length := (List.getElem?_eq_some_iff.mp e).1
      refine ⟨line_lt ?_, ?_⟩
      · have h1 := p.len
        have h2 := List.length_filter_le c (as.take i)
        rw [List.length_take] at h2
        rw [List.length_map]
        omega
      · have et : as.take (i + 1) = as.take i ++ [a] := by rw [List.take_add_one, e]; rfl
        refine fun σ F H Mf v Q r a2 s k q => p.body a (List.mem_of_getElem? e) σ F H Mf v Q r a2 s k fun σ' ρ' F' H' M3 hw a' s' c' => q σ' ρ' F' H' M3 ?_ a' s' c'
        refine WT.mono hw ?_
        rintro b M4 ⟨rfl, rfl, hk⟩
        refine ⟨fun hb => W.mono (hk hb) ?_, fun hb => ⟨?_, rfl⟩⟩
        · rintro y M5 ⟨rfl, rfl⟩
          refine ⟨?_, rfl⟩
          rw [et, List.filter_append, List.filter_cons_of_pos hb, List.map_append]
          rfl
        · rw [et, List.filter_append, List.filter_cons_of_neg (by rw [hb]; exact Bool.false_ne_true), List.map_append]
          simp
  · rintro acc M2 ⟨rfl, rfl⟩
    rw [el, List.take_length]
    exact p.k
structure LcI (K : PySem.W.Frag) (g1 : TG) (te : TE) (vs1 : List Nat) (ρ2 : Env3) (M : Mem) {β : Type} (s1 : Src) (M4 : Mem) (bs : List β) (f1 : β → D) (h : β → D) (n : Nat) : Prop where
  me : M4 = M
  it : AsM f1 s1.its bs
  need : s1.need M
  len : bs.length ≤ n
  body : ∀ b ∈ bs, WG K E0 g1 (f1 b) (wipeD ρ2 vs1) M (fun ρ3 M6 => W K E0 te ρ3 M6 (fun z M8 => z = h b ∧ M8 = M) P0) P0
/-- [e for x in xs for y in ys] -/
structure LcH (K : PySem.W.Frag) (g : TG) (wi1 : TI) (g1 : TG) (te : TE) (vs vs1 : List Nat) (ρ : Env3) {α β : Type} (s : Src) (M : Mem) (Φ : D → Mem → Prop) (as : List α) (f : α → D) (bs : α → List β) (f1 : α → β → D) (h : α → β → D) (n : Nat) : Prop where
  it : AsM f s.its as
  need : s.need M
  len : as.length * n < 100000
  body : ∀ a ∈ as, WG K E0 g (f a) (wipeD ρ vs) M (fun ρ2 M2 => WI K E0 wi1 ρ2 M2 (fun s1 M4 => LcI K g1 te vs1 ρ2 M s1 M4 (bs a) (f1 a) (h a) n) P0) P0
  k : LcK Φ M (as.flatMap fun a => (bs a).map (h a))
theorem flatMap_len {α β : Type} {as : List α} {f : α → List β} {n : Nat} (h : ∀ a ∈ as, (f a).length ≤ n) : (as.flatMap f).length ≤ as.length * n := by
  induction as with
  | nil => simp
  | cons a as ih =>
    have h1 := h a List.mem_cons_self
    have h2 := ih fun b hb => h b (List.mem_cons_of_mem _ hb)
    rw [List.flatMap_cons, List.length_append, List.length_cons, Nat.add_mul]
    omega
theorem W.lcH {α β : Type} {wi wi1 : TI} {g g1 : TG} {te : TE} {vs vs1 : List Nat} {as : List α} {f : α → D} {bs : α → List β} {f1 h : α → β → D} (n : Nat) (hg : GOnly g vs) (hg1 : GOnly g1 vs1) (q : WI K E wi ρ M (fun s M1 => LcH K g wi1 g1 te vs vs1 ρ s M1 Φ as f bs f1 h n) Ψ) : W K E (tLc2 wi g tYes wi1 g1 tYes te vs vs1) ρ M Φ Ψ := by
  refine W.lc2 hg hg1 fun σ F H Mf R a s k qq => q σ F H Mf R a s k fun sr F' H' M' J p s' c' jr => qq sr F' H' M' J ?_ s' c' jr
  have ei := p.it.eq
  have el : sr.its.length = as.length := by rw [ei, List.length_map]
  refine ⟨fun i acc M2 => acc = (as.take i).flatMap (fun a => (bs a).map (h a)) ∧ acc.length ≤ i * n ∧ M2 = M', ⟨rfl, by simp, rfl⟩, fun i acc M2 _ e => e.2.2 ▸ p.need, ?_, ?_⟩
  · rintro i x acc M2 hx ⟨rfl, hl, rfl⟩
    rw [ei, List.getElem?_map] at hx
    cases e : as[i]? with
    | none => rw [e] at hx; cases hx
    | some a =>
      rw [e] at hx
      cases hx
      have hi : i < as.length := (List.getElem?_eq_some_iff.mp e).1
      have hin : (i + 1) * n ≤ as.length * n := Nat.mul_le_mul_right n hi
      have hb0 := p.len
      rw [Nat.add_mul, Nat.one_mul] at hin
      have et : as.take (i + 1) = as.take i ++ [a] := by rw [List.take_add_one, e]; rfl
      refine fun σ F H Mf v Q r a2 s k q => p.body a (List.mem_of_getElem? e) σ F H Mf v Q r a2 s k fun σ' ρ' F' H' M3 hw a' s' c' => q σ' ρ' F' H' M3 ?_ a' s' c'
      refine fun σ F H Mf Q a3 s k q => q true F H M3 ⟨fun _ => ?_, fun z => Bool.noConfusion z⟩ (Same.refl _) s
      refine fun σ F H Mf R a3 s k qq => hw σ F H Mf R a3 s k fun s1 F' H' M4 J p1 s' c' jr => qq s1 F' H' M4 J ?_ s' c' jr
      have eb := p1.it.eq
      have hme := p1.me
      subst hme
      have hlb := p1.len
      refine ⟨fun j ac M5 => ac = (as.take i).flatMap (fun a => (bs a).map (h a)) ++ ((bs a).take j).map (h a) ∧ M5 = M4, ⟨by simp, rfl⟩, fun j ac M5 hj ⟨_, e⟩ => e ▸ p1.need, ?_, ?_⟩
      · rintro j y ac M5 hy ⟨rfl, rfl⟩
        rw [eb, List.getElem?_map] at hy
        cases e2 : (bs a)[j]? with
        | none => rw [e2] at hy; cases hy
        | some b =>
          rw [e2] at hy
          cases hy
          refine ⟨line_lt ?_, ?_⟩
          · have hj : j < (bs a).length := (List.getElem?_eq_some_iff.mp e2).1
            rw [List.length_append, List.length_map, List.length_take]
            omega
          · refine fun σ F H Mf v Q r a s k q => p1.body b (List.mem_of_getElem? e2) σ F H Mf v Q r a s k fun σ' ρ' F' H' M6 hw a' s' c' => q σ' ρ' F' H' M6 ?_ a' s' c'
            refine fun σ F H Mf Q a s k q => q true F H M6 ⟨fun _ => ?_, fun z => Bool.noConfusion z⟩ (Same.refl _) s
            refine W.mono hw fun z M8 ⟨e1, e3⟩ => ⟨?_, e3⟩
            rw [e1, List.take_add_one, e2, List.map_append, List.append_assoc]
            rfl
      · rintro ac M5 ⟨rfl, rfl⟩
        have elb : s1.its.length = (bs a).length := by rw [eb, List.length_map]
        refine ⟨?_, ?_, rfl⟩
        · rw [et, List.flatMap_append, elb, List.take_length]
          simp
        · rw [elb, List.take_length, List.length_append, List.length_map, Nat.add_mul]
          omega
  · rintro acc M2 ⟨rfl, _, rfl⟩
    rw [el, List.take_length]
    exact p.k
/-! ### for, over what is told by a row of another kind -/
/-- it holds wherever no less is known of the names -/
def Fin (N : Env3 → Mem → Prop) (e : Env3) (m : Mem) : Prop := ∀ ρ', Le e ρ' → N ρ' m
theorem Le.trans {a b : Env3} (h : Le a b) : ∀ {c : Env3}, Le b c → Le a c := by
  induction h with
  | nil => exact fun h => h
  | skip _ ih => intro c h; cases h with
    | skip h => exact .skip (ih h)
    | same h => exact .skip (ih h)
  | same _ ih => intro c h; cases h with
    | skip h => exact .skip (ih h)
    | same h => exact .same (ih h)
theorem Fin.ws {t : TS} {d : DD} {e : Env3} {m : Mem} (h : WS K E t e m d Ψ) : Fin (fun ρ1 M1 => WS K E t ρ1 M1 d Ψ) e m := fun ρ' l => WS.le l h
theorem Fin.any {P : Mem → Prop} {e : Env3} {m : Mem} (h : P m) : Fin (fun _ M1 => P M1) e m := fun _ _ => h
theorem Fin.is {σ : Type} {env : σ → Env3} {mem : σ → Mem} {P : σ → Prop} {e : Env3} {m : Mem} (h : Is env mem P e m) : Fin (Is env mem P) e m := fun ρ' l => by
  obtain ⟨s, h1, h2, h3⟩ := h.ex
  exact ⟨s, h1, h2.trans l, h3⟩
structure ForG (K : PySem.W.Frag) (E : WX) (g : TG) (tb : TS) (N : Env3 → Mem → Prop) (R : D → Mem → Prop) (Ψ : PX) (ρ : Env3) {σ α : Type} (env : σ → Env3) (mem : σ → Mem) (I : Nat → σ → Prop) (s : Src) (M : Mem) (as : List α) (f : α → D) : Prop where
  it : AsM f s.its as
  start : ∃ s0, I 0 s0 ∧ Le (env s0) ρ ∧ Sb (mem s0) M
  need : ∀ i st, I i st → s.need (mem st)
  turn : ∀ (i : Nat) (a : α) st, as[i]? = some a → I i st → WG K E g (f a) (env st) (mem st) (fun ρ2 M2 => WS K E tb ρ2 M2 ⟨Is env mem (I (i + 1)), R, N, Is env mem (I (i + 1))⟩ Ψ) Ψ
  k : ∀ st, I as.length st → Fin N (env st) (mem st)
theorem S.forG {wi : TI} {g : TG} {tb : TS} {σ α : Type} (env : σ → Env3) (mem : σ → Mem) (I : Nat → σ → Prop) {as : List α} {f : α → D}
    (h : WI K E wi ρ M (fun s M1 => ForG K E g tb N R Ψ ρ env mem I s M1 as f) Ψ) : WS K E (tFor wi g tb) ρ M ⟨N, R, B, C⟩ Ψ := by
  refine S.forI env mem I fun σ F H Mf Q a s k q => h σ F H Mf Q a s k fun sr F' H' M' J p s' c' jr => q sr F' H' M' J ?_ s' c' jr
  have ei := p.it.eq
  refine ⟨p.start, fun i st _ => p.need i st, ?_, ?_⟩
  · intro i x st hx hI
    rw [ei, List.getElem?_map] at hx
    cases e : as[i]? with
    | none => rw [e] at hx; cases hx
    | some a =>
      rw [e] at hx
      cases hx
      exact p.turn i a st e hI
  · intro st hI
    rw [ei, List.length_map] at hI
    exact p.k st hI
/-- .. that leaves all as it is -/
structure ForU (K : PySem.W.Frag) (E : WX) (g : TG) (tb : TS) (N : Env3 → Mem → Prop) (R : D → Mem → Prop) (Ψ : PX) (ρ e : Env3) {α : Type} (s : Src) (M : Mem) (as : List α) (f : α → D) : Prop where
  it : AsM f s.its as
  start : Le e ρ
  need : s.need M
  turn : ∀ (i : Nat) (a : α), as[i]? = some a → WG K E g (f a) e M (fun ρ2 M2 => WS K E tb ρ2 M2 ⟨fun ρ' M' => Le e ρ' ∧ Sb M M', R, N, fun ρ' M' => Le e ρ' ∧ Sb M M'⟩ Ψ) Ψ
  k : Fin N e M
theorem S.forU {wi : TI} {g : TG} {tb : TS} {α : Type} (e : Env3) {as : List α} {f : α → D}
    (h : WI K E wi ρ M (fun s M1 => ForU K E g tb N R Ψ ρ e s M1 as f) Ψ) : WS K E (tFor wi g tb) ρ M ⟨N, R, B, C⟩ Ψ := by
  intro σ F H Mf x a s k q
  refine h σ F H Mf _ a s k fun sr F' H' M1 J p s' c' jr => ?_
  have ei := p.it.eq
  refine ⟨fun i m σ' H2 => ∃ F2, i ≤ sr.its.length ∧ m = sr.its.length - i ∧ EnvR K F2 σ' e ∧ Same F' F2 ∧ StC K F2 H2 (M1 ++ Mf), ⟨_, F', Nat.zero_le _, rfl, (a.mono s').le p.start, Same.refl _, c'⟩, ?_⟩
  rintro i m σ' H2 ⟨F2, hi, rfl, a2, s2, c2⟩
  obtain ⟨jg, js, jy⟩ := jr F2 H2 M1 Mf s2 c2 p.need
  by_cases hlt : i < sr.its.length
  · refine .inr ⟨jg i hlt, fun σ3 H3 => ∃ F3, EnvR K F3 σ3 e ∧ Same F' F3 ∧ StC K F3 H3 (M1 ++ Mf), fun σ3 H3 ⟨F3, h2, h3, h4⟩ => ⟨sr.its.length - (i + 1), by omega, F3, hlt, rfl, h2, h3, h4⟩, fun v H3 y => ?_⟩
    have hx : sr.its[i]? = some sr.its[i] := List.getElem?_eq_getElem hlt
    obtain ⟨F3, e3, c3, r3⟩ := jy i _ v H3 hx y
    have eK2 := (k.mono s').mono (s2.trans e3)
    have hlt2 : i < as.length := by rw [ei, List.length_map] at hlt; exact hlt
    have h5 : sr.its[i]? = some (f as[i]) := by rw [ei, List.getElem?_map, List.getElem?_eq_getElem hlt2]; rfl
    have hb : sr.its[i] = f as[i] := Option.some.inj (hx.symm.trans h5)
    rw [hb] at r3
    refine p.turn i as[i] (List.getElem?_eq_getElem hlt2) σ' F3 H3 Mf v _ r3 (a2.mono e3) c3 eK2 fun σ4 ρ4 F4 H4 M4 h4 a4 s4 c4 => ?_
    have s14 : Same F' F4 := (s2.trans e3).trans s4
    exact h4 σ4 F4 H4 Mf _ a4 c4 (eK2.mono s4) ⟨fun σ5 ρ5 F5 H5 M5 ⟨l, mm⟩ a5 s5 c5 => ⟨F5, a5.le l, s14.trans s5, StC.subM mm c5⟩, fun v5 x5 F5 H5 M5 p5 r5 s5 c5 => q.rt v5 x5 F5 H5 M5 p5 r5 ((s'.trans s14).trans s5) c5,
      fun σ5 ρ5 F5 H5 M5 p5 a5 s5 c5 => q.nx σ5 ρ5 F5 H5 M5 p5 a5 ((s'.trans s14).trans s5) c5, fun σ5 ρ5 F5 H5 M5 ⟨l, mm⟩ a5 s5 c5 => ⟨F5, a5.le l, s14.trans s5, StC.subM mm c5⟩⟩
  · have e0 : i = sr.its.length := by omega
    subst e0
    exact .inl ⟨js _ (Nat.le_refl _), q.nx σ' e F2 H2 M1 (p.k e (Le.refl _)) a2 (s'.trans s2) c2⟩
theorem W.leE {t : TE} {ρ' : Env3} (e : Le ρ' ρ) (h : W K E t ρ' M Φ Ψ) : W K E t ρ M Φ Ψ := fun σ F H Mf Q a s k q => h σ F H Mf Q (a.le e) s k q
/-- what stands behind a statement, from a state -/
theorem S.toN {t : TS} {σ : Type} (env : σ → Env3) (mem : σ → Mem) (P : σ → Prop) (h : WS K E t ρ M ⟨Is env mem P, R, B, C⟩ Ψ) (h2 : ∀ s, P s → Fin N (env s) (mem s)) : WS K E t ρ M ⟨N, R, B, C⟩ Ψ :=
  fun σ F H Mf x a s k q => h σ F H Mf x a s k ⟨fun σ' ρ' F' H' M' ⟨st, hs, e, m⟩ a' s' c' => q.nx σ' (env st) F' H' (mem st) (h2 st hs _ (Le.refl _)) (a'.le e) s' (StC.subM m c'), q.rt, q.bk, q.ct⟩
/-! ### a place of a row told by a row of another kind -/
def IxS (M : Mem) (Φ : D → Mem → Prop) (xs : List D) (i : Int) : Prop := 0 ≤ i ∧ i < xs.length ∧ ∀ y, xs[i.toNat]? = some y → Φ y M
theorem OpD.ixS {x : D} {xs : List D} {i : Int} (q : Seq M x xs) (h : IxS M Φ xs i) : OpD K (oIx K) x (.int i) M Φ := by
  have hl : i.toNat < xs.length := by have := h.1; have := h.2.1; omega
  exact .ixN q h.1 (List.getElem?_eq_getElem hl) (h.2.2 _ (List.getElem?_eq_getElem hl))
theorem IxS.map {α : Type} [Inhabited α] {f : α → D} {as : List α} {i : Int} (h0 : 0 ≤ i) (h1 : i < as.length) (k : Φ (f (as.getD i.toNat default)) M) : IxS M Φ (as.map f) i :=
  ⟨h0, by rw [List.length_map]; exact h1, fun y hy => by rw [map_at h0 h1] at hy; cases hy; exact k⟩
theorem IxS.ran {f : Nat → D} {n : Nat} {i : Int} (h0 : 0 ≤ i) (h1 : i < n) (k : Φ (f i.toNat) M) : IxS M Φ ((List.range n).map f) i :=
  ⟨h0, by rw [List.length_map, List.length_range]; exact h1, fun y hy => by
    have h : i.toNat < n := by omega
    rw [List.getElem?_map, List.getElem?_range h] at hy
    cases hy
    exact k⟩
theorem IxS.ran2 {α : Type} {f : α → D} {b : Nat → α} {n : Nat} {i : Int} (h0 : 0 ≤ i) (h1 : i < n) (k : Φ (f (b i.toNat)) M) : IxS M Φ (((List.range n).map b).map f) i := by
  rw [List.map_map]
  exact .ran h0 h1 k
theorem IxS.ran2N {α : Type} {f : α → D} {b : Nat → α} {n i : Nat} (h1 : i < n) (k : Φ (f (b i)) M) : IxS M Φ (((List.range n).map b).map f) (i : Int) := .ran2 (by omega) (by omega) k
theorem IxS.ints {xs : List D} {ns : List Int} {i : Int} (e : AsM D.int xs ns) (h0 : 0 ≤ i) (h1 : i < ns.length) (k : ∀ a ∈ ns, Φ (.int a) M) : IxS M Φ xs i := by
  have e := e.eq
  subst e
  have hl : i.toNat < ns.length := by omega
  refine IxS.map h0 h1 (k _ ?_)
  rw [List.getD_eq_getElem?_getD, List.getElem?_eq_getElem hl]
  exact List.getElem_mem hl
theorem IxS.each {xs : List D} {i : Int} (h0 : 0 ≤ i) (h1 : i < xs.length) (k : ∀ y ∈ xs, Φ y M) : IxS M Φ xs i := ⟨h0, h1, fun y hy => k y (List.mem_of_getElem? hy)⟩
theorem IxS.ranN {f : Nat → D} {n i : Nat} (h1 : i < n) (k : Φ (f i) M) : IxS M Φ ((List.range n).map f) (i : Int) := .ran (by omega) (by omega) k
theorem IxS.mapN {α : Type} [Inhabited α] {f : α → D} {as : List α} {i : Nat} (h1 : i < as.length) (k : Φ (f (as.getD i default)) M) : IxS M Φ (as.map f) (i : Int) := .map (by omega) (by omega) k
/-! ### rows of truths, of numbers -/
theorem CbD.allM {α : Type} {as : List α} {p : α → Bool} (h : Φ (.bl (as.all p)) M) : CbD K (cAll K) [.lst (as.map fun a => D.bl (p a))] M Φ := by
  rw [show (as.map fun a => D.bl (p a)) = (as.map p).map D.bl by rw [List.map_map]; rfl]
  refine CbD.all ?_
  rw [List.all_map]
  exact h
theorem CbD.anyM {α : Type} {as : List α} {p : α → Bool} (h : Φ (.bl (as.any p)) M) : CbD K (cAny K) [.lst (as.map fun a => D.bl (p a))] M Φ := by
  rw [show (as.map fun a => D.bl (p a)) = (as.map p).map D.bl by rw [List.map_map]; rfl]
  refine CbD.any ?_
  rw [List.any_map]
  exact h
theorem CbD.sumM {α : Type} {as : List α} {p : α → Int} (h : Φ (.int (as.map p).sum) M) : CbD K (cSum K) [.lst (as.map fun a => D.int (p a))] M Φ := by
  rw [show (as.map fun a => D.int (p a)) = (as.map p).map D.int by rw [List.map_map]; rfl]
  exact CbD.sum h
/-! ### a, b told as one row -/
theorem OpD.add_tupL {α : Type} {f : α → D} {as bs : List α} (h0 : as ≠ []) (hl : as.length + bs.length ≤ 100000) (h : Φ (.tup ((as ++ bs).map f)) M) : OpD K (oAdd K) (.tup (as.map f)) (.tup (bs.map f)) M Φ :=
  OpD.add_tup (fun z => h0 (List.map_eq_nil_iff.mp z)) (line_of (by rw [List.length_map, List.length_map]; exact hl)) (by rw [← List.map_append]; exact h)
/-! ### slices of what is told by a row of another kind -/
def cut {α : Type} (as : List α) (lo hi : Int) : List α := (as.drop lo.toNat).take (hi.toNat - lo.toNat)
theorem cutD_map {α : Type} {f : α → D} {as : List α} {lo hi : Int} (h0 : 0 ≤ lo) (h1 : lo ≤ hi) (h2 : hi ≤ as.length) : cutD (as.map f) (some lo) (some hi) = (cut as lo hi).map f := by
  have e1 : lo = ((lo.toNat : Nat) : Int) := by omega
  have e2 : hi = ((hi.toNat : Nat) : Int) := by omega
  unfold cutD cut
  rw [e1, e2, HT.sIx_nat, HT.sIx_nat, List.length_map, Nat.min_eq_left (by omega), Nat.min_eq_left (by omega), Int.toNat_natCast, Int.toNat_natCast, List.map_take, List.map_drop]
/-- x[lo:hi], told items; a list -/
theorem SlD.lstM {α : Type} {f : α → D} {as : List α} {x : D} {lo hi : Int} (q : Seq M x (as.map f)) (hb : isL x = true) (h0 : 0 ≤ lo) (h1 : lo ≤ hi) (h2 : hi ≤ as.length) (h : Φ (.lst ((cut as lo hi).map f)) M) : SlD K (sSeq K) x (some lo) (some hi) M Φ :=
  SlD.lst q hb (by rw [cutD_map h0 h1 h2]; exact h)
theorem SlD.tupM {α : Type} {f : α → D} {as : List α} {lo hi : Int} (h0 : 0 ≤ lo) (h1 : lo ≤ hi) (h2 : hi ≤ as.length) (h3 : hi - lo < as.length) (h : Φ (.tup ((cut as lo hi).map f)) M) : SlD K (sSeq K) (.tup (as.map f)) (some lo) (some hi) M Φ := by
  refine SlD.tup ?_ (by rw [cutD_map h0 h1 h2]; exact h)
  rintro ⟨g1, g2⟩
  have e1 : lo = ((lo.toNat : Nat) : Int) := by omega
  have e2 : hi = ((hi.toNat : Nat) : Int) := by omega
  rw [e1, HT.sIx_nat, List.length_map] at g1
  rw [e2, HT.sIx_nat, List.length_map] at g2
  omega
theorem SlD.anyM {α : Type} {f : α → D} {as : List α} {x : D} {lo hi : Int} (q : Seq M x (as.map f)) (h0 : 0 ≤ lo) (h1 : lo ≤ hi) (h2 : hi ≤ as.length) (h3 : hi - lo < as.length) (h : ∀ y, y = .lst ((cut as lo hi).map f) ∨ y = .tup ((cut as lo hi).map f) → Φ y M) : SlD K (sSeq K) x (some lo) (some hi) M Φ := by
  cases hb : isL x with
  | true => exact .lstM q hb h0 h1 h2 (h _ (.inl rfl))
  | false =>
    cases x with
    | tup xs =>
      cases q
      exact .tupM h0 h1 h2 h3 (h _ (.inr rfl))
    | _ => exact absurd hb (by intro z; exact Bool.noConfusion z)
end
end L3

namespace L3
open PySem PySem.Spec PyProof.Rows L2
section
variable {K : PySem.W.Frag} {E : WX} {Ψ : PX} {ρ : Env3} {M : Mem} {N B C : Env3 → Mem → Prop} {R : D → Mem → Prop} {Φ : D → Mem → Prop}
/-- a name that holds a list of ours: from now on nobody writes it -/
theorem W.varF {i : Nat} {p : Addr} {xs : List D} {M' : Mem} (h : ρ[i]? = some (some (.ref p))) (hm : Rm p (.lst xs) M M') (q : Φ (.lst xs) M') : W K E (tVar i) ρ M Φ Ψ := fun σ F H Mf Q e s _ k => by
  obtain ⟨v, h1, h2⟩ := e.get h
  cases h2
  obtain ⟨A, B', rfl, rfl⟩ := hm.split
  rw [List.append_assoc, List.cons_append] at s
  obtain ⟨vs, ev, rs, s2, c2⟩ := StC.frozen s
  refine ⟨_, h1, k _ (.lst xs) _ H (A ++ B') q (.lst upd_same (rs.mono s2)) s2 (by rw [List.append_assoc]; exact c2)⟩
theorem S.retF {i : Nat} {p : Addr} {xs : List D} {M' : Mem} (h : ρ[i]? = some (some (.ref p))) (hm : Rm p (.lst xs) M M') (q : R (.lst xs) M') : WS K E (tRet (tVar i)) ρ M ⟨N, R, B, C⟩ Ψ := S.ret (W.varF h hm q)
/-- what stands behind a statement: these names, these cells -/
theorem S.cutE {t u : TS} (ρ1 : Env3) (M1 : Mem) (h : WS K E t ρ M ⟨fun ρ' M' => ρ' = ρ1 ∧ M' = M1, R, B, C⟩ Ψ) (h2 : WS K E u ρ1 M1 ⟨N, R, B, C⟩ Ψ) : WS K E (tSeq t u) ρ M ⟨N, R, B, C⟩ Ψ :=
  S.seq (WS.mono h (fun ρ' M' ⟨e1, e2⟩ => by subst e1; subst e2; exact h2) (fun _ _ h => h) (fun _ _ h => h) (fun _ _ h => h))
theorem Fin.leU {e0 e : Env3} {m m0 : Mem} (h : Le e0 e) (hm : Sb m0 m) : Fin (fun ρ' M' => Le e0 ρ' ∧ Sb m0 M') e m := fun ρ' l => ⟨h.trans l, hm⟩
theorem leU {e0 e : Env3} {m m0 : Mem} (h : Le e0 e) (hm : Sb m0 m) : Le e0 e ∧ Sb m0 m := ⟨h, hm⟩
theorem cut_eq {ρ' ρ1 : Env3} {M' M1 : Mem} (e : ρ' = ρ1) (m : M' = M1) : ρ' = ρ1 ∧ M' = M1 := ⟨e, m⟩
theorem MtD.appendM {α : Type} {f : α → D} {p : Addr} {as : List α} {a : α} {y : D} {g : O → Mem} (hm : Sp p (O.lst (as.map f)) M g) (hy : y = f a) (hl : as.length < 100000) (h : Φ .non (g (.lst ((as ++ [a]).map f)))) : MtD K mAppend (.ref p) [y] M Φ := by
  subst hy
  exact MtD.append hm (line_lt (by rw [List.length_map]; exact hl)) (by rw [List.map_append] at h; exact h)
theorem MtD.extM {α : Type} {f : α → D} {p : Addr} {as bs : List α} {y : D} {g : O → Mem} (hm : Sp p (O.lst (as.map f)) M g) (hy : y = .lst (bs.map f) ∨ y = .tup (bs.map f)) (hl : as.length + bs.length ≤ 100000) (h : Φ .non (g (.lst ((as ++ bs).map f)))) : MtD K (mExtS K) (.ref p) [y] M Φ :=
  MtD.ext hm hy (line_of (by rw [List.length_map, List.length_map]; exact hl)) (by rw [List.map_append] at h; exact h)
end
end L3

namespace L3
open PySem PySem.Spec PyProof.Rows L2
/-! ### objects of own classes: what the machine does -/
section
variable {X : Cx} {CX : CXT} {k : Nat} {f C : Addr} {fd : FuncData} {ps : List Str} {sp : L2.Sp} {dvs : List V} {ds : List Value} {E : L2.St → XK} {x m : Str} {p pos apos pos' tpos : Pos} {e o value : Expr} {es : List Expr} {ta tv : TE} {t : TA}
def tMethSD (C : Addr) (m : Str) (sp : L2.Sp) (dvs : List V) (E : L2.St → XK) (ta : TE) (t : TA) : TE := fun σ H Q => ta σ H fun x H1 => ∃ a dx fs, x = .ref a ∧ H1 a = some (.ins C dx fs) ∧ fs.lookup m = none ∧
  t σ H1 fun vs H2 => sp (x :: (vs ++ dvs)) H2 Q (E σ)
def tMakeSD (C : Addr) (sp : L2.Sp) (dvs : List V) (E : L2.St → XK) (t : TA) : TE := fun σ H Q => t σ H fun vs H1 => ∀ x dx, H1 x = none → H1 dx = none → dx ≠ x →
  sp (.ref x :: (vs ++ dvs)) (upd (upd H1 dx (.own x)) x (.ins C dx [])) (fun v H2 => v = .non ∧ Q (.ref x) H2) (E σ)
theorem pe_methSD {pl : Sem Bool} (he : PE X o ta) (c : Cls X.K C) (hm : Meth X.K C m f) (F : FnOk X.prog X.w X.K X.mg X.base CX k f fd ps sp) (hr : Room k X.A) (hb : Binds X.K fd ps ds) (hd : Vals dvs ds) (hx : ∀ σ, PassesAt CX X σ (E σ)) (ha : PA X (e :: es) t)
    (hst : starEach (e :: es) X.env = (false, eval e X.env) :: starEach es X.env := by rfl) (hpl : (backTo pos (starEach es X.env)).any (·.1) = false := by rfl)
    (ht : eval (.Call (.Attribute o m apos) (e :: es) [] pos) X.env = (do
      let ov ← eval o X.env
      standAt apos.atName
      let (f, first) ← holding [ov] (getMethod ov m pl)
      callWith pos f first (backTo pos (starEach (e :: es) X.env)) (backToKw pos (keywordEach [] X.env))) := by rfl) :
    PE X (.Call (.Attribute o m apos) (e :: es) [] pos) (tMethSD C m sp dvs E ta t) := by
  refine ⟨fun pins s σ H Q I h => ?_⟩
  refine PySem.W.methodCall_KW (pl := pl) (thn (he.run pins s σ H _ I h) fun u s1 ⟨x, H1, I1, rx, a, dx, fs, ex, ea, l, q⟩ => ?_) ht
  subst ex
  obtain rfl : u = Value.ref a := rx
  refine getmeth_ok I1 ea c hm l ?_
  refine PySem.W.callWith_K (first := [.ref a]) (h₀ := X.base) I.ok.mod.kin hm.kp (thn (ha.run pos pins s1 σ H1 _ I1 q) fun us s2 ⟨vs, H2, I2, r, q2⟩ => ⟨I2.kIn, ?_⟩) hst hpl
  exact run_fnSD (us := .ref a :: us) (vs := .ref a :: vs) F hr hb hd (hx σ) I2 (.cons rfl r) q2
theorem pe_meth0SD {pl : Sem Bool} (he : PE X o ta) (c : Cls X.K C) (hm : Meth X.K C m f) (F : FnOk X.prog X.w X.K X.mg X.base CX k f fd ps sp) (hr : Room k X.A) (hb : Binds X.K fd ps ds) (hd : Vals dvs ds) (hx : ∀ σ, PassesAt CX X σ (E σ))
    (ht : eval (.Call (.Attribute o m apos) [] [] pos) X.env = (do
      let ov ← eval o X.env
      standAt apos.atName
      let (f, first) ← holding [ov] (getMethod ov m pl)
      callWith pos f first (backTo pos (starEach [] X.env)) (backToKw pos (keywordEach [] X.env))) := by rfl) :
    PE X (.Call (.Attribute o m apos) [] [] pos) (tMethSD C m sp dvs E ta tNil) := by
  refine ⟨fun pins s σ H Q I h => ?_⟩
  refine PySem.W.methodCall_KW (pl := pl) (thn (he.run pins s σ H _ I h) fun u s1 ⟨x, H1, I1, rx, a, dx, fs, ex, ea, l, q⟩ => ?_) ht
  subst ex
  obtain rfl : u = Value.ref a := rx
  refine getmeth_ok I1 ea c hm l ?_
  exact PySem.W.callWith_K0 (first := [.ref a]) I1.kIn hm.kp (run_fnSD (us := [.ref a]) (vs := [.ref a]) F hr hb hd (hx σ) I1 (.cons rfl .nil) q)
theorem run_makeSD {pins : List (Addr × Obj)} {σ : L2.St} {H : Hp} {s : Shared} {Q : VK} {us : List Value} {vs : List V} (M : Mk X.K C f) (F : FnOk X.prog X.w X.K X.mg X.base CX k f fd ps sp) (hr : Room (k + 1) X.A) (hb : Binds X.K fd ps ds) (hd : Vals dvs ds)
    (hx : PassesAt CX X σ (E σ)) (hE : ∀ (H1 H2 : Hp) (s1 s2 : Shared) (e : Value) (s' : Shared), CX X.stack H2 s2 (E σ) e s' → Inv X pins σ H2 s2 → X.xe e s') (I : Inv X pins σ H s) (r : Vals vs us)
    (h : ∀ x dx, H x = none → H dx = none → dx ≠ x → sp (.ref x :: (vs ++ dvs)) (upd (upd H dx (.own x)) x (.ins C dx [])) (fun v H2 => v = .non ∧ Q (.ref x) H2) (E σ)) :
    wpAny (model X.prog X.w) X.A (call (.ref C) us) (EP X pins σ Q) X.xe s := by
  have hq := h (s.heap.objs.size + 1) s.heap.objs.size (I.hok.fresh (Nat.le_succ _)) (I.hok.fresh (Nat.le_refl _)) (Nat.ne_of_lt (Nat.lt_succ_self _))
  have I2 := Inv.made (C := C) I
  have r2 : Vals (V.ref (s.heap.objs.size + 1) :: (vs ++ dvs)) (Value.ref (s.heap.objs.size + 1) :: (us ++ ds)) := .cons rfl (r.append hd)
  have hl : (Value.ref (s.heap.objs.size + 1) :: us ++ ds).length = ps.length := by
    have e := r2.length
    rw [F.len _ _ _ _ hq] at e
    exact e.symm
  refine wpAny_call (make_map (f := f) I.kIn M.makes M.init (beq_iff_eq.mp M.fn) (codeAny_mono (F.run _ X.stack _ _ ⟨Value.ref (s.heap.objs.size + 1) :: us, []⟩ (Value.ref (s.heap.objs.size + 1) :: (us ++ ds)) _ _ (E σ) (hr.make C us [])
    (I2.env0.make C us []) (hb _ (Value.ref (s.heap.objs.size + 1) :: us) I2.kIn hl) r2 hq) fun r s' hq' => ?_))
  cases r with
  | error e => exact hx pins _ _ e s' I2 hq'
  | ok fl =>
    cases fl with
    | ret u =>
      obtain ⟨v, H', I3, rv, ev, q3⟩ := I2.after hq'
      subst ev
      exact ⟨rv, ⟨V.ref (s.heap.objs.size + 1), H', I3, rfl, q3⟩⟩
    | next => exact False.elim hq'
    | brk => exact False.elim hq'
    | cont => exact False.elim hq'
theorem pe_makeSD (M : Mk X.K C f) (F : FnOk X.prog X.w X.K X.mg X.base CX k f fd ps sp) (hr : Room (k + 1) X.A) (hg : Gl X x) (hm : X.mg x = some (.ref C)) (hb : Binds X.K fd ps ds) (hd : Vals dvs ds) (hx : ∀ σ, PassesAt CX X σ (E σ))
    (ha : PA X (e :: es) t) (hdb : (x == ("__debug__" : Str)) = false := by decide) (he : starEach (e :: es) X.env = (false, eval e X.env) :: starEach es X.env := by rfl) (hpl : (backTo pos (starEach es X.env)).any (·.1) = false := by rfl) :
    PE X (.Call (.Name x p) (e :: es) [] pos) (tMakeSD C sp dvs E t) := by
  refine ⟨fun pins s σ H Q I h => ?_⟩
  refine wpAny_Call_Name_kw (ld_glob I hg hm ?_ hdb)
  refine PySem.W.callWith_K (h₀ := X.base) I.ok.mod.kin M.kp (thn (ha.run pos pins s σ H _ I h) fun us s1 ⟨vs, H1, I1, r, q⟩ => ⟨I1.kIn, ?_⟩) he hpl
  exact run_makeSD M F hr hb hd (hx σ) (fun _ H2 _ s2 e s' c I => hx σ pins H2 s2 e s' I c) I1 r q
theorem pe_make0SD (M : Mk X.K C f) (F : FnOk X.prog X.w X.K X.mg X.base CX k f fd ps sp) (hr : Room (k + 1) X.A) (hg : Gl X x) (hm : X.mg x = some (.ref C)) (hb : Binds X.K fd ps ds) (hd : Vals dvs ds) (hx : ∀ σ, PassesAt CX X σ (E σ))
    (hdb : (x == ("__debug__" : Str)) = false := by decide) : PE X (.Call (.Name x p) [] [] pos) (tMakeSD C sp dvs E tNil) := by
  refine ⟨fun pins s σ H Q I h => ?_⟩
  refine wpAny_Call_Name_kw (ld_glob I hg hm ?_ hdb)
  exact PySem.W.callWith_K0 I.kIn M.kp (run_makeSD (us := []) M F hr hb hd (hx σ) (fun _ H2 _ s2 e s' c I => hx σ pins H2 s2 e s' I c) I .nil h)
theorem pe_call0SD (F : FnOk X.prog X.w X.K X.mg X.base CX k f fd ps sp) (hr : Room k X.A) (hg : Gl X x) (hm : X.mg x = some (.ref f)) (hk : PySem.W.keepIn X.K (.ref f) = true) (hb : Binds X.K fd ps ds) (hd : Vals dvs ds) (hx : ∀ σ, PassesAt CX X σ (E σ))
    (hdb : (x == ("__debug__" : Str)) = false := by decide) : PE X (.Call (.Name x p) [] [] pos) (tCallSD sp dvs E tNil) := by
  refine ⟨fun pins s σ H Q I h => ?_⟩
  refine wpAny_Call_Name_kw (ld_glob I hg hm ?_ hdb)
  exact PySem.W.callWith_K0 I.kIn hk (run_fnSD (us := []) F hr hb hd (hx σ) I .nil h)
/-! fields -/
def tFldK (C : Addr) (ta : TE) (f : Str) : TE := fun σ H Q => ta σ H fun x H1 => ∃ a dx fs v, x = .ref a ∧ H1 a = some (.ins C dx fs) ∧ fs.lookup f = some v ∧ Q v H1
theorem q_fldK {fl : Str} (c : Cls X.K C) (n : NoAttr X.K C fl) (he : PE X e ta) (hb : attributeBase e fl X.env (eval e X.env) = eval e X.env := by rfl) : PE X (.Attribute e fl pos) (tFldK C ta fl) := by
  refine ⟨fun pins s σ H Q I h => ?_⟩
  refine attr_of hb (thn (he.run pins s σ H _ I h) fun u s1 ⟨x, H1, I1, rx, a, dx, fs, v, ex, ea, l, q⟩ => ?_)
  subst ex
  obtain rfl : u = Value.ref a := rx
  exact getattr_ok I1 ea c n l fun u' s2 I2 ru => ⟨v, H1, I2, ru, q⟩
def sFldK (C : Addr) (ta tv : TE) (f : Str) : TS := fun D σ H => tv σ H fun y H1 => ta σ H1 fun x H2 => ∃ a dx fs, x = .ref a ∧ H2 a = some (.ins C dx fs) ∧ fs.length < 1000 ∧ D.nx σ (upd H2 a (.ins C dx (putF f y fs)))
theorem q_sfld {fl : Str} (c : Cls X.K C) (n : NoAttr X.K C fl) (ha : PE X o ta) (hv : PE X value tv) (hs : swapsWith value (some (.Attribute o fl pos')) pos.line X.env = pure false := by rfl) : PS X (.Assign [.Attribute o fl pos'] value pos) (sFldK C ta tv fl) := by
  refine ⟨fun pins s σ H D I h => ?_⟩
  refine plainObj_wpAny_Assign_Attribute (thn (hv.run pins s σ H _ I h) fun u s1 ⟨y, H1, I1, ry, q⟩ => thn (ha.run pins s1 σ H1 _ I1 q) fun ov s2 ⟨x, H2, I2, rx, a, dx, fs, ex, ea, l, q2⟩ => ?_) hs
  subst ex
  obtain rfl : ov = Value.ref a := rx
  exact setattr_ok I2 ea c n l ry fun s3 I3 => ⟨σ, _, I3, q2⟩
def sFldAugK (C : Addr) (ta tv : TE) (rd : V → V → Hp → VK → Prop) (f : Str) : TS := fun D σ H => ta σ H fun x H1 => ∃ a dx fs v, x = .ref a ∧ H1 a = some (.ins C dx fs) ∧ fs.lookup f = some v ∧
  tv σ H1 fun y H2 => rd v y H2 fun z H3 => ∃ dx' fs', H3 a = some (.ins C dx' fs') ∧ fs'.length < 1000 ∧ D.nx σ (upd H3 a (.ins C dx' (putF f z fs')))
theorem q_sfldaug {fl : Str} {op : Operator} {rd : V → V → Hp → VK → Prop} (c : Cls X.K C) (n : NoAttr X.K C fl) (ha : PE X o ta) (hv : PE X value tv) (hop : InOp X op rd) : PS X (.AugAssign (.Attribute o fl tpos) op value pos) (sFldAugK C ta tv rd fl) := by
  refine ⟨fun pins s σ H D I h => ?_⟩
  refine wpAny_AugAssign_AttributeAny (thn (ha.run pins s σ H _ I h) fun ov s1 ⟨x, H1, I1, rx, a, dx, fs, v, ex, ea, l, q⟩ => ?_)
  subst ex
  obtain rfl : ov = Value.ref a := rx
  refine getattr_ok I1 ea c n l fun u s2 I2 ru => thn (hv.run pins s2 σ H1 _ I2 q) fun w3 s3 ⟨y, H2, I3, ry, q3⟩ => thn (hop pins s3 σ H2 v y u w3 _ I3 ru ry q3) fun w4 s4 ⟨z, H3, I4, rz, dx', fs', ea', l', q4⟩ => ?_
  exact setattr_ok I4 ea' c n l' rz fun s5 I5 => ⟨σ, _, I5, q4⟩
end
/-! ### .. and by data -/
/-- an object of the class at C, these its attributes -/
inductive InsM (M : Mem) : D → Addr → List (Str × D) → Prop
  | ob {C : Addr} {gs : List (Str × D)} : InsM M (.ob C gs) C gs
  | own {p C dx : Addr} {gs : List (Str × D)} (h : (p, O.ins C dx gs) ∈ M) : InsM M (.ref p) C gs
section
variable {K : PySem.W.Frag} {F F' H : Hp} {M Mf : Mem} {v : V} {x : D}
theorem InsM.vv {C : Addr} {gs : List (Str × D)} (q : InsM M x C gs) (r : RD K F v x) (s : StC K F H (M ++ Mf)) : ∃ a dx fs, v = .ref a ∧ H a = some (.ins C dx fs) ∧ RDf K F fs gs := by
  cases q with
  | ob =>
    cases r with
    | ob h rs => exact ⟨_, _, _, rfl, s.sub _ _ h, rs⟩
  | own h =>
    cases r
    obtain ⟨fs, e, rs⟩ := own_ins s h
    exact ⟨_, _, fs, rfl, e, rs⟩
theorem RDf.put {u : V} {y : D} {f : Str} (h : RD K F u y) : ∀ {fs : List (Str × V)} {gs : List (Str × D)}, RDf K F fs gs → RDf K F (putF f u fs) (putD f y gs)
  | _, _, .nil => .cons h .nil
  | _, _, .cons (f := g) a t => by
    show RDf K F (if g = f then _ else _) (if g = f then _ else _)
    by_cases e : g = f
    · rw [if_pos e, if_pos e]; exact .cons h t
    · rw [if_neg e, if_neg e]; exact .cons a (RDf.put h t)
end
section
variable {K : PySem.W.Frag} {E : WX} {Ψ : PX} {ρ : Env3} {M : Mem} {N B C : Env3 → Mem → Prop} {R : D → Mem → Prop} {Φ : D → Mem → Prop} {c : Addr}
theorem W.fldK {ta : TE} {f : Str} (h : W K E ta ρ M (fun x M1 => ∃ gs y, InsM M1 x c gs ∧ gs.lookup f = some y ∧ Φ y M1) Ψ) : W K E (tFldK c ta f) ρ M Φ Ψ := fun σ F H Mf Q e s k q =>
  h σ F H Mf _ e s k fun v x F1 H1 M1 ⟨gs, y, hi, hl, hp⟩ r1 s1 c1 => by
    obtain ⟨a, dx, fs, rfl, e2, rf⟩ := hi.vv r1 c1
    obtain ⟨u, hu, ru⟩ := rf.look hl
    exact ⟨a, dx, fs, u, rfl, e2, hu, q u y F1 H1 M1 hp ru s1 c1⟩
theorem fld_i {x : D} {f : Str} {y : D} {gs : List (Str × D)} {P : D → Prop} (hi : InsM M x c gs) (hl : gs.lookup f = some y) (h : P y) : ∃ gs y, InsM M x c gs ∧ gs.lookup f = some y ∧ P y := ⟨gs, y, hi, hl, h⟩
theorem S.fldK {ta tv : TE} {f : Str} (h : W K E tv ρ M (fun y M1 => W K E ta ρ M1 (fun x M2 => ∃ p dx gs g, x = .ref p ∧ Sp p (.ins c dx gs) M2 g ∧ gs.length < 1000 ∧ N ρ (g (.ins c dx (putD f y gs)))) Ψ) Ψ) : WS K E (sFldK c ta tv f) ρ M ⟨N, R, B, C⟩ Ψ := fun σ F H Mf e a s k q =>
  h σ F H Mf _ a s k fun v y F1 H1 M1 h1 r1 s1 c1 => h1 σ F1 H1 Mf _ (a.mono s1) c1 (k.mono s1) fun u x F2 H2 M2 ⟨p, dx, gs, g, ex, hm, hl, h2⟩ r2 s2 c2 => by
    subst ex
    cases r2
    obtain ⟨fs, e', rf⟩ := own_ins c2 hm.mem
    exact ⟨p, dx, fs, rfl, e', by rw [rf.len]; exact hl, q.nx σ ρ F2 _ _ h2 (a.mono (s1.trans s2)) (s1.trans s2) (hm.put c2 (show RO K F2 (.ins c dx _) (.ins c dx _) from ⟨rfl, rfl, RDf.put (r1.mono s2) rf⟩))⟩
theorem sfld_i {x : D} {p dx : Addr} {gs gs' : List (Str × D)} {g : O → Mem} {f : Str} {y : D} {P : Mem → Prop} (ex : x = .ref p) (hm : Sp p (.ins c dx gs) M g) (hl : gs.length < 1000) (e : putD f y gs = gs') (h : P (g (.ins c dx gs'))) : ∃ p dx gs g, x = .ref p ∧ Sp p (.ins c dx gs) M g ∧ gs.length < 1000 ∧ P (g (.ins c dx (putD f y gs))) := ⟨p, dx, gs, g, ex, hm, hl, e ▸ h⟩
theorem S.fldAugK {ta tv : TE} {f : Str} {rd : R2} (h : W K E ta ρ M (fun x M1 => ∃ p dx gs y, x = .ref p ∧ (p, O.ins c dx gs) ∈ M1 ∧ gs.lookup f = some y ∧ W K E tv ρ M1 (fun u M2 => OpD K rd y u M2 (fun r M3 => ∃ dx' gs' g, Sp p (.ins c dx' gs') M3 g ∧ gs'.length < 1000 ∧ N ρ (g (.ins c dx' (putD f r gs'))))) Ψ) Ψ) : WS K E (sFldAugK c ta tv rd f) ρ M ⟨N, R, B, C⟩ Ψ := fun σ F H Mf e a s k q =>
  h σ F H Mf _ a s k fun v x F1 H1 M1 ⟨p, dx, gs, y, ex, hm, hl, h1⟩ r1 s1 c1 => by
    subst ex
    cases r1
    obtain ⟨fs, e', rf⟩ := own_ins c1 hm
    obtain ⟨u, hu, ru⟩ := rf.look hl
    refine ⟨p, dx, fs, u, rfl, e', hu, ?_⟩
    refine h1 σ F1 H1 Mf _ (a.mono s1) c1 (k.mono s1) fun v3 x3 F3 H3 M3 h3 r3 s3 c3 => h3 F3 H3 Mf u v3 _ (ru.mono s3) r3 c3 fun v4 x4 F4 H4 M4 ⟨dx', gs', g, hm', hl', h4⟩ r4 s4 c4 => ?_
    obtain ⟨fs', e4, rf'⟩ := own_ins c4 hm'.mem
    have s14 := (s1.trans s3).trans s4
    exact ⟨dx', fs', e4, by rw [rf'.len]; exact hl', q.nx σ ρ F4 _ _ h4 (a.mono s14) s14 (hm'.put c4 (show RO K F4 (.ins c dx' _) (.ins c dx' _) from ⟨rfl, rfl, RDf.put r4 rf'⟩))⟩
theorem saug_i {x : D} {p dx : Addr} {gs : List (Str × D)} {f : Str} {y : D} {P : Addr → D → Prop} (ex : x = .ref p) (hm : (p, O.ins c dx gs) ∈ M) (hl : gs.lookup f = some y) (h : P p y) : ∃ p dx gs y, x = .ref p ∧ (p, O.ins c dx gs) ∈ M ∧ gs.lookup f = some y ∧ P p y := ⟨p, dx, gs, y, ex, hm, hl, h⟩
theorem saug_e {p dx : Addr} {gs gs' : List (Str × D)} {g : O → Mem} {f : Str} {r : D} {P : Mem → Prop} (hm : Sp p (.ins c dx gs) M g) (hl : gs.length < 1000) (e : putD f r gs = gs') (h : P (g (.ins c dx gs'))) : ∃ dx gs g, Sp p (.ins c dx gs) M g ∧ gs.length < 1000 ∧ P (g (.ins c dx (putD f r gs))) := ⟨dx, gs, g, hm, hl, e ▸ h⟩
/-- o.m(..): the def sees all cells -/
theorem W.meth {sp : SpD} {ta : TE} {t : TA} {m : Str} (h : W K E ta ρ M (fun x M1 => ∃ gs, InsM M1 x c gs ∧ gs.lookup m = none ∧ WA K E t ρ M1 (fun xs M2 => Cal sp (x :: xs) M2 Φ (fun y M3 => Ψ y ρ M3)) Ψ) Ψ) : W K E (tMethSD c m (lift K sp) [] (WE E) ta t) ρ M Φ Ψ := fun σ F H Mf Q e s k q =>
  h σ F H Mf _ e s k fun v x F1 H1 M1 ⟨gs, hi, hl, h1⟩ r1 s1 c1 => by
    obtain ⟨a, dx, fs, rfl, e2, rf⟩ := hi.vv r1 c1
    refine ⟨a, dx, fs, rfl, e2, rf.lookN hl, ?_⟩
    refine h1 σ F1 H1 Mf _ (e.mono s1) c1 (k.mono s1) fun vs xs F2 H2 M2 h2 r2 s2 c2 => ?_
    rw [List.append_nil]
    exact ⟨x :: xs, F2, M2, Mf, _, _, .cons (r1.mono s2) r2, c2, h2, fun v3 x3 F3 H3 M3 h3 r3 s3 c3 => q v3 x3 F3 H3 M3 h3 r3 ((s1.trans s2).trans s3) c3,
      fun x3 M3 F3 H3 cls d h3 s3 c3 er => k x3 ρ M3 F3 H3 σ cls d h3 (e.mono ((s1.trans s2).trans s3)) ((s1.trans s2).trans s3) c3 er⟩
theorem meth_i {x : D} {m : Str} {gs : List (Str × D)} {P : Prop} (hi : InsM M x c gs) (hl : gs.lookup m = none) (h : P) : ∃ gs, InsM M x c gs ∧ gs.lookup m = none ∧ P := ⟨gs, hi, hl, h⟩
/-- whatever the new places are -/
def AllA2 (P : Addr → Addr → Prop) : Prop := ∀ x dx, P x dx
theorem AllA2.mk {P : Addr → Addr → Prop} (h : ∀ x dx, P x dx) : AllA2 P := h
/-- C(..): the new object and its dict, then __init__ -/
theorem W.make {sp : SpD} {t : TA} (h : WA K E t ρ M (fun xs M1 => AllA2 fun x dx => Cal sp (.ref x :: xs) ((x, .ins c dx []) :: M1) (fun v M2 => v = .non ∧ Φ (.ref x) M2) (fun y M3 => Ψ y ρ M3)) Ψ) : W K E (tMakeSD c (lift K sp) [] (WE E) t) ρ M Φ Ψ := fun σ F H Mf Q e s k q =>
  h σ F H Mf _ e s k fun vs xs F1 H1 M1 h1 r1 s1 c1 => by
    intro x dx nx ndx hne
    rw [List.append_nil]
    have c2 : StC K F1 (upd H1 dx (.own x)) (M1 ++ Mf) := c1.more fun b o z => by rw [upd_ne (ne_of_none z ndx)]; exact z
    have nx2 : upd H1 dx (.own x) x = none := by rw [upd_ne (Ne.symm hne)]; exact nx
    have c3 : StC K F1 (upd (upd H1 dx (.own x)) x (.ins c dx [])) ((x, .ins c dx []) :: (M1 ++ Mf)) := c2.newO nx2 (show RO K F1 (.ins c dx []) (.ins c dx []) from ⟨rfl, rfl, .nil⟩)
    exact ⟨.ref x :: xs, F1, (x, .ins c dx []) :: M1, Mf, _, _, .cons (.ref x) r1, c3, h1 x dx, fun v3 x3 F3 H3 M3 ⟨e3, h3⟩ r3 s3 c3 => by
        subst e3
        cases r3
        exact ⟨rfl, q _ _ F3 H3 M3 h3 (.ref x) (s1.trans s3) c3⟩,
      fun x3 M3 F3 H3 cls d h3 s3 c3 er => k x3 ρ M3 F3 H3 σ cls d h3 (e.mono (s1.trans s3)) (s1.trans s3) c3 er⟩
/-- .. an object that nobody writes any more -/
def tMakeF (C : Addr) (sp : L2.Sp) (dvs : List V) (E : L2.St → XK) (t : TA) : TE := tMakeSD C sp dvs E t
theorem W.makeF {sp : SpD} {t : TA} (h : WA K E t ρ M (fun xs M1 => AllA2 fun x dx => Cal sp (.ref x :: xs) ((x, .ins c dx []) :: M1) (fun v M2 => v = .non ∧ ∃ gs M3, Rm x (.ins c dx gs) M2 M3 ∧ Φ (.ob c gs) M3) (fun y M3 => Ψ y ρ M3)) Ψ) : W K E (tMakeF c (lift K sp) [] (WE E) t) ρ M Φ Ψ := fun σ F H Mf Q e s k q =>
  h σ F H Mf _ e s k fun vs xs F1 H1 M1 h1 r1 s1 c1 => by
    intro x dx nx ndx hne
    rw [List.append_nil]
    have c2 : StC K F1 (upd H1 dx (.own x)) (M1 ++ Mf) := c1.more fun b o z => by rw [upd_ne (ne_of_none z ndx)]; exact z
    have nx2 : upd H1 dx (.own x) x = none := by rw [upd_ne (Ne.symm hne)]; exact nx
    have c3 : StC K F1 (upd (upd H1 dx (.own x)) x (.ins c dx [])) ((x, .ins c dx []) :: (M1 ++ Mf)) := c2.newO nx2 (show RO K F1 (.ins c dx []) (.ins c dx []) from ⟨rfl, rfl, .nil⟩)
    exact ⟨.ref x :: xs, F1, (x, .ins c dx []) :: M1, Mf, _, _, .cons (.ref x) r1, c3, h1 x dx, fun v3 x3 F3 H3 M3 ⟨e3, gs, M4, hm, h3⟩ r3 s3 c3 => by
        subst e3
        cases r3
        obtain ⟨A, B', rfl, rfl⟩ := hm.split
        rw [List.append_assoc, List.cons_append] at c3
        obtain ⟨fs, ev, rs, s4, c4⟩ := StC.frozenI c3
        exact ⟨rfl, q _ (.ob c gs) _ H3 (A ++ B') h3 (.ob upd_same (rs.mono s4)) ((s1.trans s3).trans s4) (by rw [List.append_assoc]; exact c4)⟩,
      fun x3 M3 F3 H3 cls d h3 s3 c3 er => k x3 ρ M3 F3 H3 σ cls d h3 (e.mono (s1.trans s3)) (s1.trans s3) c3 er⟩
/-- what comes of an __init__ -/
theorem made_i {x : Addr} {dx : Addr} {gs : List (Str × D)} {M M' : Mem} {P : List (Str × D) → Mem → Prop} (hm : Rm x (.ins c dx gs) M M') (h : P gs M') : (D.non : D) = .non ∧ ∃ gs M3, Rm x (.ins c dx gs) M M3 ∧ P gs M3 := ⟨rfl, gs, M', hm, h⟩
end
/-! ### what the top has of a class, of a method -/
structure Kc (K : PySem.W.Frag) (mg : Str → Option Value) (x : Str) where
  C : Addr
  g : mg x = some (.ref C)
  cl : Cls K C
  kc : PySem.W.keepIn K (.ref C) = true
/-- a method as it stands in its class -/
structure Dm (K : PySem.W.Frag) (C : Addr) (x q : Str) (st : Stmt) (ps : List Str) where
  f : Addr
  fd : FuncData
  F : Fun K x q st f fd
  M : Meth K C x f
  b : Binds K fd ps []
theorem Dm.mk' {K : PySem.W.Frag} {mg : Str → Option Value} {n : Str} (c : Kc K mg n) {q : Str} {st : Stmt} {ps : List Str} (d : Dm K c.C "__init__" q st ps) (h : PySem.W.makesIn K c.C = true) : Mk K c.C d.f := ⟨h, d.M.at_, d.M.fn, c.kc⟩
end L3
namespace L3
open PySem PySem.Spec PyProof.Rows L2
theorem q_makeF {X : Cx} {e : Expr} {C : Addr} {sp : L2.Sp} {dvs : List V} {E : L2.St → XK} {t : TA} (h : PE X e (tMakeSD C sp dvs E t)) : PE X e (tMakeF C sp dvs E t) := h
end L3

namespace L3
open PySem PySem.Spec PyProof.Rows L2
/-! ### isinstance of the built-in types -/
def isK (n m : String) : Bool := n == m || (n == "bool" && m == "int")
def tnames : List String := ["NoneType", "bool", "int", "str", "list", "tuple", "dict"]
theorem kit_all : ∀ n ∈ tnames, ∀ m ∈ tnames, kitB n m = some (isK n m) := by decide +kernel
theorem TnM.mem {M : Mem} {x : D} {n : String} (h : TnM M x n) : n ∈ tnames := by
  rcases h with h | ⟨rfl, _⟩
  · cases x <;> cases h <;> simp [tnames]
  · simp [tnames]
theorem isAny_all {n : String} (hn : n ∈ tnames) : ∀ {ms : List String}, (∀ m ∈ ms, m ∈ tnames) → isAny n ms = some (ms.any (isK n))
  | [], _ => rfl
  | m :: ms, h => by
    have h1 := kit_all n hn m (h m List.mem_cons_self)
    have h2 := isAny_all hn (ms := ms) fun a ha => h a (List.mem_cons_of_mem _ ha)
    unfold isAny
    rw [h1]
    cases e : isK n m with
    | true => simp [e]
    | false => simp [e, h2]
section
variable {K : PySem.W.Frag} {E : WX} {Ψ : PX} {ρ : Env3} {M : Mem} {Φ : D → Mem → Prop}
theorem CbD.isiK {x : D} {n m : String} (t : TnM M x n) (hm : m ∈ tnames) (h : Φ (.bl (isK n m)) M) : CbD K (cIsi K) [x, .ty m] M Φ := .isi t (kit_all n t.mem m hm) h
theorem isT_i {x : D} {n : String} {ms : List String} {P : Bool → Prop} (t : TnM M x n) (hm : ∀ m ∈ ms, m ∈ tnames) (h : P (ms.any (isK n))) : ∃ (ns : List String), ∃ (n : String) (b : Bool), ms.map D.ty = ns.map D.ty ∧ TnM M x n ∧ isAny n ns = some b ∧ P b :=
  ⟨ms, n, _, rfl, t, isAny_all t.mem hm, h⟩
theorem isT_i2 {x : D} {n a b : String} {P : Bool → Prop} (t : TnM M x n) (ha : a ∈ tnames) (hb : b ∈ tnames) (h : P (isK n a || isK n b)) : ∃ (ns : List String), ∃ (n : String) (b' : Bool), [D.ty a, D.ty b] = ns.map D.ty ∧ TnM M x n ∧ isAny n ns = some b' ∧ P b' :=
  isT_i (ms := [a, b]) t (by simp [ha, hb]) (by simpa using h)
theorem CbD.lenM {α : Type} {f : α → D} {as : List α} {x : D} (q : Seq M x (as.map f)) (h : Φ (.int as.length) M) : CbD K (cLen K) [x] M Φ := .len q (by rw [List.length_map]; exact h)
theorem CbD.lenR {f : Nat → D} {n : Nat} {x : D} (q : Seq M x ((List.range n).map f)) (h : Φ (.int n) M) : CbD K (cLen K) [x] M Φ := .len q (by rw [List.length_map, List.length_range]; exact h)
theorem CbD.lenR2 {α : Type} {f : α → D} {b : Nat → α} {n : Nat} {x : D} (q : Seq M x (((List.range n).map b).map f)) (h : Φ (.int n) M) : CbD K (cLen K) [x] M Φ := .len q (by rw [List.length_map, List.length_map, List.length_range]; exact h)
end
theorem AsM.idm {xs : List D} : AsM (fun y : D => y) xs xs := by
  have := AsM.map (f := fun y : D => y) xs
  rwa [List.map_id'] at this
theorem tn0 : Int.toNat 0 = 0 := rfl
theorem tn1 : Int.toNat 1 = 1 := rfl
theorem IxS.ranE {M : Mem} {Φ : D → Mem → Prop} {f : Nat → D} {n j : Nat} {i : Int} (e : i.toNat = j) (h0 : 0 ≤ i) (h1 : j < n) (k : Φ (f j) M) : IxS M Φ ((List.range n).map f) i := by subst e; exact .ran h0 (by omega) k
theorem IxS.ran2E {M : Mem} {Φ : D → Mem → Prop} {α : Type} {f : α → D} {b : Nat → α} {n j : Nat} {i : Int} (e : i.toNat = j) (h0 : 0 ≤ i) (h1 : j < n) (k : Φ (f (b j)) M) : IxS M Φ (((List.range n).map b).map f) i := by subst e; exact .ran2 h0 (by omega) k
theorem IxS.mapE {M : Mem} {Φ : D → Mem → Prop} {α : Type} [Inhabited α] {f : α → D} {as : List α} {j : Nat} {i : Int} (e : i.toNat = j) (h0 : 0 ≤ i) (h1 : j < as.length) (k : Φ (f (as.getD j default)) M) : IxS M Φ (as.map f) i := by subst e; exact .map h0 (by omega) k
theorem IxS.at {M : Mem} {Φ : D → Mem → Prop} {xs : List D} {i : Int} {y : D} (h0 : 0 ≤ i) (e : xs[i.toNat]? = some y) (k : Φ y M) : IxS M Φ xs i :=
  ⟨h0, by have := (List.getElem?_eq_some_iff.mp e).1; omega, fun z hz => by rw [e] at hz; cases hz; exact k⟩
theorem IxS.at0 {M : Mem} {Φ : D → Mem → Prop} {xs : List D} {y : D} (e : xs[0]? = some y) (k : Φ y M) : IxS M Φ xs 0 := .at (by omega) e k
theorem AsM.rn {n : Nat} : AsM (fun k : Nat => D.int (k : Int)) (rn n).its (List.range n) := AsM.map _
theorem AsM.ran {lo : Int} {n : Nat} : AsM (fun k : Nat => D.int (lo + (k : Int))) (ran lo n).its (List.range n) := AsM.map _
theorem AsM.ranc {lo c : Int} {n : Nat} : AsM (fun k : Nat => D.int (lo + (k : Int) * c)) (ranc lo c n).its (List.range n) := AsM.map _
theorem zipD_map {α β : Type} {f : α → D} {g : β → D} {as : List α} {bs : List β} : zipD (as.map f) (bs.map g) = (as.zip bs).map fun p => .tup [f p.1, g p.2] := by
  apply List.ext_getElem?
  intro i
  unfold zipD
  by_cases hi : i < min as.length bs.length
  · have h1 : i < as.length := by omega
    have h2 : i < bs.length := by omega
    rw [List.getElem?_map, List.getElem?_range (by simpa using hi), List.getElem?_map, List.getElem?_eq_getElem (by simp; omega)]
    simp [h1, h2]
  · rw [List.getElem?_eq_none (by simp; omega), List.getElem?_eq_none (by simp; omega)]
theorem AsM.zip {α β : Type} {f : α → D} {g : β → D} {as : List α} {bs : List β} : AsM (fun p : α × β => .tup [f p.1, g p.2]) (zipD (as.map f) (bs.map g)) (as.zip bs) := by
  rw [zipD_map]
  exact .map _
theorem AsM.zipR1 {f g : Nat → D} {n : Nat} : AsM (fun i : Nat => .tup [f i, g i]) (zipD ((List.range n).map f) ((List.range n).map g)) (List.range n) := by
  have e : zipD ((List.range n).map f) ((List.range n).map g) = (List.range n).map fun i => .tup [f i, g i] := by
    rw [zipD_map]
    apply List.ext_getElem?
    intro i
    by_cases hi : i < n
    · rw [List.getElem?_map, List.getElem?_eq_getElem (by simp; omega), List.getElem?_map, List.getElem?_range hi]
      simp
    · rw [List.getElem?_eq_none (by simp; omega), List.getElem?_eq_none (by simp; omega)]
  rw [e]
  exact .map _
theorem AsM.zipR {α β : Type} {f : α → D} {g : β → D} {a : Nat → α} {b : Nat → β} {n : Nat} : AsM (fun i : Nat => .tup [f (a i), g (b i)]) (zipD (((List.range n).map a).map f) (((List.range n).map b).map g)) (List.range n) := by
  rw [List.map_map, List.map_map]
  exact AsM.zipR1
theorem enumD_map {α : Type} {f : α → D} {as : List α} : enumD (as.map f) = as.zipIdx.map fun p => .tup [.int (p.2 : Int), f p.1] := by
  apply List.ext_getElem?
  intro i
  unfold enumD
  by_cases hi : i < as.length
  · rw [List.getElem?_map, List.getElem?_range (by simpa using hi), List.getElem?_map, List.getElem?_eq_getElem (by simpa using hi)]
    simp [hi]
  · rw [List.getElem?_eq_none (by simp; omega), List.getElem?_eq_none (by simp; omega)]
theorem AsM.enum {α : Type} {f : α → D} {as : List α} : AsM (fun p : α × Nat => .tup [.int (p.2 : Int), f p.1]) (enumD (as.map f)) as.zipIdx := by
  rw [enumD_map]
  exact .map _
theorem AsM.enumR {f : Nat → D} {n : Nat} : AsM (fun i : Nat => .tup [.int (i : Int), f i]) (enumD ((List.range n).map f)) (List.range n) := by
  have e : enumD ((List.range n).map f) = (List.range n).map fun i => .tup [.int (i : Int), f i] := by
    rw [enumD_map]
    apply List.ext_getElem?
    intro i
    by_cases hi : i < n
    · rw [List.getElem?_map, List.getElem?_eq_getElem (by simp; omega), List.getElem?_map, List.getElem?_range hi]
      simp
    · rw [List.getElem?_eq_none (by simp; omega), List.getElem?_eq_none (by simp; omega)]
  rw [e]
  exact .map _
theorem zip_i {M : Mem} {x y : D} {xs ys : List D} {P : D → D → List D → List D → Prop} (hx : Seq M x xs) (hy : Seq M y ys) (hb : isL x = isL y) (h : P x y xs ys) : ∃ x' y' xs ys, [x, y] = [x', y'] ∧ Seq M x' xs ∧ Seq M y' ys ∧ isL x' = isL y' ∧ P x' y' xs ys := ⟨x, y, xs, ys, rfl, hx, hy, hb, h⟩
theorem OpD.add_lI {K : PySem.W.Frag} {M : Mem} {Φ : D → Mem → Prop} {as bs : List Int} {ys : List D} (e : AsM D.int ys bs) (hl : as.length + bs.length ≤ 100000) (h : Φ (lI (as ++ bs)) M) : OpD K (oAdd K) (lI as) (.lst ys) M Φ := by
  have e := e.eq
  subst e
  exact OpD.add_lst (line_of (by rw [List.length_map, List.length_map]; exact hl)) (by rw [← List.map_append]; exact h)
/-- it is a list or a tuple, no script -/
def SeqN (M : Mem) (x : D) (xs : List D) : Prop := Seq M x xs ∧ ∃ n, TnM M x n ∧ (isK n "list" || isK n "tuple") = true
theorem SeqN.lst {M : Mem} {xs : List D} : SeqN M (.lst xs) xs := ⟨.lst _, _, .inl rfl, by decide⟩
theorem SeqN.tup {M : Mem} {xs : List D} : SeqN M (.tup xs) xs := ⟨.tup _, _, .inl rfl, by decide⟩
theorem SeqN.own {M : Mem} {p : Addr} {xs : List D} (h : (p, O.lst xs) ∈ M) : SeqN M (.ref p) xs := ⟨.own h, _, .inr ⟨rfl, _, _, rfl, exM_mem h rfl⟩, by decide⟩
theorem SeqN.ownX {M : Mem} {p : Addr} {xs : List D} (h : (p, O.lst xs) ∈ exM M) : SeqN M (.ref p) xs := ⟨.ownX h, _, .inr ⟨rfl, _, _, rfl, h⟩, by decide⟩
end L3

/-! xs[::-1] of lists and tuples. -/
namespace L3
open PySem PySem.Spec PyProof.Rows L2 HT
section
variable {prog : Program} {w : World} {A : Around} {E : Value → Shared → Prop} {s : Shared}
theorem adjust_back (n : Nat) : Builtin.Slice.sliceAdjust none none (-1) (n : Int) = ((n : Int) - 1, -1) := by
  have h1 : ((-1 : Int) < 0) := by omega
  unfold Builtin.Slice.sliceAdjust
  simp only [h1, if_true]
theorem places_back (n : Nat) : Builtin.Slice.slicePlaces ((n : Int) - 1) (-1) (-1) = n := by
  unfold Builtin.Slice.slicePlaces
  simp
  omega
theorem sliceApplied_back {sl : Addr} {vl vu vs : Value} {n : Nat} {Q : Int × Int × Nat → Shared → Prop} (hs : s.heap.IsSliceOf sl vl vu vs) (pl : IsPart vl none) (pu : IsPart vu none) (ps : IsPart vs (some (-1)))
    (h : Q ((n : Int) - 1, -1, n) s) : wpAny (model prog w) A (Builtin.Slice.sliceApplied (.ref sl) (pure (n : Int))) Q E s := by
  obtain ⟨os, hos, hcs, hds⟩ := id hs
  unfold Builtin.Slice.sliceApplied Builtin.Slice.sliceFields
  refine wpAny_bind (wpAny_bind (wpAny_field hos hds (x := vl) rfl (wpAny_bind (wpAny_field hos hds (x := vu) rfl (wpAny_bind (wpAny_field hos hds (x := vs) rfl (wpAny_pure ?_)))))))
  refine wpAny_bind (slicePart_ ps ?_)
  show wpAny _ _ (if ((-1 : Int) == 0) = true then _ else _) _ _ s
  rw [if_neg (by decide)]
  refine wpAny_bind (slicePart_ pl (wpAny_bind (slicePart_ pu (wpAny_bind (wpAny_pure ?_)))))
  show wpAny _ _ (match Builtin.Slice.sliceAdjust none none (-1) (n : Int) with | (lo, hi) => pure (lo, (-1 : Int), Builtin.Slice.slicePlaces lo hi (-1))) _ _ s
  rw [adjust_back n]
  show wpAny _ _ (pure ((n : Int) - 1, (-1 : Int), Builtin.Slice.slicePlaces ((n : Int) - 1) (-1) (-1))) _ _ s
  rw [places_back]
  exact wpAny_pure h
theorem pick_back (xs : Array Value) : ((List.range xs.size).filterMap fun (m : Nat) => xs[(((xs.size : Nat) : Int) - 1 + (m : Int) * -1).toNat]?).toArray = xs.toList.reverse.toArray := by
  have h := PySem.W.krv_pick xs
  unfold slicePick at h
  rw [PySem.W.krv_bounds] at h
  rw [← h]
  show _ = ((sliceRange ((xs.size : Int) - 1) (-1) (-1)).filterMap (xs[·]?)).toArray
  rw [PySem.W.krv_sliceRange, List.filterMap_map]
  congr 2
  funext m
  show _ = xs[xs.size - 1 - m]?
  have : (((xs.size : Nat) : Int) - 1 + (m : Int) * -1).toNat = xs.size - 1 - m := by omega
  rw [this]
theorem getItem_tuple_back {t sl : Addr} {items : Array Value} {vl vu vs : Value} {Q : Value → Shared → Prop} (ht : IsTup s.heap t items) (hs : s.heap.IsSliceOf sl vl vu vs) (pl : IsPart vl none) (pu : IsPart vu none) (ps : IsPart vs (some (-1)))
    (h : Q (.ref s.heap.objs.size) { s with heap := s.heap.push { cls := .type "tuple", data := .seq items.toList.reverse.toArray } })
    (hsz : items.size ≤ sizeLine) : wpAny (model prog w) A (getItem (.ref t) (.ref sl)) Q E s := by
  have htake : sizeOk (.seq items.toList.reverse.toArray) := by
    show items.toList.reverse.toArray.size ≤ sizeLine
    rw [List.size_toArray, List.length_reverse, Array.length_toList]
    exact hsz
  obtain ⟨os, hos, hcs, hds⟩ := id hs
  have hTs : s.TypeIs (.ref sl) "slice" := ⟨os, hos, hcs⟩
  unfold getItem
  try with_reducible refine wpAny_holding ?_
  first | refine wpAny_bind (wpAny_pure ?_) | skip
  refine wpAny_bind (wpAny_sequenceKey ht.typeIs (by decide) ?_)
  refine wpAny_bind (wpAny_callSpecial?_slot (name := Str.ofString "__getitem__") ht.typeIs PyProof.Rows.slot_tuple_getitem
    (wpAny_call_entry PyProof.Rows.slot_tuple_getitem ht.typeIs entry_tuple_getitem ?_ (args_tuple_getitem _ _)))
  show wpAny _ _ (Builtin.Tuple.tupleItemsOf (.ref t) >>= _) _ _ s
  refine wpAny_bind (tupleItemsOf_ ht ?_)
  refine wpAny_bind (wpAny_typeOf hTs ?_)
  rw [if_pos (by decide)]
  refine wpAny_bind (sliceApplied_back hs pl pu ps ?_)
  have hno : ¬ ((((items.size : Int) - 1) == 0 && (-1 : Int) == 1 && items.size == items.size) = true) := by
    intro q
    rw [Bool.and_eq_true, Bool.and_eq_true] at q
    exact absurd (eq_of_beq q.1.2) (by decide)
  show wpAny _ _ (if (((items.size : Int) - 1) == 0 && (-1 : Int) == 1 && items.size == items.size) = true then _ else _) _ _ s
  rw [if_neg hno, pick_back]
  first
    | exact wpAny_bind (m := Builtin.Tuple.tupleExact _) (wpAny_newObj_type (wpAny_pure ⟨_, rfl, wpAny_pure h⟩) htake)
    | exact wpAny_bind (m := Builtin.Tuple.tupleExact _) (wpAny_newObj_type (wpAny_bind (wpAny_pure (wpAny_pure ⟨_, rfl, wpAny_pure h⟩))) htake)
    | exact wpAny_bind (wpAny_bind (m := Builtin.Tuple.tupleExact _) (wpAny_newObj_type (wpAny_pure (wpAny_pure ⟨_, rfl, wpAny_pure h⟩)) htake))
    | exact wpAny_bind (wpAny_bind (m := Builtin.Tuple.tupleExact _) (wpAny_newObj_type (wpAny_pure ⟨_, rfl, wpAny_pure h⟩) htake))
end
def tSlB (K : PySem.W.Frag) (te : TE) (ts : TO) : TE := fun σ H Q => te σ H fun x H1 => ts σ H1 fun o H4 => ∃ a xs, x = .ref a ∧ o = some (-1) ∧
  ((SqL K H4 a xs ∧ ∀ p, H4 p = none → Q (.ref p) (upd H4 p (.lst xs.reverse))) ∨ (SqT K H4 a xs ∧ ∀ p, H4 p = none → Q (.ref p) (upd H4 p (.tup xs.reverse))))
theorem Seq.vT {K : PySem.W.Frag} {M : Mem} {xs : List D} {F H : Hp} {Mf : Mem} {v : V} {x : D} (q : Seq M x xs) (hl : isL x = false) (r : RD K F v x) (s : StC K F H (M ++ Mf)) : ∃ a vs, v = .ref a ∧ SqT K H a vs ∧ RDs K F vs xs := by
  cases q with
  | tup =>
    cases r with
    | tup h rs => exact ⟨_, _, rfl, sqt_mono s.sub h, rs⟩
  | _ => exact Bool.noConfusion hl
theorem vals_rev {xs : List V} {its : List Value} (r : Vals xs its) : Vals xs.reverse its.reverse := by
  induction r with
  | nil => exact .nil
  | cons h _ ih =>
    rw [List.reverse_cons, List.reverse_cons]
    exact ih.append (.cons h .nil)
theorem pe_slB {X : Cx} {e : Expr} {te : TE} {sx : Expr} {ts : TO} {pos p2 : Pos} (he : PE X e te) (hst : PO X (some sx) ts) : PE X (.Subscript e (.Slice none none (some sx) p2) pos) (tSlB X.K te ts) := by
  refine ⟨fun pins s σ H Q I h => ?_⟩
  refine Subscript_ (thn (he.run pins s σ H _ I h) fun v s1 ⟨x, H1, I1, r1, q1⟩ => ?_)
  refine wpAny_Slice (thn (po_none.run pins s1 σ H1 (fun o H4 => o = none ∧ H4 = H1) I1 ⟨rfl, rfl⟩) fun vl s2 ⟨l, H2, I2, pl, q2⟩ => ?_)
  obtain ⟨rfl, rfl⟩ := q2
  refine thn (po_none.run pins s2 σ H2 (fun o H4 => o = none ∧ H4 = H2) I2 ⟨rfl, rfl⟩) fun vu s3 ⟨u, H3, I3, pu, q3⟩ => ?_
  obtain ⟨rfl, rfl⟩ := q3
  refine thn (hst.run pins s3 σ H3 _ I3 q1) fun vs s4 ⟨o, H4, I4, ps, q4⟩ => ?_
  obtain ⟨a, xs, ex, rfl, q4⟩ := q4
  subst ex
  cases r1
  have I5 : Inv X pins σ H4 { s4 with heap := s4.heap.push { cls := .type "slice", data := .fields #[vl, vu, vs] } } := I4.kept (t' := s4.toks) fun b ob q => Heap.get?_push_of_some _ q
  show wpAny (model X.prog X.w) X.A (subscriptTail e (.Slice none none (some sx) p2) (.ref a) (.ref s4.heap.objs.size)) (EP X pins σ Q) X.xe { s4 with heap := s4.heap.push { cls := .type "slice", data := .fields #[vl, vu, vs] } }
  rcases q4 with ⟨hx, q⟩ | ⟨hx, q⟩
  · obtain ⟨its, r, ht, hz⟩ := I5.list hx
    have hlen := r.length
    refine tail_any (ops := [.ref a, .ref s4.heap.objs.size]) ht.isList.typeIs (PySem.slot_list_getitem.lookup) ?_ (by with_unfolding_all rfl)
    refine wpAny_getItem_list_slice ht.isList (Heap.IsSliceOf.new _ vl vu vs) pl pu ps (by decide) ?_ (by rw [List.size_toArray]; omega)
    have e1 : slicePick its.toArray none none (some (-1)) = its.reverse.toArray := PySem.W.krv_pick its.toArray
    refine ⟨.ref _, _, I5.laid (t' := s4.toks) (o := .lst xs.reverse) (fun b ob q => Heap.get?_push_of_some _ q) (Nat.le_refl _) ?_, rfl, q _ (I5.hok.fresh (Nat.le_refl _))⟩
    refine ⟨by rw [List.length_reverse]; exact hz, _, 0, vals_rev r, ?_⟩
    rw [← e1]
    exact Heap.get?_push_size _ rfl
  · obtain ⟨its, r, ht, hz⟩ := I5.tuple hx
    have hlen := r.length
    refine tail_any (ops := [.ref a, .ref s4.heap.objs.size]) ht.typeIs (PyProof.Rows.slot_tuple_getitem.lookup) ?_ (by with_unfolding_all rfl)
    refine getItem_tuple_back ht (Heap.IsSliceOf.new _ vl vu vs) pl pu ps ?_ (by rw [List.size_toArray]; omega)
    refine ⟨.ref _, _, I5.laid (t' := s4.toks) (o := .tup xs.reverse) (fun b ob q => Heap.get?_push_of_some _ q) (Nat.le_refl _) ?_, rfl, q _ (I5.hok.fresh (Nat.le_refl _))⟩
    exact ⟨by rw [List.length_reverse]; exact hz, _, vals_rev r, IsTup.new _ _⟩
theorem q_slB (K : PySem.W.Frag) {X : Cx} {e : Expr} {te : TE} {sx : Expr} {ts : TO} {pos p2 : Pos} (he : PE X e te) (hst : PO X (some sx) ts) (eK : X.K = K := by rfl) : PE X (.Subscript e (.Slice none none (some sx) p2) pos) (tSlB K te ts) := by
  subst eK
  exact pe_slB he hst
theorem rds_rev {K : PySem.W.Frag} {F : Hp} {vs : List V} {xs : List D} (r : RDs K F vs xs) : RDs K F vs.reverse xs.reverse := r.rev
section
variable {K : PySem.W.Frag} {E : WX} {Ψ : PX} {ρ : Env3} {M : Mem} {N B C : Env3 → Mem → Prop} {R : D → Mem → Prop} {Φ : D → Mem → Prop}
def BackD (x : D) (M : Mem) (Φ : D → Mem → Prop) : Prop := ∃ xs, Seq M x xs ∧ (isL x = true → Φ (.lst xs.reverse) M) ∧ (isL x = false → Φ (.tup xs.reverse) M)
theorem W.slB {te : TE} {ts : TO} (h : W K E te ρ M (fun x M1 => WO K E ts ρ M1 (fun st M4 => st = some (-1) ∧ BackD x M4 Φ) Ψ) Ψ) : W K E (tSlB K te ts) ρ M Φ Ψ := fun σ F H Mf Q a s k q =>
  h σ F H Mf _ a s k fun v x F1 H1 M1 h1 r1 s1 c1 => 
    h1 σ F1 H1 Mf _ (a.mono s1) c1 (k.mono s1) fun st F4 H4 M4 ⟨e, xs, hq, h4, h5⟩ s4 c4 => by
      cases hb : isL x with
      | true =>
        obtain ⟨b, vs, rfl, hv, rs⟩ := hq.vL hb (r1.mono s4) c4
        refine ⟨b, vs, rfl, e, .inl ⟨hv, fun p hp => ?_⟩⟩
        exact q _ _ _ _ M4 (h4 hb) (.lst upd_same ((rds_rev rs).mono (c4.sameF hp))) ((s1.trans s4).trans (c4.sameF hp)) (c4.newF hp)
      | false =>
        obtain ⟨b, vs, rfl, hv, rs⟩ := hq.vT hb (r1.mono s4) c4
        refine ⟨b, vs, rfl, e, .inr ⟨hv, fun p hp => ?_⟩⟩
        exact q _ _ _ _ M4 (h5 hb) (.tup (.inl (.inl upd_same)) ((rds_rev rs).mono (c4.sameF hp))) ((s1.trans s4).trans (c4.sameF hp)) (c4.newF hp)
theorem BackD.tup {α : Type} {f : α → D} {as : List α} (h : Φ (.tup (as.reverse.map f)) M) : BackD (.tup (as.map f)) M Φ :=
  ⟨_, .tup _, fun e => Bool.noConfusion e, fun _ => by rw [← List.map_reverse]; exact h⟩
theorem BackD.lst {α : Type} {f : α → D} {as : List α} {x : D} (q : Seq M x (as.map f)) (hb : isL x = true) (h : Φ (.lst (as.reverse.map f)) M) : BackD x M Φ :=
  ⟨_, q, fun _ => by rw [← List.map_reverse]; exact h, fun e => by rw [hb] at e; exact Bool.noConfusion e⟩
/-! ### slices of rows told by places -/
theorem range_cut (n a m : Nat) (h : a + m ≤ n) : ((List.range n).drop a).take m = (List.range m).map fun i => a + i := by
  apply List.ext_getElem?
  intro i
  rw [List.getElem?_take, List.getElem?_map]
  by_cases hi : i < m
  · rw [if_pos hi, List.getElem?_drop, List.getElem?_range (by omega), List.getElem?_range hi]
    rfl
  · rw [if_neg hi, List.getElem?_eq_none (by simp; omega)]
    rfl
theorem SlD.tupR {f : Nat → D} {n m : Nat} {lo hi : Int} (e : hi = lo + (m : Int)) (h0 : 0 ≤ lo) (h2 : lo + m ≤ n) (h3 : m < n) (h : Φ (.tup ((List.range m).map fun i => f (lo.toNat + i))) M) : SlD K (sSeq K) (.tup ((List.range n).map f)) (some lo) (some hi) M Φ := by
  subst e
  refine SlD.tupM h0 (by omega) (by rw [List.length_range]; omega) (by rw [List.length_range]; omega) ?_
  have e : cut (List.range n) lo (lo + m) = (List.range m).map fun i => lo.toNat + i := by
    unfold cut
    rw [show (lo + (m : Int)).toNat - lo.toNat = m by omega]
    exact range_cut n lo.toNat m (by omega)
  rw [e, List.map_map]
  exact h
theorem SlD.tupR3 {α : Type} {b : Nat → α} {f : α → D} {n m : Nat} {lo hi : Int} (e : hi = lo + (m : Int)) (h0 : 0 ≤ lo) (h2 : lo + m ≤ n) (h3 : m < n) (h : Φ (.tup ((List.range m).map fun i => f (b (lo.toNat + i)))) M) : SlD K (sSeq K) (.tup (((List.range n).map b).map f)) (some lo) (some hi) M Φ := by
  rw [List.map_map]
  exact SlD.tupR e h0 h2 h3 h
theorem SlD.tupR2 {b : Nat → Int} {n m : Nat} {lo hi : Int} (e : hi = lo + (m : Int)) (h0 : 0 ≤ lo) (h2 : lo + m ≤ n) (h3 : m < n) (h : Φ (.tup (((List.range m).map fun i => b (lo.toNat + i)).map D.int)) M) : SlD K (sSeq K) (.tup (((List.range n).map b).map D.int)) (some lo) (some hi) M Φ := by
  rw [List.map_map]
  refine SlD.tupR e h0 h2 h3 ?_
  rw [List.map_map] at h
  exact h
/-! ### least, greatest -/
def lmin (ns : List Int) : Int := ns.min?.getD 0
def lmax (ns : List Int) : Int := ns.max?.getD 0
theorem lmin_eq {ns : List Int} {m : Int} (h : m ∈ ns) (h2 : ∀ y, y ∈ ns → m ≤ y) : lmin ns = m := by
  unfold lmin
  rw [List.min?_eq_some_iff.mpr ⟨h, fun b hb => h2 b hb⟩]
  rfl
theorem lmax_eq {ns : List Int} {m : Int} (h : m ∈ ns) (h2 : ∀ y, y ∈ ns → y ≤ m) : lmax ns = m := by
  unfold lmax
  rw [List.max?_eq_some_iff.mpr ⟨h, fun b hb => h2 b hb⟩]
  rfl
theorem CbD.minF {ns : List Int} (h0 : 0 < ns.length) (h : Φ (.int (lmin ns)) M) : CbD K (cMin K) [.lst (ns.map D.int)] M Φ := .minL h0 fun m hm h2 => by rw [lmin_eq hm h2] at h; exact h
theorem CbD.maxF {ns : List Int} (h0 : 0 < ns.length) (h : Φ (.int (lmax ns)) M) : CbD K (cMax K) [.lst (ns.map D.int)] M Φ := .maxL h0 fun m hm h2 => by rw [lmax_eq hm h2] at h; exact h
theorem CbD.min2L {i j : Int} (h : Φ (.int (min i j)) M) : CbD K (cMin K) [.lst [.int i, .int j]] M Φ := CbD.minL (ns := [i, j]) (by simp) fun m hm h2 => by
  have e : m = min i j := by
    have h3 := h2 i (by simp)
    have h4 := h2 j (by simp)
    simp only [List.mem_cons, List.not_mem_nil, or_false] at hm
    omega
  rw [e]
  exact h
theorem CbD.max2L {i j : Int} (h : Φ (.int (max i j)) M) : CbD K (cMax K) [.lst [.int i, .int j]] M Φ := CbD.maxL (ns := [i, j]) (by simp) fun m hm h2 => by
  have e : m = max i j := by
    have h3 := h2 i (by simp)
    have h4 := h2 j (by simp)
    simp only [List.mem_cons, List.not_mem_nil, or_false] at hm
    omega
  rw [e]
  exact h
theorem lmin_le {ns : List Int} {a : Int} (h : a ∈ ns) : lmin ns ≤ a := by
  unfold lmin
  cases e : ns.min? with
  | none => rw [List.min?_eq_none_iff] at e; subst e; cases h
  | some m => exact (List.min?_eq_some_iff.mp e).2 a h
theorem le_lmax {ns : List Int} {a : Int} (h : a ∈ ns) : a ≤ lmax ns := by
  unfold lmax
  cases e : ns.max? with
  | none => rw [List.max?_eq_none_iff] at e; subst e; cases h
  | some m => exact (List.max?_eq_some_iff.mp e).2 a h
theorem back_i {x : D} (h : BackD x M Φ) : (some (-1) : Option Int) = some (-1) ∧ BackD x M Φ := ⟨rfl, h⟩
theorem AsM.mm {α β : Type} {f : β → D} {g : α → β} {as : List α} : AsM (fun a => f (g a)) ((as.map g).map f) as := by
  rw [List.map_map]
  exact AsM.map _
theorem rep_one {α : Type} {x : α} : ∀ n : Nat, (List.replicate n [x]).flatten = List.replicate n x
  | 0 => rfl
  | n + 1 => by rw [List.replicate_succ, List.replicate_succ, List.flatten_cons, rep_one n]; rfl
theorem OpD.rep1 {a n : Int} {j : Nat} (e : n.toNat = j) (h0 : 0 ≤ n) (h1 : j ≤ 1000) (h : Φ (lI (List.replicate j a)) M) : OpD K (oMul K) (.lst [.int a]) (.int n) M Φ := by
  subst e
  refine OpD.rep (by omega) (by omega) (Nat.le_trans (Nat.le_of_eq (Nat.one_mul _)) (Nat.le_trans h1 (by decide))) ?_
  rw [rep_one]
  have : lI (List.replicate n.toNat a) = .lst (List.replicate n.toNat (.int a)) := by
    show D.lst _ = _
    rw [List.map_replicate]
  rw [← this]
  exact h
theorem OpD.repT1 {a n : Int} {j : Nat} (e : n.toNat = j) (h0 : 2 ≤ n) (h1 : j ≤ 1000) (h : Φ (tI (List.replicate j a)) M) : OpD K (oMul K) (.tup [.int a]) (.int n) M Φ := by
  subst e
  refine OpD.repT (List.cons_ne_nil _ _) h0 (by omega) (by simp) ?_
  rw [rep_one]
  have : tI (List.replicate n.toNat a) = .tup (List.replicate n.toNat (.int a)) := by
    show D.tup _ = _
    rw [List.map_replicate]
  rw [← this]
  exact h
end
end L3

/-! try .. except X: without a name. -/
namespace L3
open PySem PySem.Spec PyProof.Rows L2
def tTry (K : PySem.W.Frag) (c : Value) (tb : WX → TS) (ts : Addr → Value → Option Addr → TS) (Wout : WX) : TS := fun D σ H => tb (wOnly K c ts Wout D) D σ H
theorem q_try (K : PySem.W.Frag) {X : Cx} {x : Str} {body suite : List Stmt} {b₀ : Stmt} {np pos pos' : Pos} {tb : WX → TS} {ts : TS} {Wout : WX} (T : Xf K X.mg x) (hg : Gl X x) (tk : Takes X Wout)
    (hb : ∀ (W : WX) (pn : List (Addr × Obj)) (xe : Value → Shared → Prop), Takes (X.tr pn xe) W → PassesOwn (model X.prog X.w) X.A X.env xe → PSs (X.tr pn xe) body (tb W))
    (hsu : ∀ (a : Addr) (oe : Obj) (pn : List (Addr × Obj)), PSs (X.suite a ((a, oe) :: pn)) (b₀ :: suite) ts)
    (hs : X.stack = X.env :: X.outer := by rfl) (hf : X.env.frame = some X.env.locals := by rfl) (hdb : (x == ("__debug__" : Str)) = false := by decide) (eK : X.K = K := by rfl) :
    PS X (.Try body [.ExceptHandler (some (.Name x np)) none (b₀ :: suite) pos'] [] [] pos) (tTry K (.ref T.C) tb (fun _ _ _ => ts) Wout) := by
  subst eK
  exact ps_try_only hs hf ⟨hg, hdb, .inl T.g⟩ tk hb fun a oe cls d pn _ _ => hsu a oe pn
section
variable {K : PySem.W.Frag} {E : WX} {Ψ : PX} {ρ : Env3} {M : Mem} {N B C : Env3 → Mem → Prop} {R : D → Mem → Prop} {Φ : D → Mem → Prop}
/-- what the clause wishes -/
def Caught (K : PySem.W.Frag) (c : Value) (x : Ex) (P Q : Prop) : Prop := ∃ b, PySem.W.exmOne K x.cls c = some b ∧ (b = true → P) ∧ (b = false → Q)
theorem S.try_ {c : Value} {tb : WX → TS} {ts : TS} (h : ∀ E', WS K E' (tb E') ρ M ⟨N, R, B, C⟩ (fun x ρ' M' => Caught K c x (WS K E ts ρ' M' ⟨N, R, B, C⟩ Ψ) (Ψ x ρ' M'))) :
    WS K E (tTry K c tb (fun _ _ _ => ts) E) ρ M ⟨N, R, B, C⟩ Ψ := fun σ F H Mf e a s k q => by
  refine h _ σ F H Mf e a s ?_ q
  intro x ρ' M' F' H' σ' cls d hx a' sm s' xr
  obtain ⟨b, hb, h1, h2⟩ := hx
  obtain ⟨ec, xr2⟩ := xr
  refine ⟨b, by rw [ec]; exact hb, fun hh a0 ha0 => ?_, fun hh => ?_⟩
  · exact h1 hh σ' F' H' Mf e a' s' (k.mono sm) (q.mono sm)
  · exact k x ρ' M' F' H' σ' cls d (h2 hh) a' sm s' ⟨ec, xr2⟩
theorem Caught.yes {c : Value} {x : Ex} {P Q : Prop} (e : PySem.W.exmOne K x.cls c = some true) (h : P) : Caught K c x P Q := ⟨true, e, fun _ => h, fun z => Bool.noConfusion z⟩
theorem Caught.no {c : Value} {x : Ex} {P Q : Prop} (e : PySem.W.exmOne K x.cls c = some false) (h : Q) : Caught K c x P Q := ⟨false, e, fun z => Bool.noConfusion z, fun _ => h⟩
end
end L3

/-! try .. except X as n: v = n, and what follows it, with the error known there. -/
namespace L3
open PySem PySem.Spec PyProof.Rows L2
/-- what the clause wishes, the rest being run with the error pinned -/
def wAsR (K : PySem.W.Frag) (c : Value) (i : Nat) (ts : TS) (tr : Addr → Value → Option Addr → TS) (Wout : WX) (D : Ends) : WX := fun cls d σ H =>
  ∃ b, PySem.W.exmOne K cls c = some b ∧ (b = true → ∀ a, H a = none → ts { nx := fun σ' H' => tr a cls d D (σ'.set i none) H', rt := D.rt, bk := fun σ' H' => D.bk (σ'.set i none) H', ct := fun σ' H' => D.ct (σ'.set i none) H' } (σ.set i (some (.ref a))) H) ∧
    (b = false → Wout cls d σ H)
theorem unsuiteTr {X : Cx} {pins : List (Addr × Obj)} {σ : L2.St} {H : Hp} {s : Shared} {a : Addr} {oe : Obj} {pn : List (Addr × Obj)} (I : Inv (X.suite a ((a, oe) :: pn)) pins σ H s) (ok : X.Ok) : Inv (X.tr ((a, oe) :: pn) X.xe) pins σ H s :=
  ⟨ok.toTry _ _, I.os, I.bare, I.base, I.loc, I.cell, I.free, I.freeC, fun p hp => I.pin p hp, I.hok, I.len⟩
theorem ofTr {X : Cx} {pins : List (Addr × Obj)} {σ : L2.St} {H : Hp} {s : Shared} {a : Addr} {oe : Obj} {xe : Value → Shared → Prop} {pins' : List (Addr × Obj)} (I : Inv (X.tr ((a, oe) :: (X.pn ++ pins)) xe) pins' σ H s) (ok : X.Ok) : Inv X pins σ H s :=
  ⟨ok, I.os, I.bare, I.base, I.loc, I.cell, I.free, I.freeC, fun p hp => I.pin p (List.mem_append_left _ (List.mem_cons_of_mem _ hp)), I.hok, I.len⟩
section
variable {X : Cx} {x n : Str} {c : Value} {i : Nat} {body suite rest : List Stmt} {b₀ : Stmt} {np pos pos' : Pos} {tb : WX → TS} {ts : TS} {tr : Addr → Value → Option Addr → TS} {tn : TS} {Wout : WX}
theorem pss_try_as (hs : X.stack = X.env :: X.outer) (hf : X.env.frame = some X.env.locals) (hN : X.N.Nodup) (hi : X.N[i]? = some n) (hln : X.env.kindOf n = some .local) (hc : Names X x c) (tk : Takes X Wout)
    (hb : ∀ (W : WX) (pn : List (Addr × Obj)) (xe : Value → Shared → Prop), Takes (X.tr pn xe) W → PassesOwn (model X.prog X.w) X.A X.env xe → PSs (X.tr pn xe) body (tb W))
    (hsu : ∀ (a : Addr) (oe : Obj) (pn : List (Addr × Obj)), PSs (X.suite a ((a, oe) :: pn)) (b₀ :: suite) ts)
    (hr : ∀ (a : Addr) (oe : Obj) (cls : Value) (d : Option Addr) (pn : List (Addr × Obj)), Zc cls d oe → (∃ vs, oe.data = .fields vs) → PSs (X.tr ((a, oe) :: pn) X.xe) rest (tr a cls d))
    (hn : PSs X rest tn) :
    PSs X (.Try body [.ExceptHandler (some (.Name x np)) (some n) (b₀ :: suite) pos'] [] [] pos :: rest) (fun D σ H => tb (wAsR X.K c i ts tr Wout D) { D with nx := tn D } σ H) := by
  refine ⟨fun pins s σ H D I h => ?_⟩
  have ok := I.ok
  have hfr : X.A.frames = some (X.env :: X.outer) := by rw [ok.frames, hs]
  have hloc : Loc X.env.scope n := .inl hln
  refine wpAny_execs_cons ?_
  generalize hP : (fun (f : Flow) (s' : Shared) => (match f with | .next => wpAny (model X.prog X.w) X.A (execs rest X.env) (SP X pins D) X.xe s' | f => SP X pins D f s' : Prop)) = P
  have pnx : ∀ s', wpAny (model X.prog X.w) X.A (execs rest X.env) (SP X pins D) X.xe s' → P .next s' := fun s' h => by rw [← hP]; exact h
  have pbk : ∀ s', SP X pins D .brk s' → P .brk s' := fun s' h => by rw [← hP]; exact h
  have pct : ∀ s', SP X pins D .cont s' → P .cont s' := fun s' h => by rw [← hP]; exact h
  have prt : ∀ u s', SP X pins D (.ret u) s' → P (.ret u) s' := fun u s' h => by rw [← hP]; exact h
  clear hP
  refine wpAny_Try_except ?_
  refine wpAny_mono ((hb (wAsR X.K c i ts tr Wout D) (X.pn ++ pins) (fun e s₁ => wpAny (model X.prog X.w) X.A (noteFrame e X.env) (fun _ s₂ => wpAny (model X.prog X.w) X.A (setFlight e none) (fun _ s₃ =>
    wpAny (model X.prog X.w) X.A (handleBy e X.env [.ExceptHandler (some (.Name x np)) (some n) (b₀ :: suite) pos']) P X.xe s₃) X.xe s₂) X.xe s₁) (fun u s' xx => ?_) PassesOwn.looking).run [] s σ H { D with nx := tn D } (I.toTry _) h) (fun f s1 hsp => ?_) (fun e s1 he => he)
  · -- the catch
    obtain ⟨a, B, sI, pins', σ', H', cls, d, rfl, J', nb, up, sky, na, os, ag, b, hb1, hyes, hno⟩ := xx
    have J : Inv X pins σ' H' sI := J'.ofTry ok
    have sky' : Sky B (X.env :: X.outer) a (Zc cls d) X.env.locals s'.heap := by rw [← hs]; exact sky
    show wpAny (model X.prog X.w) X.A (noteFrame (.ref a) X.env) _ _ _
    refine Sky.land Zc.steady hfr hf sky' fun h3 fl3 up3 => ?_
    have J3 : Inv X pins σ' H' { s' with heap := h3 } := J.landed nb fl3.1 (up.trans up3) os ag
    obtain ⟨oe3, vs3, he3, hz3, hd3⟩ := fl3.there
    have notFr : ∀ {h : Heap} {o : Obj} {vs : Array Value}, h.FunFrames B (X.env :: X.outer) → h.get? a = some o → o.data = .fields vs → a ∉ frs (X.env :: X.outer) := fun {h o vs} ff e dd hm => by
      obtain ⟨_, o', e', hnf⟩ := ff.mem hm
      rw [e] at e'; cases e'
      exact hnf _ dd
    have nfr := notFr fl3.2.2.1 he3 hd3
    have nL : a ≠ X.env.locals := fun z => nfr (List.mem_filterMap.mpr ⟨X.env, List.mem_cons_self, by rw [hf, z]⟩)
    have nF : a ∉ X.fs := fun hm => by
      obtain ⟨e, he, q⟩ := List.mem_filterMap.mp hm
      exact nfr (List.mem_filterMap.mpr ⟨e, List.mem_cons_of_mem _ he, q⟩)
    have S3 := J3.suite he3 hd3 na nL nF
    refine wpAny_handleBy_cons (codeAny_handlers_test ?_) (by intro q; cases q)
    have LT : PySem.W.Looks (model X.prog X.w) h3 (typeOf (.ref a)) cls := fun A Q E s k q => wpAny_typeOf_ref (k _ _ he3) (by rw [hz3.1]; exact q)
    have LM := PySem.W.exm_one (M := model X.prog X.w) (J3.kIn) LT hb1
    have test : ∀ {Q : Value → Shared → Prop} {E : Value → Shared → Prop}, Q c { s' with heap := h3 } → wpAny (model X.prog X.w) (X.A.mark (some (.ref a))) (eval (.Name x np) X.env) Q E { s' with heap := h3 } := fun {Q E} q => by
      obtain ⟨hg, hdbg, hm | ⟨hm, hv, hnn⟩⟩ := hc
      · exact ld_glob (X := X.suite a ((a, oe3) :: (X.pn ++ pins))) S3 hg hm q hdbg
      · exact ld_blt (X := X.suite a ((a, oe3) :: (X.pn ++ pins))) S3 hg hm hv q hnn hdbg
    refine test (LM.here ?_)
    cases b with
    | true =>
      refine codeAny_handlers_suite_as ?_
      refine HandSPX.lands_againZ fl3 fun h4 fl4 up4 => ?_
      have J4 : Inv X pins σ' H' { s' with heap := h4 } := J.landed nb fl4.1 ((up.trans up3).trans up4) os ag
      obtain ⟨oe4, vs4, he4, hz4, hd4⟩ := fl4.there
      have S4 := J4.suite he4 hd4 na nL nF
      refine store_ok (X := X.suite a ((a, oe4) :: (X.pn ++ pins))) (v := .ref a) S4 hN hi hloc rfl (fun s5 S5 => ?_) (.inr hln)
      refine wpAny_mono ((hsu a oe4 (X.pn ++ pins)).run [] s5 _ H' _ S5 (hyes rfl a na)) (fun f s6 hsp => ?_) (fun _ _ z => False.elim z)
      have end_ : ∀ {σ6 : L2.St} {H6 : Hp} {Q : Shared → Prop}, Inv (X.suite a ((a, oe4) :: (X.pn ++ pins))) [] σ6 H6 s6 → (∀ s7, Inv (X.tr ((a, oe4) :: (X.pn ++ pins)) X.xe) [] (σ6.set i none) H6 s7 → Q s7) →
          wpAny (model X.prog X.w) X.A (do bindName X.env n .none; unbindBehindTheSuite X.env n pos') (fun _ s7 => Q s7) X.xe s6 := fun {σ6 H6 Q} S6 hq => gone_ok (X := X.tr ((a, oe4) :: (X.pn ++ pins)) X.xe) (unsuiteTr S6 ok) hN hi hln hq
      cases f with
      | next =>
        obtain ⟨σ6, H6, S6, q6⟩ := hsp
        refine end_ S6 fun s7 J7 => pnx s7 ?_
        refine thn ((hr a oe4 cls d (X.pn ++ pins) hz4 ⟨_, hd4⟩).run [] s7 _ H6 D J7 q6) fun f s8 hsp8 => ?_
        cases f with
        | next =>
          obtain ⟨σ8, H8, S8, q8⟩ := hsp8
          exact ⟨_, _, ofTr S8 ok, q8⟩
        | brk =>
          obtain ⟨σ8, H8, S8, q8⟩ := hsp8
          exact ⟨_, _, ofTr S8 ok, q8⟩
        | cont =>
          obtain ⟨σ8, H8, S8, q8⟩ := hsp8
          exact ⟨_, _, ofTr S8 ok, q8⟩
        | ret u =>
          obtain ⟨v8, σ8, H8, S8, r8, q8⟩ := hsp8
          exact ⟨_, _, _, ofTr S8 ok, r8, q8⟩
      | brk =>
        obtain ⟨σ6, H6, S6, q6⟩ := hsp
        exact end_ S6 fun s7 J7 => pbk s7 ⟨_, _, ofTr J7 ok, q6⟩
      | cont =>
        obtain ⟨σ6, H6, S6, q6⟩ := hsp
        exact end_ S6 fun s7 J7 => pct s7 ⟨_, _, ofTr J7 ok, q6⟩
      | ret u =>
        obtain ⟨v6, σ6, H6, S6, r6, q6⟩ := hsp
        exact end_ S6 fun s7 J7 => prt u s7 ⟨_, _, _, ofTr J7 ok, r6, q6⟩
    | false =>
      show wpAny _ X.A (handleBy (.ref a) X.env []) _ _ _
      refine wpAny_handleBy_nil ?_
      obtain ⟨k1, k2, k3, oe, vs, T, oT, ts', he, hz, hd, h1, hr⟩ := id fl3
      unfold PySem.passOn
      refine wpAny_bind (wpAny_field he hd h1 ?_)
      rw [if_neg (show ¬ ((Value.ref T == Value.none) = true) from by simp)]
      have fin : wpAny (model X.prog X.w) X.A (setFlight (.ref a) X.env.frame) (fun _ s4 => wpAny (model X.prog X.w) X.A (throw (.ref a) : Sem Flow) P X.xe s4) X.xe { s' with heap := h3 } := by
        rw [hf]
        refine HandSPX.setFlight_upZ fl3 fun h4 hh4 up4 => wpAny_throw (tk _ _ ?_)
        exact ⟨a, B, sI, pins, σ', H', cls, d, rfl, J, nb, (up.trans up3).trans up4, .inr (.inr (by rw [hs]; exact hh4)), na, os, ag, hno rfl⟩
      first
        | exact wpAny_bind (wpAny_pure (wpAny_bind fin))
        | exact wpAny_bind fin
  · cases f with
    | next =>
      obtain ⟨σ', H', J', q⟩ := hsp
      exact wpAny_execs_nil (pnx _ (hn.run pins s1 σ' H' D (J'.ofTry ok) q))
    | brk =>
      obtain ⟨σ', H', J', q⟩ := hsp
      exact pbk _ ⟨σ', H', J'.ofTry ok, q⟩
    | cont =>
      obtain ⟨σ', H', J', q⟩ := hsp
      exact pct _ ⟨σ', H', J'.ofTry ok, q⟩
    | ret u =>
      obtain ⟨v, σ', H', J', r, q⟩ := hsp
      exact prt u _ ⟨v, σ', H', J'.ofTry ok, r, q⟩
end
end L3

/-! a kept error: the rule by data, isinstance of it. -/
namespace L3
open PySem PySem.Spec PyProof.Rows L2
def tTryAs (K : PySem.W.Frag) (c : Value) (i : Nat) (tb : WX → TS) (ts : TS) (tr : Addr → Value → Option Addr → TS) (tn : TS) (Wout : WX) : TS := fun D σ H => tb (wAsR K c i ts tr Wout D) { D with nx := tn D } σ H
theorem q_tryAs (K : PySem.W.Frag) {X : Cx} {x n : Str} {i : Nat} {body suite rest : List Stmt} {b₀ : Stmt} {np pos pos' : Pos} {tb : WX → TS} {ts : TS} {tr : Addr → Value → Option Addr → TS} {tn : TS} {Wout : WX} (T : Xf K X.mg x) (hg : Gl X x) (tk : Takes X Wout) (hN : X.N.Nodup)
    (hb : ∀ (W : WX) (pn : List (Addr × Obj)) (xe : Value → Shared → Prop), Takes (X.tr pn xe) W → PassesOwn (model X.prog X.w) X.A X.env xe → PSs (X.tr pn xe) body (tb W))
    (hsu : ∀ (a : Addr) (oe : Obj) (pn : List (Addr × Obj)), PSs (X.suite a ((a, oe) :: pn)) (b₀ :: suite) ts)
    (hr : ∀ (a : Addr) (oe : Obj) (cls : Value) (d : Option Addr) (pn : List (Addr × Obj)), Zc cls d oe → (∃ vs, oe.data = .fields vs) → PSs (X.tr ((a, oe) :: pn) X.xe) rest (tr a cls d))
    (hn : PSs X rest tn)
    (hi : X.N[i]? = some n := by rfl) (hln : X.env.kindOf n = some .local := by rfl) (hs : X.stack = X.env :: X.outer := by rfl) (hf : X.env.frame = some X.env.locals := by rfl) (hdb : (x == ("__debug__" : Str)) = false := by decide) (eK : X.K = K := by rfl) :
    PSs X (.Try body [.ExceptHandler (some (.Name x np)) (some n) (b₀ :: suite) pos'] [] [] pos :: rest) (tTryAs K (.ref T.C) i tb ts tr tn Wout) := by
  subst eK
  exact pss_try_as hs hf hN hi hln ⟨hg, hdb, .inl T.g⟩ tk hb hsu hr hn
/-! ### isinstance -/
def rIsX (K : PySem.W.Frag) (cls : Value) (d : Option Addr) (a : Addr) : List V → Hp → VK → Prop := fun xs H Q => ∃ D, cls = .ref D ∧ d = none ∧ ExcC K D ∧
  ((∃ (c : V) (u : Value) (b : Bool), xs = [.ref a, c] ∧ ClsV c u ∧ PySem.W.kitOne K (.ref D) u = some b ∧ Q (.bl b) H) ∨
   (∃ (tp : Addr) (cs : List V) (us : List Value) (b : Bool), xs = [.ref a, .ref tp] ∧ SqT K H tp cs ∧ Paired ClsV cs us ∧ PySem.W.kitAny K (.ref D) us = some b ∧ Q (.bl b) H))
theorem call_isX {X : Cx} {a : Addr} {cls : Value} {d : Option Addr} {oe : Obj} {pn : List (Addr × Obj)} {xe : Value → Shared → Prop} (hz : Zc cls d oe) (hf : ∃ vs, oe.data = .fields vs) : CallR (X.tr ((a, oe) :: pn) xe) (.builtin "isinstance") (rIsX X.K cls d a) := by
  intro pins s σ H xs us Q I r h
  obtain ⟨D, rfl, rfl, C, h⟩ := h
  obtain ⟨hget, _⟩ := I.pin (a, oe) (List.mem_append.mpr (.inl List.mem_cons_self))
  obtain ⟨vs, hv⟩ := hf
  have J : PySem.W.InstAt s.heap a oe D none := by
    obtain ⟨oc, od, oda, osl⟩ := oe
    obtain ⟨h1, h2⟩ := hz
    dsimp only at h1 h2 hv
    subst h1 h2 hv
    exact ⟨hget, rfl, rfl, trivial⟩
  have Z := PySem.W.handS_kitx_exc (x := a) (ox := oe) C.hg C.hk C.hs C.hd C.ha C.hn C.ht C.hm
  rcases h with ⟨c, u, b, rfl, hc, e, q⟩ | ⟨tp, cs, ws, b, rfl, hT, k, e, q⟩
  · obtain ⟨u1, u2, rfl, r1, r2⟩ := vals2 r
    cases (show u1 = Value.ref a from r1)
    have e2 := hc.eq r2
    subst e2
    exact PySem.W.kia_one Z I.kIn J e (fun z => nomatch z) fun tk => ⟨.bl b, H, I.tok tk, rfl, q⟩
  · obtain ⟨u1, u2, rfl, r1, r2⟩ := vals2 r
    cases (show u1 = Value.ref a from r1)
    cases (show u2 = Value.ref tp from r2)
    obtain ⟨its, rv, ht, _⟩ := I.tuple hT
    obtain ⟨⟨oc, dd, dt, sl⟩, h1, h2, n, h3⟩ := id ht
    have e3 := ClsV.all k rv
    subst e3
    simp only at h2 h3
    subst h2 h3
    exact PySem.W.kia_tup Z I.kIn J h1 e (fun z => nomatch z) fun tk => ⟨.bl b, H, I.tok tk, rfl, q⟩
def cIsY (K : PySem.W.Frag) (cls : Value) (d : Option Addr) (a : Addr) : List V → Hp → VK → Prop := fun xs H Q => rIsX K cls d a xs H Q ∨ cIsi K xs H Q
theorem q_isinstanceX (K : PySem.W.Frag) {X : Cx} {a : Addr} {cls : Value} {d : Option Addr} {oe : Obj} {pn : List (Addr × Obj)} {xe : Value → Shared → Prop} (hz : Zc cls d oe) (hf : ∃ vs, oe.data = .fields vs) (e : X.K = K := by rfl) : CallR (X.tr ((a, oe) :: pn) xe) (.builtin "isinstance") (cIsY K cls d a) := by
  subst e
  exact CallR.or (call_isX hz hf) (q_isinstance X.K)
section
variable {K : PySem.W.Frag} {E : WX} {Ψ : PX} {ρ : Env3} {M : Mem} {N B C : Env3 → Mem → Prop} {R : D → Mem → Prop} {Φ : D → Mem → Prop}
/-- what the clause with a name wishes -/
def Kept (K : PySem.W.Frag) (c : Value) (x : Ex) (P : Value → Prop) (Q : Prop) : Prop := Caught K c x (x.fs = none ∧ P x.cls) Q
theorem Kept.yes {c : Value} {C0 : Addr} {P : Value → Prop} {Q : Prop} (e : PySem.W.exmOne K (.ref C0) c = some true) (h : P (.ref C0)) : Kept K c ⟨.ref C0, none⟩ P Q := Caught.yes e ⟨rfl, h⟩
theorem Kept.no {c : Value} {C0 : Addr} {P : Value → Prop} {Q : Prop} (e : PySem.W.exmOne K (.ref C0) c = some false) (h : Q) : Kept K c ⟨.ref C0, none⟩ P Q := Caught.no e h
theorem S.tryAs {c : Value} {i : Nat} {tb : WX → TS} {ts : TS} {tr : Addr → Value → Option Addr → TS} {tn : TS}
    (h : ∀ E', WS K E' (tb E') ρ M ⟨fun ρ1 M1 => WS K E tn ρ1 M1 ⟨N, R, B, C⟩ Ψ, R, B, C⟩ (fun x ρ' M' => Kept K c x (fun cls => AllA fun a => WS K E ts (ρ'.set i (some (.ref a))) M' ⟨fun ρ2 M2 => WS K E (tr a cls none) (ρ2.set i none) M2 ⟨N, R, B, C⟩ Ψ, R, fun ρ2 M2 => B (ρ2.set i none) M2, fun ρ2 M2 => C (ρ2.set i none) M2⟩ Ψ) (Ψ x ρ' M'))) :
    WS K E (tTryAs K c i tb ts tr tn E) ρ M ⟨N, R, B, C⟩ Ψ := fun σ F H Mf e a s k q => by
  refine h _ σ F H Mf _ a s ?_ ⟨fun σ1 ρ1 F1 H1 M1 w1 a1 s1 c1 => w1 σ1 F1 H1 Mf e a1 c1 (k.mono s1) (q.mono s1), q.rt, q.bk, q.ct⟩
  intro x ρ' M' F' H' σ' cls d hx a' sm s' xr
  obtain ⟨b, hb, h1, h2⟩ := hx
  obtain ⟨ec, xr2⟩ := xr
  refine ⟨b, by rw [ec]; exact hb, fun hh a0 ha0 => ?_, fun hh => ?_⟩
  · obtain ⟨hf, hw⟩ := h1 hh
    rw [hf] at xr2
    have hd : d = none := xr2
    subst hd
    subst ec
    refine hw a0 (σ'.set i (some (.ref a0))) F' H' Mf _ (a'.set (.ref a0) i) s' (k.mono sm) ⟨?_, (q.mono sm).rt, ?_, ?_⟩
    · intro σ1 ρ1 F1 H1 M1 w1 a1 s1 c1
      exact w1 _ F1 H1 Mf e (a1.clr i none) c1 (k.mono (sm.trans s1)) (q.mono (sm.trans s1))
    · intro σ1 ρ1 F1 H1 M1 w1 a1 s1 c1
      exact (q.mono sm).bk _ _ F1 H1 M1 w1 (a1.clr i none) s1 c1
    · intro σ1 ρ1 F1 H1 M1 w1 a1 s1 c1
      exact (q.mono sm).ct _ _ F1 H1 M1 w1 (a1.clr i none) s1 c1
  · exact k x ρ' M' F' H' σ' cls d (h2 hh) a' sm s' ⟨ec, xr2⟩
theorem CbD.isX {a C D0 : Addr} {b : Bool} (c : ExcC K D0) (e : PySem.W.kitOne K (.ref D0) (.ref C) = some b) (h : Φ (.bl b) M) : CbD K (cIsY K (.ref D0) none a) [.ref a, .ref C] M Φ := fun F H Mf vs Q r s k => by
  cases r with
  | cons r1 r => cases r with
    | cons r2 r =>
      cases r
      cases r1
      cases r2
      exact .inl ⟨D0, rfl, rfl, c, .inl ⟨_, _, b, rfl, .own C, e, k _ _ F H M h (.bl _) (Same.refl _) s⟩⟩
theorem refs_of {F : Hp} : ∀ {vs : List V} {ns : List Addr}, RDs K F vs (ns.map D.ref) → Paired ClsV vs (ns.map Value.ref)
  | _, [], r => by
    cases r
    exact .nil
  | _, n :: ns, r => by
    cases r with
    | cons r1 r2 =>
      cases r1
      exact .cons (.own n) (refs_of r2)
theorem CbD.isTX2 {a D0 A1 A2 : Addr} {b1 b2 : Bool} (c : ExcC K D0) (e1 : PySem.W.kitOne K (.ref D0) (.ref A1) = some b1) (e2 : PySem.W.kitOne K (.ref D0) (.ref A2) = some b2) (h : Φ (.bl (b1 || b2)) M) :
    CbD K (cIsY K (.ref D0) none a) [.ref a, .tup [.ref A1, .ref A2]] M Φ := fun F H Mf vs Q r s k => by
  cases r with
  | cons r1 r => cases r with
    | cons r2 r =>
      cases r
      cases r1
      cases r2 with
      | tup e q =>
        exact .inl ⟨D0, rfl, rfl, c, .inr ⟨_, _, _, b1 || b2, rfl, sqt_mono s.sub e, refs_of (ns := [A1, A2]) q, kitAny_cons e1 (fun z => by subst z; exact kitAny_cons e2 (fun z2 => by subst z2; exact kitAny_nil) fun z2 => by subst z2; rfl) fun z => by subst z; rfl, k _ _ F H M h (.bl _) (Same.refl _) s⟩⟩
end
end L3

/-! xs[a:b] = ys, xs[i] = y of own lists and of own rows of own lists. -/
namespace L3
open PySem PySem.Spec PyProof.Rows L2
section
variable {prog : Program} {w : World} {A : Around} {E : Value → Shared → Prop} {s : Shared}
/-- a list's slice of step one is stored to from a tuple -/
theorem slice_from_tup {l b sl : Addr} {xs ys : Array Value} {n : Nat} {vl vu : Value} {a c : Nat} {Q : Unit → Shared → Prop} (el : s.heap.get? l = some { cls := .type "list", data := .seq xs n }) (et : IsTup s.heap b ys) (ne : l ≠ b)
    (es : s.heap.IsSliceOf sl vl vu .none) (pl : IsPart vl (some (a : Int))) (pu : IsPart vu (some (c : Int))) (ac : a ≤ c) (cn : c ≤ xs.size) (hz : xs.size + ys.size ≤ sizeLine)
    (h : Q () { s with heap := s.heap.update l (Obj.mapSeq fun zs => zs.extract 0 a ++ ys ++ zs.extract c zs.size) }) : wpAny (model prog w) A (setItem (.ref l) (.ref sl) (.ref b)) Q E s := by
  obtain ⟨ot, gt, ct, nt, dt⟩ := id et
  obtain ⟨os, gs, cs, ds⟩ := id es
  have il : s.heap.IsList l xs := PySem.IsL.isList el
  have ts : s.TypeIs (.ref sl) "slice" := ⟨os, gs, cs⟩
  have nsame : Builtin.List.listSameRef (.ref l) (.ref b) = false := beq_eq_false_iff_ne.mpr ne
  have emax : (max (a : Int) (c : Int)).toNat = c := by omega
  have hz2 : ((fun zs : Array Value => zs.extract 0 a ++ ys ++ zs.extract c zs.size) xs).size ≤ sizeLine + 1 := by
    show (xs.extract 0 a ++ ys ++ xs.extract c xs.size).size ≤ _
    rw [Array.size_append, Array.size_append, Array.size_extract, Array.size_extract]; omega
  unfold setItem; refine wpAny_holding ?_
  refine wpAny_bind (wpAny_sequenceKey il.typeIs (by decide) ?_)
  refine wpAny_bind (wpAny_callSpecial?_slot (name := Str.ofString "__setitem__") il.typeIs slot_list_setitem (wpAny_call_entry slot_list_setitem il.typeIs entry_list_setitem ?_ (args_list_setitem _ _ _)))
  show wpAny _ _ (Builtin.List.listSubscript? (.ref sl) >>= _) _ _ s
  unfold Builtin.List.listSubscript?
  refine wpAny_bind (wpAny_bind (wpAny_specialOf ts slice_no_index ?_)); rw [if_pos (by rfl)]
  refine wpAny_pure ?_
  show wpAny _ _ (typeOf (.ref sl) >>= _) _ _ s
  refine wpAny_bind (wpAny_typeOf ts ?_); rw [if_neg (by decide), listSliceParts_eq]
  refine wpAny_bind (wpAny_bind (wpAny_field gs ds (x := .none) rfl (wpAny_bind (wpAny_listPart .none ?_)))); rw [if_neg (show ¬ ((rawPart none == rawInt 0) = true) from Bool.false_ne_true)]
  refine wpAny_bind (wpAny_field gs ds (x := vl) rfl (wpAny_bind (wpAny_listPart pl (wpAny_bind (wpAny_field gs ds (x := vu) rfl (wpAny_bind (wpAny_listPart pu (wpAny_pure ?_))))))))
  dsimp only; rw [if_neg (by rw [nsame]; exact Bool.false_ne_true)]
  refine wpAny_bind (m := Builtin.List.listAllItems (.ref b) "must assign iterable to extended slice") ?_; unfold Builtin.List.listAllItems
  refine wpAny_bind (wpAny_typeOf et.typeIs ?_); rw [if_pos (by decide)]
  unfold Builtin.List.listItems; refine wpAny_bind (wpAny_seqItems gt dt (wpAny_pure (wpAny_bind (wpAny_bind (wpAny_seqItems el rfl (wpAny_pure ?_))))))
  refine wpAny_bind (wpAny_of_eq ((sliceIndices_raw (some (a : Int)) (some (c : Int)) none xs.size (by simp)).trans (congrArg (pure : Int × Int × Int → Sem (Int × Int × Int)) (bounds_run ac cn))) ?_)
  show wpAny _ _ (if ((1 : Int) == 1) = true then _ else _) _ _ s
  rw [if_pos (by decide)]; refine wpAny_bind (wpAny_rule ?_); rw [if_neg (by rw [notLongL hz]; exact Bool.false_ne_true)]
  show wpAny _ _ (updateSeq l (fun zs => zs.extract 0 ((a : Int)).toNat ++ ys ++ zs.extract (max (a : Int) (c : Int)).toNat zs.size) >>= _) _ _ s
  rw [emax, Int.toNat_natCast]
  refine wpAny_bind (wpAny_updateSeq (hz := Nat.le_trans (Nat.le_add_right _ _) hz) (_hz' := hz2) el rfl (wpAny_bind (wpAny_letGo ?_)))
  first | exact wpAny_pure ⟨.none, rfl, wpAny_pure h⟩ | exact wpAny_bind (wpAny_pure (wpAny_pure ⟨.none, rfl, wpAny_pure h⟩))
end
theorem set_sliceT {X : Cx} {pins : List (Addr × Obj)} {s : Shared} {σ : L2.St} {H : Hp} {l b sl : Addr} {xs ys : List V} {a c : Int} {vl vu : Value} {Q : Unit → Shared → Prop} (I : Inv X pins σ H s) (hH : H l = some (.lst xs)) (hB : SqT X.K H b ys)
    (hs : s.heap.IsSliceOf sl vl vu .none) (ra : RelV (.int a) vl) (rc : RelV (.int c) vu) (h0 : 0 ≤ a) (hac : a ≤ c) (hc : c ≤ xs.length) (hz : xs.length + ys.length ≤ sizeLine)
    (h : ∀ s', Inv X pins σ (upd H l (.lst (xs.take a.toNat ++ ys ++ xs.drop c.toNat))) s' → Q () s') : wpAny (model X.prog X.w) X.A (setItem (.ref l) (.ref sl) (.ref b)) Q X.xe s := by
  obtain ⟨ta, rfl⟩ := ra
  obtain ⟨tc, rfl⟩ := rc
  obtain ⟨z, its, n, r, hl, e⟩ := I.lstM hH
  obtain ⟨its2, r2, et, z2⟩ := I.tuple hB
  have hl2 := r2.length
  obtain ⟨a', rfl⟩ := Int.eq_ofNat_of_zero_le h0
  obtain ⟨c', rfl⟩ := Int.eq_ofNat_of_zero_le (Int.le_trans h0 hac)
  rw [Int.toNat_natCast, Int.toNat_natCast] at h
  have ne : l ≠ b := fun z => by
    subst z
    obtain ⟨o, g, co, _⟩ := et
    rw [e] at g
    cases g
    have co : Value.type "list" = Value.type "tuple" := co
    injection co with co
    exact absurd co (by decide)
  refine slice_from_tup (a := a') (c := c') e et ne hs (.int _ _) (.int _ _) (by omega) (by rw [List.size_toArray]; omega) (by rw [List.size_toArray, List.size_toArray]; omega) (h _ ?_)
  refine I.lset (its' := its.take a' ++ its2 ++ its.drop c') (t' := s.toks) hH e (splice_eq its its2 a' c') (((r.take _).append r2).append (r.drop _)) ?_
  rw [List.length_append, List.length_append, List.length_take, List.length_drop]; omega
/-- what is stored to a slice -/
def rSlc (K : PySem.W.Frag) (o : V) (lo hi : Option Int) (v : V) (H : Hp) (Q : Hp → Prop) : Prop := ∃ (l b : Addr) (xs ys : List V) (a c : Int), o = .ref l ∧ v = .ref b ∧ lo = some a ∧ hi = some c ∧ H l = some (.lst xs) ∧ ((H b = some (.lst ys) ∧ l ≠ b) ∨ SqT K H b ys) ∧
  0 ≤ a ∧ a ≤ c ∧ c ≤ xs.length ∧ xs.length + ys.length ≤ sizeLine ∧ Q (upd H l (.lst (xs.take a.toNat ++ ys ++ xs.drop c.toNat)))
def gSlc (K : PySem.W.Frag) (to : TE) (tl th : TO) : TG := fun v σ H Q => to σ H fun o H1 => tl σ H1 fun lo H2 => th σ H2 fun hi H3 => rSlc K o lo hi v H3 fun H4 => Q σ H4
theorem pg_slc {X : Cx} {o : Expr} {lo hi : Option Expr} {to : TE} {tl th : TO} {p2 pos : Pos} (ho : PE X o to) (hl : PO X lo tl) (hh : PO X hi th)
    (ha : ∀ v, assign (.Subscript o (.Slice lo hi none p2) pos) X.env v = (do
      let ov ← holding [v] (eval o X.env)
      let iv ← holding [v, ov] (eval (.Slice lo hi none p2) X.env)
      standAt pos
      holding [v, ov, iv] (setItem ov iv v)
      release [iv, v, ov] []) := by intro _; rfl) : PG X (.Subscript o (.Slice lo hi none p2) pos) (gSlc X.K to tl th) := by
  refine ⟨fun pins s σ H v u Q I r h => ?_⟩
  rw [ha]
  refine wpAny_bind (wpAny_holding (thn (ho.run pins s σ H _ I h) fun ov s1 ⟨x, H1, I1, r1, q1⟩ => ?_))
  refine wpAny_bind (wpAny_holding (wpAny_Slice (thn (hl.run pins s1 σ H1 _ I1 q1) fun vl s2 ⟨l, H2, I2, pl, q2⟩ => thn (hh.run pins s2 σ H2 _ I2 q2) fun vu s3 ⟨u', H3, I3, pu, q3⟩ => thn (po_none.run pins s3 σ H3 (fun o H4 => o = none ∧ H4 = H3) I3 ⟨rfl, rfl⟩) fun vn s4 ⟨on, H4, I4, pn, q4⟩ => ?_)))
  obtain ⟨rfl, rfl⟩ := q4
  obtain ⟨la, b, xs, ys, a, c, rfl, rfl, rfl, rfl, e1, e2, h0, hac, hc, hz, q⟩ := q3
  cases pn
  cases pl with
  | int _ ta =>
    cases pu with
    | int _ tc =>
      cases r1
      cases r
      have I5 : Inv X pins σ H4 { s4 with heap := s4.heap.push { cls := .type "slice", data := .fields #[.int a ta, .int c tc, .none] } } := I4.kept (t' := s4.toks) fun b ob q => Heap.get?_push_of_some _ q
      refine wpAny_bind (wpAny_standAt (wpAny_bind (wpAny_holding ?_)))
      rcases e2 with ⟨e2, ne⟩ | e2
      · exact set_slice I5 e1 e2 ne (Heap.IsSliceOf.new _ _ _ _) ⟨ta, rfl⟩ ⟨tc, rfl⟩ h0 hac hc hz fun s' I6 => wpAny_release ⟨σ, _, I6, q⟩
      · exact set_sliceT I5 e1 e2 (Heap.IsSliceOf.new _ _ _ _) ⟨ta, rfl⟩ ⟨tc, rfl⟩ h0 hac hc hz fun s' I6 => wpAny_release ⟨σ, _, I6, q⟩
theorem q_slc (K : PySem.W.Frag) {X : Cx} {o : Expr} {lo hi : Option Expr} {to : TE} {tl th : TO} {p2 pos : Pos} (ho : PE X o to) (hl : PO X lo tl) (hh : PO X hi th) (e : X.K = K := by rfl)
    (ha : ∀ v, assign (.Subscript o (.Slice lo hi none p2) pos) X.env v = (do
      let ov ← holding [v] (eval o X.env)
      let iv ← holding [v, ov] (eval (.Slice lo hi none p2) X.env)
      standAt pos
      holding [v, ov, iv] (setItem ov iv v)
      release [iv, v, ov] []) := by intro _; rfl) : PG X (.Subscript o (.Slice lo hi none p2) pos) (gSlc K to tl th) := by
  subst e
  exact pg_slc ho hl hh ha
/-! ### by data -/
section
variable {K : PySem.W.Frag} {E : WX} {Ψ : PX} {ρ : Env3} {M : Mem} {N B C : Env3 → Mem → Prop} {R : D → Mem → Prop} {Φ : D → Mem → Prop}
def SlcD (K : PySem.W.Frag) (o : D) (lo hi : Option Int) (x : D) (M : Mem) (P : Mem → Prop) : Prop := ∀ F H Mf v u Q, RD K F v o → RD K F u x → StC K F H (M ++ Mf) → (∀ H' M', P M' → StC K F H' (M' ++ Mf) → Q H') → rSlc K v lo hi u H Q
def StD (K : PySem.W.Frag) (o i x : D) (M : Mem) (P : Mem → Prop) : Prop := ∀ F H Mf v w u Q, RD K F v o → RD K F w i → RD K F u x → StC K F H (M ++ Mf) → (∀ H' M', P M' → StC K F H' (M' ++ Mf) → Q H') → rSetL v w u H Q
theorem WG.slc {to : TE} {tl th : TO} {x : D} {Θ : Env3 → Mem → Prop} (h : W K E to ρ M (fun o M1 => WO K E tl ρ M1 (fun lo M2 => WO K E th ρ M2 (fun hi M3 => SlcD K o lo hi x M3 (Θ ρ)) Ψ) Ψ) Ψ) : WG K E (gSlc K to tl th) x ρ M Θ Ψ := fun σ F H Mf vs Q r a s k q =>
  h σ F H Mf _ a s k fun v o F1 H1 M1 h1 r1 s1 c1 => h1 σ F1 H1 Mf _ (a.mono s1) c1 (k.mono s1) fun lo F2 H2 M2 h2 s2 c2 => h2 σ F2 H2 Mf _ (a.mono (s1.trans s2)) c2 (k.mono (s1.trans s2)) fun hi F3 H3 M3 h3 s3 c3 =>
    h3 F3 H3 Mf v vs _ (r1.mono (s2.trans s3)) (r.mono ((s1.trans s2).trans s3)) c3 fun H' M' p c => q σ ρ F3 H' M' p (a.mono ((s1.trans s2).trans s3)) ((s1.trans s2).trans s3) c
theorem WG.sub {to ti : TE} {x : D} {Θ : Env3 → Mem → Prop} (h : W K E to ρ M (fun o M1 => W K E ti ρ M1 (fun i M2 => StD K o i x M2 (Θ ρ)) Ψ) Ψ) : WG K E (gSub to ti rSetL) x ρ M Θ Ψ := fun σ F H Mf vs Q r a s k q =>
  h σ F H Mf _ a s k fun v o F1 H1 M1 h1 r1 s1 c1 => h1 σ F1 H1 Mf _ (a.mono s1) c1 (k.mono s1) fun w i F2 H2 M2 h2 r2 s2 c2 =>
    h2 F2 H2 Mf v w vs _ (r1.mono s2) r2 (r.mono (s1.trans s2)) c2 fun H' M' p c => q σ ρ F2 H' M' p (a.mono (s1.trans s2)) (s1.trans s2) c
theorem SlcD.own {α : Type} {g : α → D} {p : Addr} {xs ys : List α} {x : D} {a c : Int} {f : O → Mem} {P : Mem → Prop} (hm : Sp p (.lst (xs.map g)) M f) (hx : x = .lst (ys.map g) ∨ x = .tup (ys.map g)) (h0 : 0 ≤ a) (h1 : a ≤ c) (h2 : c ≤ (xs.length : Int)) (h3 : xs.length + ys.length ≤ 100000)
    (h : P (f (.lst ((xs.take a.toNat ++ ys ++ xs.drop c.toNat).map g)))) : SlcD K (.ref p) (some a) (some c) x M P := fun F H Mf v u Q r r2 s k => by
  cases r
  obtain ⟨ws, e1, rw'⟩ := own_lst s hm.mem
  have hl := rw'.len
  rw [List.length_map] at hl
  have n3 := (s.own p _ (List.mem_append_left _ hm.mem)).1
  have fin : ∀ ws2, RDs K F ws2 (ys.map g) → ws.length + ws2.length ≤ sizeLine ∧ Q (upd H p (.lst (ws.take a.toNat ++ ws2 ++ ws.drop c.toNat))) := fun ws2 q2 => by
    have hl2 := q2.len
    rw [List.length_map] at hl2
    refine ⟨line_of (by omega), k _ _ h (hm.put s (show RO K F (.lst _) (.lst _) from ?_))⟩
    rw [List.map_append, List.map_append, List.map_take, List.map_drop]
    exact ((rw'.take _).app q2).app (rw'.drop _)
  rcases hx with rfl | rfl
  · cases r2 with
    | lst e rs =>
      obtain ⟨f1, f2⟩ := fin _ rs
      refine ⟨p, _, ws, _, a, c, rfl, rfl, rfl, rfl, e1, .inl ⟨s.sub _ _ e, fun z => ?_⟩, h0, h1, by omega, f1, f2⟩
      subst z
      rw [n3] at e
      cases e
  · cases r2 with
    | tup e rs =>
      obtain ⟨f1, f2⟩ := fin _ rs
      exact ⟨p, _, ws, _, a, c, rfl, rfl, rfl, rfl, e1, .inr (sqt_mono s.sub e), h0, h1, by omega, f1, f2⟩
theorem StD.own {α : Type} {g : α → D} {p : Addr} {xs : List α} {y : α} {x : D} {i : Int} {f : O → Mem} {P : Mem → Prop} (hm : Sp p (.lst (xs.map g)) M f) (hx : x = g y) (h0 : 0 ≤ i) (h1 : i < (xs.length : Int))
    (h : P (f (.lst ((xs.set i.toNat y).map g)))) : StD K (.ref p) (.int i) x M P := fun F H Mf v w u Q r r1 r2 s k => by
  subst hx
  cases r
  cases r1
  obtain ⟨ws, e1, rw'⟩ := own_lst s hm.mem
  have hl := rw'.len
  rw [List.length_map] at hl
  refine ⟨p, ws, i, i.toNat, rfl, rfl, e1, ixN_nat h0 (by omega), k _ _ h (hm.put s (show RO K F (.lst _) (.lst _) from ?_))⟩
  rw [List.map_set]
  exact rw'.set r2 _
/-! ### own rows of an own list -/
/-- rows of whole numbers, told by places -/
abbrev gr (r : Nat → Addr) (w h : Nat) (f : Nat → Nat → Int) : List (Addr × List D) := (List.range h).map fun y => (r y, ((List.range w).map (f y)).map D.int)
theorem gr_split {r : Nat → Addr} {w h : Nat} {f f' : Nat → Nat → Int} {y : Nat} (hy : y < h) (e : ∀ z, z ≠ y → f' z = f z) : gr r w h f' = (gr r w h f).take y ++ (r y, ((List.range w).map (f' y)).map D.int) :: (gr r w h f).drop (y + 1) := by
  apply List.ext_getElem?
  intro i
  by_cases hi : i < h
  · rw [List.getElem?_map, List.getElem?_range hi]
    rcases Nat.lt_trichotomy i y with c | c | c
    · rw [List.getElem?_append_left (by simp; omega), List.getElem?_take_of_lt c, List.getElem?_map, List.getElem?_range hi, Option.map_some, Option.map_some, e i (by omega)]
    · subst c
      rw [List.getElem?_append_right (by simp; omega)]
      have : i - (List.take i (gr r w h f)).length = 0 := by simp; omega
      rw [this]
      rfl
    · rw [List.getElem?_append_right (by simp; omega)]
      have : i - (List.take y (gr r w h f)).length = (i - (y + 1)) + 1 := by simp; omega
      rw [this, List.getElem?_cons_succ, List.getElem?_drop, show y + 1 + (i - (y + 1)) = i by omega, List.getElem?_map, List.getElem?_range hi, Option.map_some, Option.map_some, e i (by omega)]
  · rw [List.getElem?_eq_none (by simp; omega), List.getElem?_eq_none (by simp; omega)]
theorem StC.putRow {F H : Hp} {A B : Mem} {g p : Addr} {r1 r2 : List (Addr × List D)} {xs xs' : List D} {vs : List V} (s : StC K F H (A ++ (g, .grd (r1 ++ (p, xs) :: r2)) :: B)) (r : RDs K F vs xs') : StC K F (upd H p (.lst vs)) (A ++ (g, .grd (r1 ++ (p, xs') :: r2)) :: B) := by
  unfold StC at s ⊢
  rw [exM_app, exM_cons] at s ⊢
  have e : ∀ zs, exO (g, .grd (r1 ++ (p, zs) :: r2)) = ((g, .lst ((r1.map fun q => D.ref q.1) ++ .ref p :: r2.map fun q => .ref q.1)) :: r1.map fun q => (q.1, .lst q.2)) ++ (p, .lst zs) :: r2.map fun q => (q.1, .lst q.2) := by
    intro zs
    show (g, O.lst ((r1 ++ (p, zs) :: r2).map fun q => D.ref q.1)) :: ((r1 ++ (p, zs) :: r2).map fun q => (q.1, O.lst q.2)) = _
    rw [List.map_append, List.map_append, List.map_cons, List.map_cons, List.cons_append]
  rw [e] at s ⊢
  rw [List.append_assoc, ← List.append_assoc (exM A), List.cons_append] at s ⊢
  exact StR.put s (show RO K F (.lst vs) (.lst xs') from r)
theorem grd_own {g : Addr} {rs : List (Addr × List D)} (h : (g, .grd rs) ∈ M) : (g, O.lst (rs.map fun p => .ref p.1)) ∈ exM M := List.mem_flatMap.mpr ⟨_, h, List.mem_cons_self⟩
theorem grd_row {g p : Addr} {xs : List D} {rs : List (Addr × List D)} (h : (g, .grd rs) ∈ M) (hr : (p, xs) ∈ rs) : (p, O.lst xs) ∈ exM M := List.mem_flatMap.mpr ⟨_, h, List.mem_cons_of_mem _ (List.mem_map.mpr ⟨_, hr, rfl⟩)⟩
theorem gr_mem {r : Nat → Addr} {w h : Nat} {f : Nat → Nat → Int} {y : Nat} (hy : y < h) : (r y, ((List.range w).map (f y)).map D.int) ∈ gr r w h f := List.mem_map.mpr ⟨y, List.mem_range.mpr hy, rfl⟩
theorem gr_refs {r : Nat → Addr} {w h : Nat} {f : Nat → Nat → Int} : (gr r w h f).map (fun p => D.ref p.1) = (List.range h).map fun y => D.ref (r y) := by
  rw [List.map_map]
  rfl
theorem Seq.grd {g : Addr} {r : Nat → Addr} {w h : Nat} {f : Nat → Nat → Int} (hm : (g, .grd (gr r w h f)) ∈ M) : Seq M (.ref g) ((List.range h).map fun y => .ref (r y)) := .ownX (by rw [← gr_refs (w := w) (f := f)]; exact grd_own hm)
theorem Seq.row {g : Addr} {r : Nat → Addr} {w h : Nat} {f : Nat → Nat → Int} {y : Nat} (hm : (g, .grd (gr r w h f)) ∈ M) (hy : y < h) : Seq M (.ref (r y)) (((List.range w).map (f y)).map D.int) := .ownX (grd_row hm (gr_mem hy))
theorem SeqN.grd {g : Addr} {r : Nat → Addr} {w h : Nat} {f : Nat → Nat → Int} (hm : (g, .grd (gr r w h f)) ∈ M) : SeqN M (.ref g) ((List.range h).map fun y => .ref (r y)) := .ownX (by rw [← gr_refs (w := w) (f := f)]; exact grd_own hm)
theorem SeqN.row {g : Addr} {r : Nat → Addr} {w h : Nat} {f : Nat → Nat → Int} {y : Nat} (hm : (g, .grd (gr r w h f)) ∈ M) (hy : y < h) : SeqN M (.ref (r y)) (((List.range w).map (f y)).map D.int) := .ownX (grd_row hm (gr_mem hy))
/-- a row of it is another one -/
theorem Sp.putRow {g : Addr} {r : Nat → Addr} {w h : Nat} {f f' : Nat → Nat → Int} {fn : O → Mem} {Mf : Mem} {F H : Hp} {vs : List V} {y : Nat} (hm : Sp g (.grd (gr r w h f)) M fn) (hy : y < h) (e : ∀ z, z ≠ y → f' z = f z) (s : StC K F H (M ++ Mf)) (rr : RDs K F vs (((List.range w).map (f' y)).map D.int)) :
    StC K F (upd H (r y) (.lst vs)) (fn (.grd (gr r w h f')) ++ Mf) := by
  obtain ⟨A, B, rfl, rfl⟩ := hm.split
  rw [List.append_assoc, List.cons_append] at s ⊢
  rw [gr_split (f := f) (f' := f) hy fun _ _ => rfl] at s
  rw [gr_split (f := f) (f' := f') hy e]
  exact s.putRow rr
def setRow (f : Nat → Nat → Int) (y a : Nat) (ys : List Int) : Nat → Nat → Int := fun z x => if z = y ∧ a ≤ x ∧ x < a + ys.length then ys.getD (x - a) 0 else f z x
def setAt (f : Nat → Nat → Int) (y x : Nat) (v : Int) : Nat → Nat → Int := fun z u => if z = y ∧ u = x then v else f z u
theorem setRow_eq {f : Nat → Nat → Int} {w y a : Nat} {ys : List Int} (h : a + ys.length ≤ w) : (List.range w).map (setRow f y a ys y) = ((List.range w).map (f y)).take a ++ ys ++ ((List.range w).map (f y)).drop (a + ys.length) := by
  apply List.ext_getElem?
  intro i
  by_cases hi : i < w
  · rw [List.getElem?_map, List.getElem?_range hi, Option.map_some]
    unfold setRow
    by_cases c1 : i < a
    · rw [if_neg (by omega), List.append_assoc, List.getElem?_append_left (by simp; omega), List.getElem?_take_of_lt c1, List.getElem?_map, List.getElem?_range hi, Option.map_some]
    · by_cases c2 : i < a + ys.length
      · rw [if_pos ⟨rfl, by omega, c2⟩, List.append_assoc, List.getElem?_append_right (by simp; omega), List.getElem?_append_left (by simp; omega)]
        have e : i - (List.take a (List.map (f y) (List.range w))).length = i - a := by simp; omega
        rw [e, List.getD_eq_getElem?_getD, List.getElem?_eq_getElem (by omega)]
        rfl
      · rw [if_neg (by omega), List.getElem?_append_right (by simp; omega), List.getElem?_drop]
        have e : a + ys.length + (i - (List.take a (List.map (f y) (List.range w)) ++ ys).length) = i := by simp; omega
        rw [e, List.getElem?_map, List.getElem?_range hi, Option.map_some]
  · rw [List.getElem?_eq_none (by simp; omega), List.getElem?_eq_none (by simp; omega)]
theorem setAt_eq {f : Nat → Nat → Int} {w y x : Nat} {v : Int} (h : x < w) : (List.range w).map (setAt f y x v y) = ((List.range w).map (f y)).set x v := by
  apply List.ext_getElem?
  intro i
  by_cases hi : i < w
  · rw [List.getElem?_map, List.getElem?_range hi, Option.map_some, List.getElem?_set, List.getElem?_map, List.getElem?_range hi, Option.map_some]
    unfold setAt
    by_cases c : x = i
    · subst c
      simp [h]
    · rw [if_neg c, if_neg (by omega)]
  · rw [List.getElem?_eq_none (by simp; omega), List.getElem?_eq_none (by simp; omega)]
theorem SlcD.row {g : Addr} {r : Nat → Addr} {w h : Nat} {f : Nat → Nat → Int} {y m : Nat} {ys : List Int} {x : D} {a c : Int} {fn : O → Mem} {P : Mem → Prop} (hm : Sp g (.grd (gr r w h f)) M fn) (hy : y < h) (hx : x = .lst (ys.map D.int) ∨ x = .tup (ys.map D.int)) (hl : ys.length = m) (e : c = a + (m : Int)) (h0 : 0 ≤ a) (h2 : c ≤ (w : Int)) (h3 : w ≤ 1000)
    (k : P (fn (.grd (gr r w h (setRow f y a.toNat ys))))) : SlcD K (.ref (r y)) (some a) (some c) x M P := fun F H Mf v u Q q q2 s kk => by
  cases q
  obtain ⟨ws, e1, rw'⟩ := own_lstX s (grd_row hm.mem (gr_mem hy))
  have hl1 := rw'.len
  rw [List.length_map, List.length_map, List.length_range] at hl1
  have n3 := (StR.own s (r y) _ (by rw [exM_app]; exact List.mem_append_left _ (grd_row hm.mem (gr_mem hy)))).1
  have fin : ∀ ws2, RDs K F ws2 (ys.map D.int) → ws.length + ws2.length ≤ sizeLine ∧ Q (upd H (r y) (.lst (ws.take a.toNat ++ ws2 ++ ws.drop c.toNat))) := fun ws2 qq => by
    have hl2 := qq.len
    rw [List.length_map] at hl2
    refine ⟨line_of (by omega), kk _ _ k (hm.putRow hy (fun z hz => ?_) s ?_)⟩
    · funext b
      unfold setRow
      rw [if_neg (fun z => hz z.1)]
    · rw [setRow_eq (by omega), List.map_append, List.map_append, List.map_take, List.map_drop, show a.toNat + ys.length = c.toNat by omega]
      exact ((rw'.take _).app qq).app (rw'.drop _)
  rcases hx with rfl | rfl
  · cases q2 with
    | lst e' rs =>
      obtain ⟨f1, f2⟩ := fin _ rs
      refine ⟨_, _, ws, _, a, c, rfl, rfl, rfl, rfl, e1, .inl ⟨s.sub _ _ e', fun z => ?_⟩, h0, by omega, by omega, f1, f2⟩
      rw [z] at n3
      rw [n3] at e'
      cases e'
  · cases q2 with
    | tup e' rs =>
      obtain ⟨f1, f2⟩ := fin _ rs
      exact ⟨_, _, ws, _, a, c, rfl, rfl, rfl, rfl, e1, .inr (sqt_mono s.sub e'), h0, by omega, by omega, f1, f2⟩
theorem StD.row {g : Addr} {r : Nat → Addr} {w h : Nat} {f : Nat → Nat → Int} {y : Nat} {i v : Int} {fn : O → Mem} {P : Mem → Prop} (hm : Sp g (.grd (gr r w h f)) M fn) (hy : y < h) (h0 : 0 ≤ i) (h2 : i < (w : Int)) (k : P (fn (.grd (gr r w h (setAt f y i.toNat v))))) : StD K (.ref (r y)) (.int i) (.int v) M P := fun F H Mf u1 u2 u3 Q q q1 q2 s kk => by
  cases q
  cases q1
  obtain ⟨ws, e1, rw'⟩ := own_lstX s (grd_row hm.mem (gr_mem hy))
  have hl1 := rw'.len
  rw [List.length_map, List.length_map, List.length_range] at hl1
  refine ⟨_, ws, i, i.toNat, rfl, rfl, e1, ixN_nat h0 (by omega), kk _ _ k (hm.putRow hy (fun z hz => ?_) s ?_)⟩
  · funext b
    unfold setAt
    rw [if_neg (fun z => hz z.1)]
  · rw [setAt_eq (by omega), List.map_set]
    exact rw'.set q2 _
end
end L3

/-! == of instances with the text's own __eq__. -/
namespace L3
open PySem PySem.Spec PyProof.Rows L2
def rEqSD (C : Addr) (sp : L2.Sp) : R2 := fun x y H Q => ∃ a b dx dy fs gs, x = .ref a ∧ y = .ref b ∧ H a = some (.ins C dx fs) ∧ H b = some (.ins C dy gs) ∧ sp [.ref a, .ref b] H (fun v H' => ∃ r, v = .bl r ∧ Q (.bl r) H') (fun _ _ _ => False)
theorem op_eqSD {X : Cx} {n : Nat} {C f : Addr} {fd : FuncData} {ps : List Str} {sp : L2.Sp} (F : FnOk X.prog X.w X.K X.mg X.base (L2.CX X.prog X.w) n f fd ps sp) (hr : Room n X.A)
    (hs : PySem.W.findIn X.K (.ref C) "__eq__" = some (some (.ref f))) (hf : PySem.W.isFn X.K (.ref f) = true) (hb : Binds X.K fd ps []) : OpR X (compareOp .Eq) (rEqSD C sp) := by
  intro pins s σ H x y v u Q I rx ry hq
  obtain ⟨a, b, dx, dy, fs, gs, rfl, rfl, ha, hb', hsp⟩ := hq
  cases rx
  cases ry
  obtain ⟨mA, J, _⟩ := ins_get I.hok ha
  obtain ⟨mB, J', _⟩ := ins_get I.hok hb'
  obtain ⟨od, J, _⟩ := J.look
  obtain ⟨od', J', _⟩ := J'.look
  obtain ⟨m, hF⟩ := I.fr
  show wpAny (model X.prog X.w) X.A (richCompare .Eq _ _) (EP X pins σ Q) X.xe s
  refine PySem.W.cmp_K (op := .Eq) (tb := .ref C) hr.units0 hF I.ok.mod.kin J J'.type (by simp [PySem.W.notFirst]) hs hf ?_
  have e0 : Env0 X.prog X.w X.K X.mg X.base X.A X.stack s H := I.env0
  have hl := F.len _ _ _ _ hsp
  have r2 : Vals [V.ref a, V.ref b] [Value.ref a, Value.ref b] := .cons rfl (.cons rfl .nil)
  refine wpAny_call (codeAny_mono (F.run X.A X.stack s H ⟨[.ref a, .ref b], []⟩ [.ref a, .ref b] [.ref a, .ref b] _ _ hr e0 (by
    have := hb s [.ref a, .ref b] I.kIn (by simpa using hl)
    simpa using this) r2 hsp) fun r s' hq => ?_)
  cases r with
  | error e => exact (pass_blk (X := X) (σ := σ)) pins H s e s' I hq
  | ok fl =>
    cases fl with
    | ret w =>
      obtain ⟨z, H', I', rz, ⟨r, ez, q⟩⟩ := I.after hq
      subst ez
      cases rz
      exact ⟨.bl r, H', I', rfl, q⟩
    | next => exact False.elim hq
    | brk => exact False.elim hq
    | cont => exact False.elim hq
theorem OpD.eqOb {K : PySem.W.Frag} {M : Mem} {Φ : D → Mem → Prop} {C : Addr} {fs gs : List (Str × D)} {sp : SpD} (h : sp [.ob C fs, .ob C gs] [] (fun x Mc => ∃ r, x = .bl r ∧ Φ (.bl r) (Mc ++ M)) (fun _ _ => False)) : OpD K (rEqSD C (lift K sp)) (.ob C fs) (.ob C gs) M Φ := fun F H Mf v u Q r1 r2 s k => by
  cases r1 with
  | ob e1 q1 =>
    cases r2 with
    | ob e2 q2 =>
      refine ⟨_, _, _, _, _, _, rfl, rfl, s.sub _ _ e1, s.sub _ _ e2, ?_⟩
      refine ⟨_, F, [], M ++ Mf, _, _, .cons (.ob e1 q1) (.cons (.ob e2 q2) .nil), s, h, fun v x F2 H2 M2 h2 rv s2 c2 => ?_, fun x M2 F2 H2 cls d h2 _ _ _ => h2.elim⟩
      obtain ⟨r, rfl, hp⟩ := h2
      cases rv
      exact ⟨r, rfl, k _ _ F2 H2 (M2 ++ M) hp (.bl r) s2 (by rw [List.append_assoc]; exact c2)⟩
end L3

/-! != of instances with the text's own __eq__ and no __ne__. -/
namespace L3
open PySem PySem.Spec PyProof.Rows L2
section
variable {M : Model} {prog : Program} {w : World} {A : Around} {E : Value → Shared → Prop} {s : Shared} {K : PySem.W.Frag} {x y C f : Addr} {ox oy : Obj} {od : Option Obj}
theorem ifBound_objNe {args : List Value} {Q : Option Value → Shared → Prop} (X : K.In s.heap) (I : PySem.W.InstAt s.heap x ox C od) (hs : PySem.W.findIn K (.ref C) "__ne__" = some (some (.builtin "object.__ne__")))
    (h : wpAny M A (call (.builtin "object.__ne__") (.ref x :: args)) (fun v => Q (some v)) E s) : wpAny M A (callSpecialIfBound? (.ref x) "__ne__" args) Q E s := by
  simp only [callSpecialIfBound?, bindSpecialIfBound?]
  refine wpAny_holding (wpAny_bind (wpAny_bind (wpAny_bind (I.type.here ((PySem.W.looks_findIn X hs).here ?_)))))
  refine wpAny_bind (wpAny_askSetting (wpAny_ite ?_))
  have fin : wpAny M A (call (.builtin "object.__ne__") ([.ref x] ++ args) >>= fun v => pure (some v)) Q E s := wpAny_bind (wpAny_mono h (fun v s' h' => wpAny_pure h') fun _ _ h' => h')
  split
  · exact wpAny_bind (wpAny_of_eq (F.cmp_object.ne.bind _) (wpAny_pure (by exact fin)))
  · exact wpAny_tryCatch (wpAny_bind (wpAny_of_eq (F.cmp_object.ne.bind _) (wpAny_pure (by exact fin))))
theorem objNe_own (X : K.In s.heap) (I : PySem.W.InstAt s.heap x ox C od) (hs : PySem.W.findIn K (.ref C) "__eq__" = some (some (.ref f))) (hf : PySem.W.isFn K (.ref f) = true) (hu : A.units < cLine) {Q : PySem.Fin → Shared → Prop}
    (hcall : wpAny (model prog w) A (call (.ref f) [.ref x, .ref y]) (fun v s' => ∃ b, v = .bool b ∧ Q (.done (.ret (.bool (!b)))) s') E s) :
    wpAny (model prog w) A (Builtin.«object.__ne__» ⟨[.ref x, .ref y], []⟩) Q E s := by
  unfold Builtin.«object.__ne__»
  repeat (first
    | with_reducible refine wpAny_cRoomFor hu ?_
    | (refine wpAny_bind (m := callSpecialIfBound? (.ref x) (Str.ofString "__eq__") [.ref y])
        (PySem.W.ifBound_K X I hs hf (wpAny_mono hcall (fun r s' hr => by
          obtain ⟨b, rfl, hq⟩ := hr
          repeat (first | exact hq | exact wpAny_pure hq | exact wpAny_truthy_bool hq | (refine wpAny_bind (m := truthy (.bool _)) (wpAny_truthy_bool ?_)) | wp_step)) fun _ _ e => e)))
    | wp_step)
theorem tryNe_own (X : K.In s.heap) (I : PySem.W.InstAt s.heap x ox C od) (hs : PySem.W.findIn K (.ref C) "__eq__" = some (some (.ref f))) (hf : PySem.W.isFn K (.ref f) = true)
    (hn : PySem.W.findIn K (.ref C) "__ne__" = some (some (.builtin "object.__ne__"))) (hm : PySem.W.mroIn K C (.type "object") = some true) (hu : A.units + 1 < cLine) {Q : Option Value → Shared → Prop}
    (hcall : wpAny (model prog w) A.in1 (call (.ref f) [.ref x, .ref y]) (fun v s' => ∃ b, v = .bool b ∧ Q (some (.bool (!b))) s') E s) :
    wpAny (model prog w) A (tryCompare (.ref x) "__ne__" (.ref y)) Q E s := by
  unfold tryCompare
  refine wpAny_bind (ifBound_objNe X I hn (wpAny_call (codeAny_call_builtin F.cmp_object.ne.plain F.cmpEntry_ne (PySem.W.check_slot F.cmpKind_ne F.cmpSplit_ne (I.type.andThen (PySem.W.looks_mroIn X hm)) (F.cmpArgs_ne _ _)
    (objNe_own (A := A.in1) X I hs hf hu (wpAny_mono hcall (fun v s' hv => ?_) fun _ _ e => e))))))
  obtain ⟨b, rfl, hq⟩ := hv
  first | exact ⟨b, rfl, wpAny_pure hq⟩ | exact ⟨b, rfl, wpAny_pure (wpAny_pure hq)⟩ | exact ⟨b, rfl, hq⟩
theorem richNe_own (X : K.In s.heap) (I : PySem.W.InstAt s.heap x ox C od) (I2 : (model prog w |> fun M => PySem.W.Looks M s.heap (typeOf (.ref y)) (.ref C))) (hs : PySem.W.findIn K (.ref C) "__eq__" = some (some (.ref f))) (hf : PySem.W.isFn K (.ref f) = true)
    (hn : PySem.W.findIn K (.ref C) "__ne__" = some (some (.builtin "object.__ne__"))) (hm : PySem.W.mroIn K C (.type "object") = some true) (hu : A.units + 1 < cLine) {Q : Value → Shared → Prop}
    (hcall : wpAny (model prog w) A.in1 (call (.ref f) [.ref x, .ref y]) (fun v s' => ∃ b, v = .bool b ∧ Q (.bool (!b)) s') E s) :
    wpAny (model prog w) A (compareOp .NotEq (.ref x) (.ref y)) Q E s := by
  show wpAny (model prog w) A (richCompare .NotEq (.ref x) (.ref y)) Q E s
  unfold richCompare
  simp only [oneThing_ref]
  refine wpAny_holding ?_
  refine wpAny_bind (wpAny_cRoomFor (Nat.lt_of_succ_lt hu) ?_)
  rw [cmpInfo_NotEq]
  dsimp only
  refine wpAny_bind (I.type.here ?_)
  refine wpAny_bind (PySem.W.Looks.here I2 ?_)
  rw [show (Value.ref C != Value.ref C) = false from by simp]
  simp only [Bool.false_eq_true, if_false]
  refine wpAny_bind (wpAny_pure ?_)
  simp only [Bool.false_eq_true, if_false]
  refine wpAny_bind (tryNe_own X I hs hf hn hm hu (wpAny_mono hcall (fun v s' hv => ?_) fun _ _ e => e))
  obtain ⟨b, rfl, hq⟩ := hv
  first | exact ⟨b, rfl, wpAny_pure hq⟩ | exact wpAny_pure hq | exact ⟨b, rfl, wpAny_pure (wpAny_pure hq)⟩
end
def rNeSD (C : Addr) (sp : L2.Sp) : R2 := fun x y H Q => ∃ a b dx dy fs gs, x = .ref a ∧ y = .ref b ∧ H a = some (.ins C dx fs) ∧ H b = some (.ins C dy gs) ∧ sp [.ref a, .ref b] H (fun v H' => ∃ r, v = .bl r ∧ Q (.bl (!r)) H') (fun _ _ _ => False)
theorem op_neSD {X : Cx} {n : Nat} {C f : Addr} {fd : FuncData} {ps : List Str} {sp : L2.Sp} (F : FnOk X.prog X.w X.K X.mg X.base (L2.CX X.prog X.w) n f fd ps sp) (hr : Room (n + 1) X.A)
    (hs : PySem.W.findIn X.K (.ref C) "__eq__" = some (some (.ref f))) (hf : PySem.W.isFn X.K (.ref f) = true) (hb : Binds X.K fd ps [])
    (hn : PySem.W.findIn X.K (.ref C) "__ne__" = some (some (.builtin "object.__ne__"))) (hm : PySem.W.mroIn X.K C (.type "object") = some true) : OpR X (compareOp .NotEq) (rNeSD C sp) := by
  intro pins s σ H x y v u Q I rx ry hq
  obtain ⟨a, b, dx, dy, fs, gs, rfl, rfl, ha, hb', hsp⟩ := hq
  cases rx
  cases ry
  obtain ⟨mA, J, _⟩ := ins_get I.hok ha
  obtain ⟨mB, J', _⟩ := ins_get I.hok hb'
  obtain ⟨od, J, _⟩ := J.look
  obtain ⟨od', J', _⟩ := J'.look
  have hu : X.A.units + 1 < cLine := by
    have := hr.units
    omega
  refine richNe_own I.kIn J J'.type hs hf hn hm hu ?_
  have e0 : Env0 X.prog X.w X.K X.mg X.base X.A.in1 X.stack s H := by
    have e := I.env0
    exact ⟨e.frames, e.mod, e.bs, e.bsz, e.funs, e.frf, e.hok, e.bare⟩
  have hl := F.len _ _ _ _ hsp
  have r2 : Vals [V.ref a, V.ref b] [Value.ref a, Value.ref b] := .cons rfl (.cons rfl .nil)
  refine wpAny_call (codeAny_mono (F.run X.A.in1 X.stack s H ⟨[.ref a, .ref b], []⟩ [.ref a, .ref b] [.ref a, .ref b] _ _ hr.in1 e0 (by
    have := hb s [.ref a, .ref b] I.kIn (by simpa using hl)
    simpa using this) r2 hsp) fun r s' hq => ?_)
  cases r with
  | error e => exact (pass_blk (X := X) (σ := σ)) pins H s e s' I hq
  | ok fl =>
    cases fl with
    | ret w =>
      obtain ⟨z, H', I', rz, ⟨r, ez, q⟩⟩ := I.after hq
      subst ez
      cases rz
      exact ⟨r, rfl, .bl (!r), H', I', rfl, q⟩
    | next => exact False.elim hq
    | brk => exact False.elim hq
    | cont => exact False.elim hq
theorem OpD.neOb {K : PySem.W.Frag} {M : Mem} {Φ : D → Mem → Prop} {C : Addr} {fs gs : List (Str × D)} {sp : SpD} (h : sp [.ob C fs, .ob C gs] [] (fun x Mc => ∃ r, x = .bl r ∧ Φ (.bl (!r)) (Mc ++ M)) (fun _ _ => False)) : OpD K (rNeSD C (lift K sp)) (.ob C fs) (.ob C gs) M Φ := fun F H Mf v u Q r1 r2 s k => by
  cases r1 with
  | ob e1 q1 =>
    cases r2 with
    | ob e2 q2 =>
      refine ⟨_, _, _, _, _, _, rfl, rfl, s.sub _ _ e1, s.sub _ _ e2, ?_⟩
      refine ⟨_, F, [], M ++ Mf, _, _, .cons (.ob e1 q1) (.cons (.ob e2 q2) .nil), s, h, fun v x F2 H2 M2 h2 rv s2 c2 => ?_, fun x M2 F2 H2 cls d h2 _ _ _ => h2.elim⟩
      obtain ⟨r, rfl, hp⟩ := h2
      cases rv
      exact ⟨r, rfl, k _ _ F2 H2 (M2 ++ M) hp (.bl (!r)) s2 (by rw [List.append_assoc]; exact c2)⟩
theorem OpD.orL {K : PySem.W.Frag} {M : Mem} {Φ : D → Mem → Prop} {r r' : R2} {x y : D} (h : OpD K r x y M Φ) : OpD K (rOr r r') x y M Φ := fun F H Mf v u Q r1 r2 s k => .inl (h F H Mf v u Q r1 r2 s k)
theorem OpD.orR {K : PySem.W.Frag} {M : Mem} {Φ : D → Mem → Prop} {r r' : R2} {x y : D} (h : OpD K r' x y M Φ) : OpD K (rOr r r') x y M Φ := fun F H Mf v u Q r1 r2 s k => .inr (h F H Mf v u Q r1 r2 s k)
end L3

namespace L3
open PySem PySem.Spec PyProof.Rows L2
/-- {} -/
theorem W.dnew {K : PySem.W.Frag} {E : WX} {Ψ : PX} {ρ : Env3} {M : Mem} {Φ : D → Mem → Prop} (h : AllA fun p => Φ (.ref p) ((p, .dct []) :: M)) : W K E tDNewK ρ M Φ Ψ := fun σ F H Mf Q a s k q p hp =>
  q _ _ F _ _ (h p) (.ref p) (Same.refl _) (s.newO hp (show RO K F (.dK []) (.dct []) from .nil))
end L3

/-! in; isinstance of own classes; maps with tuple keys; own rows made; calls by picked cells. -/
namespace L3
open PySem PySem.Spec PyProof.Rows L2
/-! ### x in xs of flat items -/
def q_in (K : PySem.W.Frag) {X : Cx} {n : Nat} (_ : n + 64 < cLine) (e : X.K = K := by rfl) : OpR X (compareOp .In) (rIn K false) := by subst e; exact op_in_seq
def q_notin (K : PySem.W.Frag) {X : Cx} {n : Nat} (_ : n + 64 < cLine) (e : X.K = K := by rfl) : OpR X (compareOp .NotIn) (rIn K true) := by subst e; exact op_notIn_seq
def D.flat : D → Bool
  | .non => true | .bl _ => true | .int _ => true | .str _ => true | _ => false
def eqF : D → D → Bool
  | .non, .non => true
  | .bl a, .bl b => a == b
  | .bl a, .int b => (if a then 1 else 0) == b
  | .int a, .bl b => a == (if b then 1 else 0)
  | .int a, .int b => a == b
  | .str a, .str b => a == b
  | _, _ => false
def inF (x : D) (xs : List D) : Bool := xs.any fun y => eqF y x
section
variable {K : PySem.W.Frag} {F : Hp}
theorem RD.flat {v : V} {x : D} (r : RD K F v x) (h : x.flat = true) : flatV v = true := by
  cases r <;> first | rfl | exact Bool.noConfusion h
theorem RDs.flat : ∀ {vs : List V} {xs : List D}, RDs K F vs xs → xs.all D.flat = true → vs.all flatV = true
  | _, _, .nil, _ => rfl
  | _, _, .cons r t, h => by
    rw [List.all_cons, Bool.and_eq_true] at h ⊢
    exact ⟨r.flat h.1, RDs.flat t h.2⟩
theorem RD.eqF {v u : V} {x y : D} (r : RD K F v x) (q : RD K F u y) (h : x.flat = true) (g : y.flat = true) : eqV v u = L3.eqF x y := by
  cases r <;> cases q <;> first | rfl | exact Bool.noConfusion h | exact Bool.noConfusion g
theorem RDs.inF {v : V} {x : D} (r : RD K F v x) (h : x.flat = true) : ∀ {vs : List V} {xs : List D}, RDs K F vs xs → xs.all D.flat = true → inV v vs = L3.inF x xs
  | _, _, .nil, _ => rfl
  | _, _, .cons q t, g => by
    rw [List.all_cons, Bool.and_eq_true] at g
    have ih := RDs.inF r h t g.2
    unfold inV L3.inF at ih ⊢
    rw [List.any_cons, List.any_cons, ih, RD.eqF q r g.1 h]
end
section
variable {K : PySem.W.Frag} {E : WX} {Ψ : PX} {ρ : Env3} {M : Mem} {N B C : Env3 → Mem → Prop} {R : D → Mem → Prop} {Φ : D → Mem → Prop}
theorem OpD.inF {x y : D} {xs : List D} {neg : Bool} (q : Seq M y xs) (h : x.flat = true) (g : xs.all D.flat = true) (k : Φ (.bl (if neg then !L3.inF x xs else L3.inF x xs)) M) : OpD K (rIn K neg) x y M Φ := fun F H Mf v u Q r r2 s kk => by
  obtain ⟨a, vs, rfl, hv, rs⟩ := q.vv r2 s
  refine ⟨a, vs, rfl, hv, r.flat h, rs.flat g, ?_⟩
  rw [RDs.inF r h rs g]
  exact kk _ _ F H M k (.bl _) (Same.refl _) s
theorem OpD.inP {x y : D} {xs : List D} (q : Seq M y xs) (h : x.flat = true) (g : xs.all D.flat = true) (k : Φ (.bl (L3.inF x xs)) M) : OpD K (rIn K false) x y M Φ := OpD.inF q h g k
theorem OpD.inN {x y : D} {xs : List D} (q : Seq M y xs) (h : x.flat = true) (g : xs.all D.flat = true) (k : Φ (.bl (!L3.inF x xs)) M) : OpD K (rIn K true) x y M Φ := OpD.inF q h g k
/-! ### isinstance of instances -/
/-- what the machine asks of a class whose instances are asked -/
structure IsiC (K : PySem.W.Frag) (C : Addr) : Prop where
  ha : PySem.W.findIn K (.ref C) "__class__" = some (some (.builtin "object.__class__"))
  hn : PySem.W.specialIn K (.builtin "object.__class__") "__get__" = some (some (.builtin "getset_descriptor.__get__"))
  ht : PySem.W.takesIn K (.builtin "object.__class__") = some true
  hm : PySem.W.mroIn K C (.type "object") = some true
theorem CbD.isO {x : D} {C D0 : Addr} {gs : List (Str × D)} {b : Bool} (cl : Cls K C) (ic : IsiC K C) (hi : InsM M x C gs) (e : PySem.W.kitOne K (.ref C) (.ref D0) = some b) (h : Φ (.bl b) M) : CbD K (cIsi K) [x, .ref D0] M Φ := fun F H Mf vs Q r s k => by
  cases r with
  | cons r1 r =>
    cases r with
    | cons r2 r =>
      cases r
      obtain ⟨a, dx, fs, rfl, e2, _⟩ := hi.vv r1 s
      cases r2
      exact .inl ⟨_, _, _, _, b, rfl, .own D0, .base (.ins e2 cl ic.ha ic.hn ic.ht ic.hm), e, k _ _ F H M h (.bl _) (Same.refl _) s⟩
/-- isinstance of what is no instance, asked for an own class -/
theorem CbD.isN {x : D} {n : String} {D0 : Addr} {b : Bool} (t : TnM M x n) (e : PySem.W.kitOne K (.type n) (.ref D0) = some b) (h : Φ (.bl b) M) : CbD K (cIsi K) [x, .ref D0] M Φ := fun F H Mf vs Q r s k => by
  cases r with
  | cons r1 r =>
    cases r with
    | cons r2 r =>
      cases r
      have ty := tyx_of t r1 s
      cases r2
      exact .inl ⟨_, _, _, _, b, rfl, .own D0, ty, e, k _ _ F H M h (.bl _) (Same.refl _) s⟩
/-- isinstance of an instance, asked for a built-in type -/
theorem CbD.isOT {x : D} {C : Addr} {m : String} {gs : List (Str × D)} {b : Bool} (cl : Cls K C) (ic : IsiC K C) (hi : InsM M x C gs) (e : PySem.W.kitOne K (.ref C) (.type m) = some b) (h : Φ (.bl b) M) : CbD K (cIsi K) [x, .ty m] M Φ := fun F H Mf vs Q r s k => by
  cases r with
  | cons r1 r =>
    cases r with
    | cons r2 r =>
      cases r
      obtain ⟨a, dx, fs, rfl, e2, _⟩ := hi.vv r1 s
      cases r2
      exact .inl ⟨_, _, _, _, b, rfl, .ty m, .base (.ins e2 cl ic.ha ic.hn ic.ht ic.hm), e, k _ _ F H M h (.bl _) (Same.refl _) s⟩
/-! ### maps whose keys are tuples -/
def updT (f : List Key → Option D) (k : List Key) (x : D) : List Key → Option D := fun j => if j = k then some x else f j
theorem own_mpT {p : Addr} {f : List Key → Option D} {n : Nat} {F H : Hp} {Mf : Mem} (s : StC K F H (M ++ Mf)) (h : (p, O.mpT f n) ∈ M) : ∃ kvs, H p = some (.dT kvs) ∧ RO K F (.dT kvs) (.mpT f n) := by
  obtain ⟨_, ho, e, r⟩ := s.own p _ (List.mem_append_left _ h)
  cases ho with
  | dT vs => exact ⟨vs, e, r⟩
  | _ => exact absurd r (by intro z; exact z)
theorem W.dnewT (h : AllA fun p => Φ (.ref p) ((p, .mpT (fun _ => none) 0) :: M)) : W K E tDNewT ρ M Φ Ψ := fun σ F H Mf Q a s k q p hp =>
  q _ _ F _ _ (h p) (.ref p) (Same.refl _) (s.newO hp (show RO K F (.dT []) (.mpT (fun _ => none) 0) from ⟨Nat.le_refl _, fun _ => rfl⟩))
theorem keys_v {F : Hp} : ∀ {vs : List V} {ks : List Key}, RDs K F vs (ks.map keyD) → vs = ks.map kV
  | _, [], r => by cases r; rfl
  | _, k :: ks, r => by
    cases r with
    | cons r t => rw [List.map_cons, ← keys_v t, keyD_v r]
theorem W.dgetT {td : TE} {ty : TA} (h : W K E td ρ M (fun x M1 => WA K E ty ρ M1 (fun ys M2 => ys.length ≤ sizeLine ∧ ∃ p f n ks z, x = .ref p ∧ (p, O.mpT f n) ∈ M2 ∧ ys = ks.map keyD ∧ f ks = some z ∧ Φ z M2) Ψ) Ψ) : W K E (tDGet td (tTup ty)) ρ M Φ Ψ := fun σ F H Mf Q a s k q =>
  h σ F H Mf _ a s k fun v x F1 H1 M1 h1 r1 s1 c1 => h1 σ F1 H1 Mf _ (a.mono s1) c1 (k.mono s1) fun vs ys F2 H2 M2 ⟨hl, p, f, n, ks, z, ex, hm, ey, hz, hp⟩ r2 s2 c2 => by
    subst ex
    subst ey
    cases r1
    refine ⟨by rw [r2.len]; exact hl, fun b hb => ?_⟩
    obtain ⟨kvs, e, ro⟩ := own_mpT c2 hm
    have h2 := ro.2 ks
    rw [hz] at h2
    obtain ⟨w, hw, rw'⟩ := h2
    have c3 := c2.newF (ho := .tup vs) hb
    have sF : Same F2 (upd F2 b (.tup vs)) := c2.sameF hb
    rw [keys_v r2] at *
    refine ⟨p, w, rfl, ?_, q w z _ _ M2 hp (rw'.mono sF) ((s1.trans s2).trans sF) c3⟩
    rw [← hw]
    exact DGet.t (by rw [upd_ne (ne_of_none e hb)]; exact e) upd_same
theorem S.dputT {td tv : TE} {ty : TA} (h : W K E tv ρ M (fun z M1 => W K E td ρ M1 (fun x M2 => WA K E ty ρ M2 (fun ys M3 => ys.length ≤ sizeLine ∧ ∃ p f n ks g, x = .ref p ∧ Sp p (O.mpT f n) M3 g ∧ ys = ks.map keyD ∧ n < 100000 ∧ N ρ (g (.mpT (updT f ks z) (n + 1)))) Ψ) Ψ) Ψ) : WS K E (sDPut td (tTup ty) tv) ρ M ⟨N, R, B, C⟩ Ψ := fun σ F H Mf e a s k q =>
  h σ F H Mf _ a s k fun v0 z F0 H0 M0 h0 r0 s0 c0 => h0 σ F0 H0 Mf _ (a.mono s0) c0 (k.mono s0) fun v x F1 H1 M1 h1 r1 s1 c1 => h1 σ F1 H1 Mf _ (a.mono (s0.trans s1)) c1 (k.mono (s0.trans s1)) fun vs ys F2 H2 M2 ⟨hl, p, f, n, ks, g, ex, hm, ey, hn, hp⟩ r2 s2 c2 => by
    subst ex
    subst ey
    cases r1
    refine ⟨by rw [r2.len]; exact hl, fun b hb => ?_⟩
    obtain ⟨kvs, e', ro⟩ := own_mpT c2 hm.mem
    have c3 := c2.newF (ho := .tup vs) hb
    have sF : Same F2 (upd F2 b (.tup vs)) := c2.sameF hb
    have ro := RO.mono sF ro
    rw [keys_v r2] at *
    have e3 : upd H2 b (.tup (ks.map kV)) p = some (.dT kvs) := by rw [upd_ne (ne_of_none e' hb)]; exact e'
    have s03 := ((s0.trans s1).trans s2).trans sF
    have hlen : (putK kvs ks v0).length ≤ n + 1 := by
      unfold putK
      split
      · rw [List.length_map]; exact Nat.le_succ_of_le ro.1
      · rw [List.length_append]; exact Nat.succ_le_succ ro.1
    refine ⟨p, _, rfl, DPut.t e3 upd_same (Nat.lt_of_le_of_lt ro.1 (line_lt hn)), q.nx σ ρ _ _ _ hp (a.mono s03) s03 (hm.put c3 (show RO K _ (.dT _) (.mpT _ _) from ⟨hlen, fun j => ?_⟩))⟩
    unfold updT
    have hj := ro.2 j
    rw [valV_put]
    by_cases c : j = ks
    · rw [if_pos c, if_pos c]
      exact ⟨v0, rfl, r0.mono ((s1.trans s2).trans sF)⟩
    · rw [if_neg c, if_neg c]
      exact hj
end
end L3

/-! what is handed on for good; clear, pop, reverse; own rows made; cells picked. -/
namespace L3
open PySem PySem.Spec PyProof.Rows L2
abbrev lL (rs : List (List Int)) : D := .lst (rs.map lI)
/-! ### a name's list, handed on for good -/
def tMv (t : TE) : TE := t
theorem q_mv {X : Cx} {e : Expr} {t : TE} (h : PE X e t) : PE X e (tMv t) := h
def mClear : V → List V → Hp → VK → Prop := rClear
theorem q_clear {X : Cx} : MtR X "list.clear" mClear := mt_clear
def mPop : V → List V → Hp → VK → Prop := fun x vs H Q => rPop x vs H Q ∨ rPopAt x vs H Q
section
variable {K : PySem.W.Frag} {E : WX} {Ψ : PX} {ρ : Env3} {M : Mem} {N B C : Env3 → Mem → Prop} {R : D → Mem → Prop} {Φ : D → Mem → Prop}
theorem LcK.lI {α : Type} {as : List α} {g : α → List Int} (h : Φ (lL (as.map g)) M) : LcK Φ M (as.map fun a => L3.lI (g a)) := by
  unfold LcK
  unfold lL at h
  rw [List.map_map] at h
  exact h
theorem W.mv {i : Nat} {p : Addr} {xs : List D} {M' : Mem} (h : ρ[i]? = some (some (.ref p))) (hm : Rm p (.lst xs) M M') (q : Φ (.lst xs) M') : W K E (tMv (tVar i)) ρ M Φ Ψ := W.varF h hm q
theorem W.mvN {i : Nat} {x : D} (h : ρ[i]? = some (some x)) (q : Φ x M) : W K E (tMv (tVar i)) ρ M Φ Ψ := W.var h q
theorem MtD.clear {p : Addr} {xs : List D} {f : O → Mem} (hm : Sp p (O.lst xs) M f) (h : Φ .non (f (.lst []))) : MtD K mClear (.ref p) [] M Φ := fun F H Mf v vs Q r rs s k => by
  cases r
  cases rs
  obtain ⟨ws, e, rw'⟩ := own_lst s hm.mem
  exact ⟨p, ws, rfl, rfl, e, k _ _ F _ _ h .non (Same.refl _) (hm.put s (show RO K F (.lst _) (.lst _) from .nil))⟩
/-! ### own rows made -/
/-- a new own list, nothing else -/
def OwnNew (xs : List D) (M : Mem) : D → Mem → Prop := fun y M' => ∃ p, y = .ref p ∧ M' = (p, .lst xs) :: M
theorem OpD.repOwn {a n : Int} {j : Nat} (e : n.toNat = j) (h0 : 0 ≤ n) (h1 : j ≤ 1000) : OpD K (oMul K) (.lst [.int a]) (.int n) M (OwnNew (((List.range j).map fun _ => a).map D.int) M) := fun F H Mf v u Q r q s k => by
  cases r with
  | lst e1 q1 =>
    cases q1 with
    | cons q1 t =>
      cases q1
      cases t
      cases q
      refine .inr (.inr (.inl ⟨_, n, _, rfl, rfl, s.sub _ _ e1, by omega, by omega, by show 1 * _ ≤ _; exact line_of (by omega), fun p hp => k _ _ F _ ((p, .lst _) :: M) ⟨p, rfl, rfl⟩ (.ref p) (Same.refl _) (s.newO hp (show RO K F (.lst _) (.lst _) from ?_))⟩))
      rw [rep_one, e]
      have : ∀ m : Nat, RDs K F (List.replicate m (V.int a)) (((List.range m).map fun _ => a).map D.int) := by
        intro m
        induction m with
        | zero => exact .nil
        | succ m ih =>
          rw [List.range_succ, List.map_append, List.map_append, List.replicate_succ']
          exact ih.app (.cons (.int a) .nil)
      exact this j
theorem CbD.listOwn {x : D} {xs : List D} (q : Seq M x xs) : CbD K (cList K) [x] M (OwnNew xs M) := CbD.listO q fun p => ⟨p, rfl, rfl⟩
def tLcR (wi : TI) (g : TG) (tt : TT) (te : TE) (vs : List Nat) : TE := tLc wi g tt te vs
theorem q_lcR {X : Cx} {e : Expr} {wi : TI} {g : TG} {tt : TT} {te : TE} {vs : List Nat} (h : PE X e (tLc wi g tt te vs)) : PE X e (tLcR wi g tt te vs) := h
theorem q_setR {X : Cx} {st : Stmt} {wi : TI} {g : TG} {tt : TT} {te : TE} {vs : List Nat} {i : Nat} (h : PS X st (tAsg (tLc wi g tt te vs) (gName i))) : PS X st (tAsg (tLcR wi g tt te vs) (gName i)) := h
/-- whatever cells are before -/
def AllM (P : Mem → Prop) : Prop := ∀ A, P A
theorem AllM.mk {P : Mem → Prop} (h : ∀ A, P A) : AllM P := h
structure LcR (K : PySem.W.Frag) (g : TG) (te : TE) (vs : List Nat) (ρ : Env3) {α : Type} (s : Src) (M : Mem) (Φ : D → Mem → Prop) (as : List α) (f : α → D) (row : α → List D) : Prop where
  it : AsM f s.its as
  need : ∀ A, s.need (A ++ M)
  len : as.length < 100000
  body : ∀ a ∈ as, AllM fun A => WG K E0 g (f a) (wipeD ρ vs) (A ++ M) (fun ρ2 M2 => W K E0 te ρ2 M2 (OwnNew (row a) (A ++ M)) P0) P0
  k : ∀ rs : List (Addr × List D), rs.map Prod.snd = as.map row → AllA fun g => Φ (.ref g) ((g, .grd rs) :: M)
theorem W.lcR {α : Type} {wi : TI} {g : TG} {te : TE} {vs : List Nat} {as : List α} {f : α → D} {row : α → List D} (hg : GOnly g vs) (q : WI K E wi ρ M (fun s M1 => LcR K g te vs ρ s M1 Φ as f row) Ψ) : W K E (tLcR wi g tYes te vs) ρ M Φ Ψ := by
  have step : ∀ s M1, LcR K g te vs ρ s M1 Φ as f row → ∃ J : Nat → List D → Mem → Prop, J 0 [] M1 ∧ (∀ i acc M', i ≤ s.its.length → J i acc M' → s.need M') ∧
      (∀ i x acc M', s.its[i]? = some x → J i acc M' → acc.length < sizeLine ∧ WG K E0 g x (wipeD ρ vs) M' (fun ρ2 M2 => WT K E0 tYes ρ2 M2 (fun b M3 => (b = true → W K E0 te ρ2 M3 (fun y M4 => J (i + 1) (acc ++ [y]) M4) P0) ∧ (b = false → J (i + 1) acc M3)) P0) P0) ∧
      ∀ acc M', J s.its.length acc M' → ∃ (rs : List (Addr × List D)) (M0 : Mem), acc = rs.map (fun p => .ref p.1) ∧ M' = rs.reverse.map (fun p => (p.1, O.lst p.2)) ++ M0 ∧ AllA fun g => Φ (.ref g) ((g, .grd rs) :: M0) := by
    rintro s M1 ⟨it, need, len, body, k⟩
    have hs := it.eq
    have hl : s.its.length = as.length := by rw [hs, List.length_map]
    refine ⟨fun i acc M' => ∃ rs : List (Addr × List D), acc = rs.map (fun p => .ref p.1) ∧ M' = rs.reverse.map (fun p => (p.1, O.lst p.2)) ++ M1 ∧ rs.map Prod.snd = (as.take i).map row, ⟨[], rfl, rfl, rfl⟩, ?_, ?_, ?_⟩
    · rintro i acc M' _ ⟨rs, rfl, rfl, _⟩
      exact need _
    · rintro i x acc M' hx ⟨rs, rfl, rfl, hr⟩
      have hi : i < as.length := by rw [← hl]; exact (List.getElem?_eq_some_iff.mp hx).1
      have hx2 : x = f as[i] := by
        rw [hs, List.getElem?_map, List.getElem?_eq_getElem hi] at hx
        exact (Option.some.inj hx).symm
      subst hx2
      have hrl := congrArg List.length hr
      rw [List.length_map, List.length_map, List.length_take] at hrl
      refine ⟨by rw [List.length_map]; exact line_lt (by omega), ?_⟩
      have hb := body as[i] (List.getElem_mem hi) (rs.reverse.map fun p => (p.1, O.lst p.2))
      refine fun σ F H Mf v Q r a st ek qq => hb σ F H Mf v Q r a st ek fun σ2 ρ2 F2 H2 M2 h2 a2 s2 c2 => qq σ2 ρ2 F2 H2 M2 (WT.yes ⟨fun _ => W.mono h2 ?_, fun z => Bool.noConfusion z⟩) a2 s2 c2
      rintro y M4 ⟨p, rfl, rfl⟩
      refine ⟨rs ++ [(p, row as[i])], by rw [List.map_append]; rfl, by rw [List.reverse_append]; rfl, ?_⟩
      rw [List.map_append, hr, List.take_add_one, List.getElem?_eq_getElem hi, List.map_append]
      rfl
    · rintro acc M' ⟨rs, rfl, rfl, hr⟩
      refine ⟨rs, M1, rfl, rfl, k rs ?_⟩
      rw [hr, hl, List.take_length]
  refine W.lcAny (tt := tYes) (Q0 := fun acc M' => ∃ (rs : List (Addr × List D)) (M0 : Mem), acc = rs.map (fun p => .ref p.1) ∧ M' = rs.reverse.map (fun p => (p.1, O.lst p.2)) ++ M0 ∧ AllA fun g => Φ (.ref g) ((g, .grd rs) :: M0)) hg ?_ ?_
  · exact fun σ F H Mf R a s k q' => q σ F H Mf R a s k fun s' F' H' M' J h => q' s' F' H' M' J (step s' M' h)
  · rintro σ F H Mf Q kk Dd acc M' F' H' ⟨rs, M0, rfl, rfl, hp⟩ sm c
    refine kk _ _ F' H' ((Dd, .grd rs) :: M0) (hp Dd) (.ref Dd) sm ?_
    rw [List.cons_append]
    refine StC.grd.mpr (c.perm ?_)
    have h1 : (rs.reverse.map fun p => (p.1, O.lst p.2)).Perm (rs.map fun p => (p.1, O.lst p.2)) := (List.reverse_perm rs).map _
    rw [List.append_assoc]
    refine (h1.append_right _).trans ?_
    rw [← List.append_assoc, ← List.append_assoc]
    exact List.perm_middle
/-- its rows are whole numbers -/
theorem gr_of {rs : List (Addr × List D)} {w h : Nat} {f : Nat → Nat → Int} (e : rs.map Prod.snd = (List.range h).map fun y => ((List.range w).map (f y)).map D.int) : ∃ r, rs = gr r w h f := by
  refine ⟨fun y => ((rs[y]?).map Prod.fst).getD 0, ?_⟩
  have hl := congrArg List.length e
  rw [List.length_map, List.length_map, List.length_range] at hl
  apply List.ext_getElem?
  intro i
  by_cases hi : i < h
  · have h1 : rs[i]? = some rs[i] := List.getElem?_eq_getElem (by omega)
    have h2 := congrArg (fun l => l[i]?) e
    simp only [List.getElem?_map, h1, List.getElem?_range hi, Option.map_some] at h2
    rw [List.getElem?_map, List.getElem?_range hi, h1]
    show some rs[i] = some (((rs[i]?).map Prod.fst).getD 0, _)
    rw [h1]
    exact congrArg some (Prod.ext rfl (Option.some.inj h2))
  · rw [List.getElem?_eq_none (by omega), List.getElem?_eq_none (by simp; omega)]
def AllR (P : (Nat → Addr) → Prop) : Prop := ∀ r, P r
theorem AllR.mk {P : (Nat → Addr) → Prop} (h : ∀ r, P r) : AllR P := h
/-- [[..] * w for y in ..], an own list of own rows of numbers -/
structure LcRI (K : PySem.W.Frag) (g : TG) (te : TE) (vs : List Nat) (ρ : Env3) (s : Src) (M : Mem) (Φ : D → Mem → Prop) (w h : Nat) (fy : Nat → D) (f : Nat → Nat → Int) : Prop where
  it : AsM fy s.its (List.range h)
  need : ∀ A, s.need (A ++ M)
  len : h < 100000
  body : ∀ y ∈ List.range h, AllM fun A => WG K E0 g (fy y) (wipeD ρ vs) (A ++ M) (fun ρ2 M2 => W K E0 te ρ2 M2 (OwnNew (((List.range w).map (f y)).map D.int) (A ++ M)) P0) P0
  k : AllR fun r => AllA fun g => Φ (.ref g) ((g, .grd (gr r w h f)) :: M)
theorem W.lcRI {wi : TI} {g : TG} {te : TE} {vs : List Nat} {w h : Nat} {fy : Nat → D} {f : Nat → Nat → Int} (hg : GOnly g vs) (q : WI K E wi ρ M (fun s M1 => LcRI K g te vs ρ s M1 Φ w h fy f) Ψ) : W K E (tLcR wi g tYes te vs) ρ M Φ Ψ :=
  W.lcR (as := List.range h) (f := fy) (row := fun y => ((List.range w).map (f y)).map D.int) hg fun σ F H Mf R a s k q' => q σ F H Mf R a s k fun s' F' H' M' J hh => q' s' F' H' M' J ⟨hh.it, hh.need, by rw [List.length_range]; exact hh.len, hh.body, fun rs e => by
    obtain ⟨r, rfl⟩ := gr_of e
    exact hh.k r⟩
theorem dputT_i {p : Addr} {f : List Key → Option D} {n : Nat} {i k : Int} {z : D} {g : O → Mem} {P : Mem → Prop} (hm : Sp p (O.mpT f n) M g) (hn : n < 100000) (h : P (g (.mpT (updT f [.inl i, .inl k] z) (n + 1)))) :
    ∃ p' f' n' ks g', D.ref p = .ref p' ∧ Sp p' (O.mpT f' n') M g' ∧ [D.int i, D.int k] = ks.map keyD ∧ n' < 100000 ∧ P (g' (.mpT (updT f' ks z) (n' + 1))) := ⟨p, f, n, [.inl i, .inl k], g, rfl, hm, rfl, hn, h⟩
theorem dgetT_i {p : Addr} {f : List Key → Option D} {n : Nat} {i k : Int} {z : D} {P : D → Prop} (hm : (p, O.mpT f n) ∈ M) (hz : f [.inl i, .inl k] = some z) (h : P z) :
    ∃ p' f' n' ks z', D.ref p = .ref p' ∧ (p', O.mpT f' n') ∈ M ∧ [D.int i, D.int k] = ks.map keyD ∧ f' ks = some z' ∧ P z' := ⟨p, f, n, [.inl i, .inl k], z, rfl, hm, rfl, hz, h⟩
/-! ### stores to fields, to dicts, each with what follows -/
def FldD (c : Addr) (f : Str) (y x : D) (M : Mem) (P : Mem → Prop) : Prop := ∃ p dx gs g, x = .ref p ∧ Sp p (.ins c dx gs) M g ∧ gs.length < 1000 ∧ P (g (.ins c dx (putD f y gs)))
theorem FldD.mk {c p dx : Addr} {gs gs' : List (Str × D)} {g : O → Mem} {f : Str} {y : D} {P : Mem → Prop} (hm : Sp p (.ins c dx gs) M g) (hl : gs.length < 1000) (e : putD f y gs = gs') (h : P (g (.ins c dx gs'))) : FldD c f y (.ref p) M P := ⟨p, dx, gs, g, rfl, hm, hl, e ▸ h⟩
theorem S.fldD {c : Addr} {ta tv : TE} {f : Str} (h : W K E tv ρ M (fun y M1 => W K E ta ρ M1 (fun x M2 => FldD c f y x M2 (N ρ)) Ψ) Ψ) : WS K E (sFldK c ta tv f) ρ M ⟨N, R, B, C⟩ Ψ := S.fldK h
def FgtD (c : Addr) (f : Str) (x : D) (M : Mem) (P : D → Prop) : Prop := ∃ p dx gs y, x = .ref p ∧ (p, O.ins c dx gs) ∈ M ∧ gs.lookup f = some y ∧ P y
theorem FgtD.mk {c p dx : Addr} {gs : List (Str × D)} {f : Str} {y : D} {P : D → Prop} (hm : (p, O.ins c dx gs) ∈ M) (hl : gs.lookup f = some y) (h : P y) : FgtD c f (.ref p) M P := ⟨p, dx, gs, y, rfl, hm, hl, h⟩
theorem S.fldAugD {c : Addr} {ta tv : TE} {f : Str} {rd : R2} (h : W K E ta ρ M (fun x M1 => FgtD c f x M1 (fun y => W K E tv ρ M1 (fun u M2 => OpD K rd y u M2 (fun r M3 => FldD c f r x M3 (N ρ))) Ψ)) Ψ) : WS K E (sFldAugK c ta tv rd f) ρ M ⟨N, R, B, C⟩ Ψ :=
  S.fldAugK (W.mono h fun x M1 ⟨p, dx, gs, y, ex, hm, hl, h1⟩ => ⟨p, dx, gs, y, ex, hm, hl, W.mono h1 fun u M2 h2 F H Mf v w Q r1 r2 s kk => h2 F H Mf v w Q r1 r2 s fun v' x' F' H' M' ⟨p', dx', gs', g, ep, q1, q2, q3⟩ rr ss cc => by
    subst ex
    injection ep with ep
    subst ep
    exact kk v' x' F' H' M' ⟨dx', gs', g, q1, q2, q3⟩ rr ss cc⟩)
def DptD (x y z : D) (M : Mem) (P : Mem → Prop) : Prop := ∃ p ks k f, x = .ref p ∧ Sp p (O.dct ks) M f ∧ y = keyD k ∧ ks.length < sizeLine ∧ P (f (.dct (putD3 ks k z)))
theorem DptD.mk {p : Addr} {ks ks' : List (Key × D)} {k : Key} {y z : D} {f : O → Mem} {P : Mem → Prop} (hm : Sp p (O.dct ks) M f) (hk : y = keyD k) (hl : ks.length < 100000) (e : putD3 ks k z = ks') (h : P (f (.dct ks'))) : DptD (.ref p) y z M P := ⟨p, ks, k, f, rfl, hm, hk, line_lt hl, e ▸ h⟩
theorem S.dputD {td ty tv : TE} (h : W K E tv ρ M (fun z M1 => W K E td ρ M1 (fun x M2 => W K E ty ρ M2 (fun y M3 => DptD x y z M3 (N ρ)) Ψ) Ψ) Ψ) : WS K E (sDPut td ty tv) ρ M ⟨N, R, B, C⟩ Ψ := S.dput h
def DgtD (x y : D) (M : Mem) (P : D → Prop) : Prop := ∃ p ks k z, x = .ref p ∧ (p, O.dct ks) ∈ M ∧ y = keyD k ∧ getD3 ks k = some z ∧ P z
theorem DgtD.mk {p : Addr} {ks : List (Key × D)} {k : Key} {y z : D} {P : D → Prop} (hm : (p, O.dct ks) ∈ M) (hk : y = keyD k) (e : getD3 ks k = some z) (h : P z) : DgtD (.ref p) y M P := ⟨p, ks, k, z, rfl, hm, hk, e, h⟩
theorem W.dgetD {td ty : TE} (h : W K E td ρ M (fun x M1 => W K E ty ρ M1 (fun y M2 => DgtD x y M2 (fun z => Φ z M2)) Ψ) Ψ) : W K E (tDGet td ty) ρ M Φ Ψ := W.dget h
theorem S.daugD {td ty tv : TE} {rd : R2} (h : W K E td ρ M (fun x M1 => W K E ty ρ M1 (fun y M2 => DgtD x y M2 (fun z => W K E tv ρ M2 (fun u M3 => OpD K rd z u M3 (fun r M4 => DptD x y r M4 (N ρ))) Ψ)) Ψ) Ψ) : WS K E (sDAug td ty tv rd) ρ M ⟨N, R, B, C⟩ Ψ :=
  S.daug (W.mono h fun x M1 h0 => W.mono h0 fun y M2 ⟨p, ks, k, z, ex, hm, ey, hz, h1⟩ => ⟨p, ks, k, z, ex, hm, ey, hz, W.mono h1 fun u M3 h2 F H Mf v w Q r1 r2 s kk => h2 F H Mf v w Q r1 r2 s fun v' x' F' H' M' ⟨p', ks', k', f, ep, q1, q2, q3, q4⟩ rr ss cc => by
    subst ex
    injection ep with ep
    subst ep
    subst ey
    have : k = k' := by cases k <;> cases k' <;> cases q2 <;> rfl
    subst this
    exact kk v' x' F' H' M' ⟨ks', f, q1, q3, q4⟩ rr ss cc⟩)
/-! ### which class is whose -/
theorem kitCls_of {K : PySem.W.Frag} {t : Value} {C : Addr} {b : Bool} (i : PySem.W.isClsIn K C = true) (y : PySem.W.typeIn K (.ref C) = some (.type "type")) (s : PySem.W.subIn K t (.ref C) = some b) : PySem.W.kitCls K t (.ref C) = some b := by
  show (if ((PySem.W.clsIn K C).isSome && PySem.W.typeIn K (.ref C) == some (.type "type")) = true then PySem.W.subIn K t (.ref C) else none) = some b
  rw [if_pos, s]
  rw [y, Bool.and_eq_true]
  exact ⟨i, by decide⟩
theorem kitOne_of {K : PySem.W.Frag} {t : Value} {C : Addr} {b : Bool} (i : PySem.W.isClsIn K C = true) (y : PySem.W.typeIn K (.ref C) = some (.type "type")) (s : PySem.W.subIn K t (.ref C) = some b) (n : (t == Value.ref C) = true → b = true) : PySem.W.kitOne K t (.ref C) = some b := by
  unfold PySem.W.kitOne
  by_cases e : (t == Value.ref C) = true
  · rw [if_pos e, n e]
  · rw [if_neg e]
    exact kitCls_of i y s
theorem exmOne_of {K : PySem.W.Frag} {t : Value} {C : Addr} {b : Bool} (i : PySem.W.isClsIn K C = true) (y : PySem.W.typeIn K (.ref C) = some (.type "type")) (s : PySem.W.subIn K t (.ref C) = some b) (x : PySem.W.subIn K (.ref C) (.type "BaseException") = some true) : PySem.W.exmOne K t (.ref C) = some b := by
  unfold PySem.W.exmOne
  rw [x, if_pos (by decide)]
  exact kitCls_of i y s
/-- an own class that is only asked about -/
structure Nc (K : PySem.W.Frag) (mg : Str → Option Value) (x : Str) where
  C : Addr
  g : mg x = some (.ref C)
/-! ### cells picked -/
def Pk (M M' : Mem) : Prop := M.Perm M'
theorem Pk.refl (M : Mem) : Pk M M := List.Perm.refl M
theorem Pk.cons {M M1 M2 : Mem} {p : Addr} {o : O} (h : Rm p o M M1) (g : Pk M1 M2) : Pk M ((p, o) :: M2) := h.perm.trans (List.Perm.cons _ g)
theorem WS.pk {t : TS} {M' : Mem} {d : DD} (hp : Pk M M') (h : WS K E t ρ M' d Ψ) : WS K E t ρ M d Ψ := WS.perm hp h
end
end L3

/-! small rules: rows times a truth, rows against the empty one, sums of any list. -/
namespace L3
open PySem PySem.Spec PyProof.Rows L2
section
variable {K : PySem.W.Frag} {E : WX} {Ψ : PX} {ρ : Env3} {M : Mem} {N B C : Env3 → Mem → Prop} {R : D → Mem → Prop} {Φ : D → Mem → Prop}
theorem TnM.more {x : D} {n : String} {c : Addr × O} (h : TnM M x n) : TnM (c :: M) x n := by
  rcases h with h | ⟨e, p, xs, ex, hm⟩
  · exact .inl h
  · exact .inr ⟨e, p, xs, ex, by rw [exM_cons]; exact List.mem_append_right _ hm⟩
theorem SeqN.more {x : D} {xs : List D} {c : Addr × O} (h : SeqN M x xs) : SeqN (c :: M) x xs := ⟨h.1.more, let ⟨n, a, b⟩ := h.2; ⟨n, a.more, b⟩⟩
theorem rep_ones {α : Type} (xs : List α) : (List.replicate 1 xs).flatten = xs := by simp
theorem OpD.repB {α : Type} {f : α → D} {xs : List α} {b : Bool} (hl : xs.length ≤ 100000) (h : Φ (.lst ((if b = true then xs else []).map f)) M) : OpD K (oMul K) (.lst (xs.map f)) (.int (if b = true then 1 else 0)) M Φ := by
  cases b with
  | true =>
    refine OpD.rep (by decide) (by decide) (by show _ * 1 ≤ _; rw [List.length_map]; exact line_of (by omega)) ?_
    show Φ (.lst (List.replicate 1 (xs.map f)).flatten) M
    rw [rep_ones]
    exact h
  | false =>
    refine OpD.rep (by decide) (by decide) (by show _ * 0 ≤ _; exact Nat.zero_le _) ?_
    exact h
theorem Seq.isl {x : D} {xs : List D} (q : Seq M x xs) (hl : isL x = true) {F H : Hp} {Mf : Mem} {v : V} (r : RD K F v x) (s : StC K F H (M ++ Mf)) : ∃ a vs, v = .ref a ∧ SqL K H a vs ∧ RDs K F vs xs := q.vL hl r s
theorem CbD.sumS {x : D} {ns : List Int} (q : Seq M x (ns.map D.int)) (hl : isL x = true) (h : Φ (.int ns.sum) M) : CbD K (cSum K) [x] M Φ := fun F H Mf vs Q r s k => by
  cases r with
  | cons r rr =>
    cases rr
    obtain ⟨a, vs, rfl, hq, rs⟩ := q.vL hl r s
    rw [RDs.ofInts rs] at hq
    exact ⟨a, ns, rfl, hq, k _ _ F H M h (.int _) (Same.refl _) s⟩
theorem eqv_nilL {xs : List D} : PyData.eqv (.list (D.pyL xs)) (.list []) = decide (xs = []) := by
  cases xs with
  | nil => simp [D.pyL, PyData.eqv, PyData.eqvAll]
  | cons x xs => simp [D.pyL, PyData.eqv, PyData.eqvAll]
/-- xs == [] -/
theorem OpD.eqNil {x : D} {xs : List D} (c : Cmp M x (.lst xs)) (p : Pln 60 (.lst xs)) (h : Φ (.bl (decide (xs = []))) M) : OpD K (oEq K) x (.lst []) M Φ := by
  refine OpD.eq' c .self p.cm (by decide +kernel) ?_
  have e : eqD (.lst xs) (.lst []) = decide (xs = []) := eqv_nilL
  rw [e]
  exact h
theorem OpD.neNil {x : D} {xs : List D} (c : Cmp M x (.lst xs)) (p : Pln 60 (.lst xs)) (h : Φ (.bl (!decide (xs = []))) M) : OpD K (oNe K) x (.lst []) M Φ := by
  refine OpD.ne' c .self p.cm (by decide +kernel) ?_
  have e : eqD (.lst xs) (.lst []) = decide (xs = []) := eqv_nilL
  rw [e]
  exact h
theorem OpD.neNilE {x : D} (c : Cmp M x (.lst [])) (h : Φ (.bl false) M) : OpD K (oNe K) x (.lst []) M Φ := .neNil c (.lstC .nil) h
theorem OpD.eqNilE {x : D} (c : Cmp M x (.lst [])) (h : Φ (.bl true) M) : OpD K (oEq K) x (.lst []) M Φ := .eqNil c (.lstC .nil) h
/-- [e for x in xs] as a list of ours: each item told by a function -/
def LcKO (Φ : D → Mem → Prop) (M : Mem) (xs : List D) : Prop := AllA fun p => Φ (.ref p) ((p, .lst xs) :: M)
theorem LcKO.int {α : Type} {as : List α} {g : α → Int} (h : AllA fun p => Φ (.ref p) ((p, .lst ((as.map g).map D.int)) :: M)) : LcKO Φ M (as.map fun a => D.int (g a)) := by
  unfold LcKO
  rw [List.map_map] at h
  exact h
theorem LcKO.tI {α : Type} {as : List α} {g : α → List Int} (h : AllA fun p => Φ (.ref p) ((p, .lst ((as.map g).map L3.tI)) :: M)) : LcKO Φ M (as.map fun a => L3.tI (g a)) := by
  unfold LcKO
  rw [List.map_map] at h
  exact h
theorem LcKO.any {xs : List D} (h : AllA fun p => Φ (.ref p) ((p, .lst xs) :: M)) : LcKO Φ M xs := h
structure LcGO (K : PySem.W.Frag) (g : TG) (te : TE) (vs : List Nat) (ρ : Env3) {α : Type} (s : Src) (M : Mem) (Φ : D → Mem → Prop) (as : List α) (f h : α → D) : Prop where
  it : AsM f s.its as
  need : s.need M
  len : as.length < 100000
  body : ∀ a ∈ as, WG K E0 g (f a) (wipeD ρ vs) M (fun ρ2 M2 => W K E0 te ρ2 M2 (fun y M3 => y = h a ∧ M3 = M) P0) P0
  k : LcKO Φ M (as.map h)
theorem W.lcGO {α : Type} {wi : TI} {g : TG} {te : TE} {vs : List Nat} {as : List α} {f h : α → D} (hg : GOnly g vs) (q : WI K E wi ρ M (fun s M1 => LcGO K g te vs ρ s M1 Φ as f h) Ψ) : W K E (tLcO wi g tYes te vs) ρ M Φ Ψ := by
  refine W.lcO hg fun σ F H Mf R a s k q' => q σ F H Mf R a s k fun s' F' H' M' J hh => q' s' F' H' M' J ?_
  obtain ⟨it, need, len, body, kk⟩ := hh
  have hs := it.eq
  have hl : s'.its.length = as.length := by rw [hs, List.length_map]
  refine ⟨fun i acc M2 => acc = (as.take i).map h ∧ M2 = M', ⟨rfl, rfl⟩, ?_, ?_, ?_⟩
  · rintro i acc M2 _ ⟨_, rfl⟩
    exact need
  · rintro i x acc M2 hx ⟨rfl, rfl⟩
    have hi : i < as.length := by rw [← hl]; exact (List.getElem?_eq_some_iff.mp hx).1
    have hx2 : x = f as[i] := by
      rw [hs, List.getElem?_map, List.getElem?_eq_getElem hi] at hx
      exact (Option.some.inj hx).symm
    subst hx2
    refine ⟨by rw [List.length_map, List.length_take]; exact line_lt (by omega), ?_⟩
    refine fun σ F H Mf v Q r a st ek qq => body as[i] (List.getElem_mem hi) σ F H Mf v Q r a st ek fun σ2 ρ2 F2 H2 M2 h2 a2 s2 c2 => qq σ2 ρ2 F2 H2 M2 (WT.yes ⟨fun _ => W.mono h2 ?_, fun z => Bool.noConfusion z⟩) a2 s2 c2
    rintro y M4 ⟨rfl, rfl⟩
    refine ⟨?_, rfl⟩
    rw [List.take_add_one, List.getElem?_eq_getElem hi, List.map_append]
    rfl
  · rintro acc M2 ⟨rfl, rfl⟩
    rw [hl, List.take_length]
    exact kk
theorem MtD.extE {α : Type} {f : α → D} {p : Addr} {bs : List α} {y : D} {g : O → Mem} (hm : Sp p (O.lst []) M g) (hy : y = .lst (bs.map f) ∨ y = .tup (bs.map f)) (hl : bs.length ≤ 100000) (h : Φ .non (g (.lst (bs.map f)))) : MtD K (mExtS K) (.ref p) [y] M Φ :=
  MtD.ext hm hy (line_of (by rw [List.length_map]; show 0 + _ ≤ _; omega)) h
theorem OpD.repM {α : Type} {f : α → D} {xs : List α} {n : Int} {j : Nat} (e : n.toNat = j) (h0 : -(2 ^ 63) ≤ n) (h1 : n < 2 ^ 63) (hl : xs.length * j ≤ 100000) (h : Φ (.lst ((List.replicate j xs).flatten.map f)) M) : OpD K (oMul K) (.lst (xs.map f)) (.int n) M Φ := by
  refine OpD.rep h0 h1 (by rw [List.length_map, e]; exact line_of hl) ?_
  rw [e]
  rw [List.map_flatten, List.map_replicate] at h
  exact h
/-- [e for x in xs], each item one of which something is told -/
def LcE {β : Type} (h : β → D) (P : β → Prop) (M : Mem) : D → Mem → Prop := fun y M3 => (∃ b, y = h b ∧ P b) ∧ M3 = M
theorem LcE.mk {β : Type} {h : β → D} {P : β → Prop} {b : β} (p : P b) : LcE h P M (h b) M := ⟨⟨b, rfl, p⟩, rfl⟩
structure LcP (K : PySem.W.Frag) (g : TG) (te : TE) (vs : List Nat) (ρ : Env3) {α β : Type} (s : Src) (M : Mem) (Φ : D → Mem → Prop) (as : List α) (f : α → D) (h : β → D) (P : β → Prop) : Prop where
  it : AsM f s.its as
  need : s.need M
  len : as.length < 100000
  body : ∀ a ∈ as, WG K E0 g (f a) (wipeD ρ vs) M (fun ρ2 M2 => W K E0 te ρ2 M2 (LcE h P M) P0) P0
  k : ∀ bs : List β, bs.length = as.length → (∀ b ∈ bs, P b) → Φ (.lst (bs.map h)) M
theorem W.lcP {α β : Type} (h : β → D) (P : β → Prop) {wi : TI} {g : TG} {te : TE} {vs : List Nat} {as : List α} {f : α → D} (hg : GOnly g vs) (q : WI K E wi ρ M (fun s M1 => LcP K g te vs ρ s M1 Φ as f h P) Ψ) : W K E (tLc wi g tYes te vs) ρ M Φ Ψ := by
  refine W.lcD h P hg fun σ F H Mf R a s k q' => q σ F H Mf R a s k fun s' F' H' M' J hh => q' s' F' H' M' J ?_
  obtain ⟨it, need, len, body, kk⟩ := hh
  have hs := it.eq
  have hl : s'.its.length = as.length := by rw [hs, List.length_map]
  refine ⟨by rw [hl]; exact len, need, fun i x hx => ?_, fun bs hb hP => kk bs (by rw [hb, hl]) hP⟩
  have hi : i < as.length := by rw [← hl]; exact (List.getElem?_eq_some_iff.mp hx).1
  have hx2 : x = f as[i] := by
    rw [hs, List.getElem?_map, List.getElem?_eq_getElem hi] at hx
    exact (Option.some.inj hx).symm
  subst hx2
  exact body _ (List.getElem_mem hi)
/-- x if t else y, both whole numbers: one way on -/
theorem W.iteC {t : TT} {ta tb : TE} {c : Bool} {i j : Int} (h : WT K E t ρ M (fun b M1 => b = c ∧ M1 = M) Ψ) (h1 : (c = true → W K E ta ρ M (fun x M1 => x = .int i ∧ M1 = M) Ψ) ∧ (c = false → W K E tb ρ M (fun x M1 => x = .int j ∧ M1 = M) Ψ)) (k : Φ (.int (if c = true then i else j)) M) : W K E (tIf t ta tb) ρ M Φ Ψ := by
  refine W.ite (WT.mono h ?_)
  rintro b M1 ⟨rfl, rfl⟩
  cases b with
  | true =>
    refine ⟨fun _ => W.mono (h1.1 rfl) ?_, fun z => Bool.noConfusion z⟩
    rintro x M2 ⟨rfl, rfl⟩
    exact k
  | false =>
    refine ⟨fun z => Bool.noConfusion z, fun _ => W.mono (h1.2 rfl) ?_⟩
    rintro x M2 ⟨rfl, rfl⟩
    exact k
theorem made_m {P : Prop} (h : P) : (D.non : D) = .non ∧ P := ⟨rfl, h⟩
theorem pln_ints {n : Nat} {ns : List Int} : Pln (n + 1) (.lst (ns.map D.int)) := .lstM fun _ _ => .int _
theorem dec_nil {α : Type} {f : α → D} {as : List α} [DecidableEq α] : decide (as.map f = []) = decide (as = []) := by
  cases as <;> simp
theorem OpD.eqNilI {x : D} {ns : List Int} (c : Cmp M x (.lst (ns.map D.int))) (h : Φ (.bl (decide (ns = []))) M) : OpD K (oEq K) x (.lst []) M Φ := .eqNil c pln_ints (by rw [dec_nil]; exact h)
theorem OpD.neNilI {x : D} {ns : List Int} (c : Cmp M x (.lst (ns.map D.int))) (h : Φ (.bl (!decide (ns = []))) M) : OpD K (oNe K) x (.lst []) M Φ := .neNil c pln_ints (by rw [dec_nil]; exact h)
end
end L3

/-! a def of the base class called by its name; d.get(k, x). -/
namespace L3
open PySem PySem.Spec PyProof.Rows L2
/-- a def read off its class: Base.m(self, ..) -/
structure Dk (K : PySem.W.Frag) (C : Addr) (x q : Str) (st : Stmt) (ps : List Str) where
  f : Addr
  fd : FuncData
  F : Fun K x q st f fd
  cr : ClX.CRead K C (.type "type")
  cv : PySem.W.findCls K (.ref C) (.type "type") x = some (.val (.ref f))
  b : Binds K fd ps []
section
variable {X : Cx} {CX : CXT} {k : Nat} {f C : Addr} {mc : Value} {fd : FuncData} {ps : List Str} {sp : L2.Sp} {dvs : List V} {ds : List Value} {E : L2.St → XK} {b m : Str} {p pos apos : Pos} {e : Expr} {es : List Expr} {t : TA}
theorem pe_clsSD {pl : Sem Bool} (hm : X.mg b = some (.ref C)) (r : ClX.CRead X.K C mc) (cv : PySem.W.findCls X.K (.ref C) mc m = some (.val (.ref f))) (hk : PySem.W.keepIn X.K (.ref f) = true)
    (F : FnOk X.prog X.w X.K X.mg X.base CX k f fd ps sp) (hr : Room k X.A) (hb : Binds X.K fd ps ds) (hd : Vals dvs ds) (hx : ∀ σ, PassesAt CX X σ (E σ)) (ha : PA X (e :: es) t) (hg : Gl X b := by rfl) (hdb : (b == ("__debug__" : Str)) = false := by decide)
    (hst : starEach (e :: es) X.env = (false, eval e X.env) :: starEach es X.env := by rfl) (hpl : (backTo pos (starEach es X.env)).any (·.1) = false := by rfl)
    (ht : eval (.Call (.Attribute (.Name b p) m apos) (e :: es) [] pos) X.env = (do
      let ov ← eval (.Name b p) X.env
      standAt apos.atName
      let (f, first) ← holding [ov] (getMethod ov m pl)
      callWith pos f first (backTo pos (starEach (e :: es) X.env)) (backToKw pos (keywordEach [] X.env))) := by rfl) :
    PE X (.Call (.Attribute (.Name b p) m apos) (e :: es) [] pos) (tCallSD sp dvs E t) := by
  refine ⟨fun pins s σ H Q I h => ?_⟩
  refine PySem.W.methodCall_KW (pl := pl) (thn ((pe_glob (X := X) (pos := p) (v := .ref C) hg hm rfl hdb).run pins s σ H (fun x H1 => x = .ref C ∧ t σ H1 fun vs H2 => sp (vs ++ dvs) H2 Q (E σ)) I ⟨rfl, h⟩) fun u s1 ⟨x, H1, I1, rx, ex, q⟩ => ?_) ht
  subst ex
  obtain rfl : u = Value.ref C := rx
  refine PySem.W.method_cls I1.kIn r.ga (ClX.getcval_ok (v := .ref f) I1 r ⟨cv, rfl⟩ fun s2 I2 => ?_)
  refine PySem.W.callWith_K (h₀ := X.base) I.ok.mod.kin hk (thn (ha.run pos pins s2 σ H1 _ I2 q) fun us s3 ⟨vs, H2, I3, r3, q2⟩ => ⟨I3.kIn, ?_⟩) hst hpl
  exact run_fnSD F hr hb hd (hx σ) I3 r3 q2
end
section
variable {K : PySem.W.Frag} {E : WX} {Ψ : PX} {ρ : Env3} {M : Mem} {N B C : Env3 → Mem → Prop} {R : D → Mem → Prop} {Φ : D → Mem → Prop}
def IsDD (x : D) (M : Mem) (P : Prop) : Prop := ∃ p ks, x = .ref p ∧ (p, O.dct ks) ∈ M ∧ P
theorem IsDD.mk {p : Addr} {ks : List (Key × D)} {P : Prop} (hm : (p, O.dct ks) ∈ M) (h : P) : IsDD (.ref p) M P := ⟨p, ks, rfl, hm, h⟩
/-- d.get(y, z) -/
def DgeD (x y z : D) (M : Mem) (P : D → Prop) : Prop := ∃ p ks k, x = .ref p ∧ (p, O.dct ks) ∈ M ∧ y = keyD k ∧ P ((getD3 ks k).getD z)
theorem DgeD.mk {p : Addr} {ks : List (Key × D)} {k : Key} {y z w : D} {P : D → Prop} (hm : (p, O.dct ks) ∈ M) (hk : y = keyD k) (e : (getD3 ks k).getD z = w) (h : P w) : DgeD (.ref p) y z M P := ⟨p, ks, k, rfl, hm, hk, e ▸ h⟩
theorem W.dget2 {td ty tx : TE} (h : W K E td ρ M (fun x M1 => IsDD x M1 (W K E ty ρ M1 (fun y M2 => W K E tx ρ M2 (fun z M3 => DgeD x y z M3 (fun w => Φ w M3)) Ψ) Ψ)) Ψ) : W K E (tDGet2 td ty tx) ρ M Φ Ψ := fun σ F H Mf Q a s k q =>
  h σ F H Mf _ a s k fun v x F1 H1 M1 h1 r1 s1 c1 => by
    obtain ⟨p0, ks0, ex, hm0, h1⟩ := h1
    subst ex
    cases r1
    obtain ⟨kvs0, e0, _⟩ := own_dct c1 hm0
    refine ⟨p0, rfl, .inl ⟨kvs0, .inl e0⟩, ?_⟩
    exact h1 σ F1 H1 Mf _ (a.mono s1) c1 (k.mono s1) fun u y F2 H2 M2 h2 r2 s2 c2 => h2 σ F2 H2 Mf _ (a.mono (s1.trans s2)) c2 (k.mono (s1.trans s2)) fun u3 z F3 H3 M3 ⟨p, ks, kk, ex, hm, ey, h3⟩ r3 s3 c3 => by
      cases ex
      subst ey
      obtain ⟨kvs, e, rk⟩ := own_dct c3 hm
      have er : H3 p0 = some (.dK kvs) := e
      have key := keyD_v r2
      cases eg : getD3 ks kk with
      | none =>
        rw [eg] at h3
        refine ⟨none, ?_, q _ _ F3 H3 M3 h3 r3 ((s1.trans s2).trans s3) c3⟩
        rw [key, ← RK.getN rk eg]
        exact DGet.k e
      | some x =>
        rw [eg] at h3
        obtain ⟨w, ew, rw'⟩ := RK.get rk eg
        refine ⟨some w, ?_, q _ _ F3 H3 M3 h3 (rw'.mono (Same.refl _)) ((s1.trans s2).trans s3) c3⟩
        rw [key, ← ew]
        exact DGet.k e
end
section
variable {X : Cx} {K : PySem.W.Frag} {M : Mem} {Φ : D → Mem → Prop}
def oIMul : R2 := rI CMul fun i j => .int (i * j)
theorem q_imul : OpR X (inplaceOp .Mult) oIMul := iop_mul
theorem OpD.imul {i j : Int} (hc : CMul i j) (h : Φ (.int (i * j)) M) : OpD K oIMul (.int i) (.int j) M Φ := fun F H Mf v u Q r1 r2 s k => by
  cases r1; cases r2
  exact ⟨i, j, rfl, rfl, hc, k _ _ F H M h (.int _) (Same.refl _) s⟩
end
end L3

/-! a lambda handed to a def that may let errors out: the call of the parameter, the call of the def. -/
namespace L3
open PySem PySem.Spec PyProof.Rows L2 LamX
section
variable {X : Cx} {pins : List (Addr × Obj)} {σ : L2.St} {H HZ : Hp} {s s1 : Shared}
theorem pe_actS {Eg : XK} {Ng : List Str} {qg : Str} {sg : Scope} {g f c' : Addr} {cdg pm ctv : Value} {params : Arguments} {body : Expr} {scope : Scope} {k i : Nat} {a : Str} {pn : List (Addr × Obj)} {xe : Value → Shared → Prop} {W : WX} {t : XK → TE} {p1 p2 : Pos}
    (I : Inv X pins σ H s) (L : LamS X.env.scope scope) (hf : s.heap.get? f = some (PySem.W.kla_obj "<lambda>" (X.env.qual ++ "<lambda>") params body scope (cloFrom X.env.cells scope.names []) pm c' ctv)) (hfn : H f = none) (hfr : f ∉ frs X.stack)
    (hbind : bindArgs (PySem.W.kla_fn "<lambda>" (X.env.qual ++ "<lambda>") params body scope (cloFrom X.env.cells scope.names []) pm (.ref c') ctv) ⟨[], []⟩ = pure [])
    (tk : Takes ((cxOf (L2.CX X.prog X.w) X.prog X.w X.K X.mg X.base Ng qg sg g cdg X.A X.stack s H Eg).tr pn xe) W) (hr : Room (k + 1) (X.A.deeper (envOfC qg sg s.heap.objs.size g cdg)))
    (hbody : ∀ (A : Around) (outer : List Env) (s : Shared) (H : Hp) (E : XK), Room k (A.deeper (lamEnv X scope s.heap.objs.size f c')) → PE (lamCx X A outer s H E scope f c') body (t E))
    (hN : Ng[i]? = some a) (hv : Vis sg a) (hd : (a == ("__debug__" : Str)) = false := by decide) (hcd : (a == ("__classdict__" : Str)) = false := by decide) :
    PE ((cxOf (L2.CX X.prog X.w) X.prog X.w X.K X.mg X.base Ng qg sg g cdg X.A X.stack s H Eg).tr pn xe) (.Call (.Name a p1) [] [] p2)
      (fun σZ HZ Q => σZ[i]? = some (some (.ref f)) ∧ HZ c' = some (CodeO c' (X.env.qual ++ "<lambda>")) ∧ t (WE W σZ) σ HZ Q) := by
  refine ⟨fun pinsZ sZ σZ HZ Q IZ ⟨hs, hc, ht⟩ => ?_⟩
  refine wpAny_Call_Name_kw (thn ((pe_var (pos := p1) (i := i) hN hv hd hcd).run pinsZ sZ σZ HZ (fun v H1 => v = .ref f ∧ H1 = HZ) IZ ⟨.ref f, hs, rfl, rfl⟩) fun u s1 ⟨v, H1, I1, r1, ev, eH⟩ => ?_)
  subst ev
  rw [eH] at I1
  obtain rfl : u = Value.ref f := r1
  have of1 := I1.base.keep f _ hf hfn hfr (fun z => nomatch (show f ∈ ([] : List Addr) from z))
  refine PySem.W.callWith_F0 ⟨_, _, _, _, of1⟩ ?_
  have un : Un (frs X.stack) [] H HZ s.heap s1.heap := I1.base
  obtain ⟨⟨oc, vs, t0, hoc, hdc, hvc⟩, _, _⟩ := I1.hok c' _ hc
  have rc : codeAny (model X.prog X.w) (X.A.deeper (envOfC qg sg s.heap.objs.size g cdg)) (.call (.ref f) ⟨[], []⟩) (CR (L2.CX X.prog X.w) (envOfC qg sg s.heap.objs.size g cdg :: X.stack) X.prog X.w HZ s1 Q (WE W σZ)) s1 := by
    refine PySem.W.kla_callFunE hr.depth of1 rfl L.co L.gen rfl ⟨c', oc, vs, t0, rfl, hoc, hdc, hvc⟩ ?_
    rw [hbind]
    refine wpAny_pure (wpAny_newFunctionEnv (fun y hy => (L.own y hy).2) (fun y hy => absurd hy (by simp)) (fun h₁ hns hsb => ⟨I1.nolimit.fresh _ hsb, ?_⟩) L.kind)
    show codeAny _ _ (.expr body (lamEnv X scope s1.heap.objs.size f c')) _ _
    have kp : ∀ b o, s1.heap.get? b = some o → h₁.get? b = some o := fun b o e => hsb.extBut b o (Nat.ne_of_lt (Heap.lt_size e)) (Heap.get?_push_of_some _ e)
    have J : Inv (lamCx X (X.A.deeper (envOfC qg sg s.heap.objs.size g cdg)) (envOfC qg sg s.heap.objs.size g cdg :: X.stack) s1 HZ (WE W σZ) scope f c') [] σ HZ { s1 with heap := h₁, toks := s1.toks + ([] : List (Str × Value)).length } :=
      lam_start2 I L I1.env0 hr.hd un hns kp
    refine PySem.W.kla_codeExpr (wpAny_mono ((hbody _ _ s1 HZ (WE W σZ) (hr.deeper _)).run [] _ _ HZ Q J ht) (fun v s' ⟨w', H', J', rv, q⟩ => ?_) fun e s' hq => hq)
    exact ⟨w', H', J'.os, J'.bare, J'.base, J'.hok, rv, q⟩
  have hx := passAt tk σZ
  refine wpAny_call (codeAny_mono rc fun r s' hq => ?_)
  cases r with
  | error e => exact hx pinsZ HZ s1 e s' I1 hq
  | ok fl =>
    cases fl with
    | ret u => exact I1.after hq
    | next => exact False.elim hq
    | brk => exact False.elim hq
    | cont => exact False.elim hq
/-- the lambda is made: its code object is found in the table at P, or it is new and written there; G: what is known of the table's code objects -/
theorem lam_made {c P : Addr} {q : Str} {ps : Array Value} {G : Addr → Prop} {params : Arguments} {body : Expr} {scope : Scope} {pos : Pos} {E : Value → Shared → Prop} {Q : Value → Shared → Prop} (I : Inv X pins σ H s) (TB : TabB X.base X.mg c P) (hcode : X.env.code = .ref c) (hq : X.env.qual ++ "<lambda>" = q)
    (hP : H P = some (.tbl ps)) (ht : TriplesOk ps.toList) (ha : ∀ (pos : Pos) (cv : Value), codeAmong pos ps.toList = some cv → ∃ c, cv = .ref c ∧ G c) (hG : ∀ c, G c → H c = some (CodeO c q))
    (hdef : defaultsOf params X.env = ([], [])) (hfree : ∀ y ∈ scope.names, y.2 = .free → ∃ c, X.env.cells.lookup y.1 = some c)
    (h : ∀ (f c' : Addr) (pm ctv : Value) (H1 : Hp) (s' : Shared), Inv X pins σ H1 s' → ((H1 = H ∧ G c') ∨ (H c' = none ∧ ∃ l m : Nat, H1 = upd (upd H P (.tbl (ps ++ #[rawInt l, rawInt m, .ref c']))) c' (CodeO c' q))) →
      s'.heap.get? f = some (PySem.W.kla_obj "<lambda>" (X.env.qual ++ "<lambda>") params body scope (cloFrom X.env.cells scope.names []) pm c' ctv) → H1 f = none → f ∉ frs X.stack → H1 c' = some (CodeO c' q) → Q (.ref f) s') :
    wpAny (model X.prog X.w) X.A (eval (.Lambda params body scope pos) X.env) Q E s := by
  subst hq
  refine PySem.W.kla_eval hdef ?_
  have bP : s.heap.BuiltinsAt X.mg P := TB.bm.keeps I.bk
  have hP' : s.heap.get? P = some { cls := .none, data := .fields ps } := I.hok P _ hP
  have nofr : ∀ f, s.heap.objs.size ≤ f → f ∉ frs X.stack := fun f hf z => by
    rcases List.mem_cons.mp (I.stkSub _ z) with e | e
    · have h1 := I.lt
      rw [← e] at h1
      exact Nat.lt_irrefl _ (Nat.lt_of_lt_of_le h1 hf)
    · exact I.nofs hf e
  cases hc : codeAmong pos ps.toList with
  | none =>
    refine PySem.W.kla_makeFunction (mg := X.mg) (c := c) (P := P) (ps := ps) (closure_ok hfree) I.ok.glob (I.mod.glob.keeps I.bk) hcode (TB.code.keeps I.bk) hP' ht hc TB.gP bP fun c' ctv h' tk hx hge hlt hrec htb => ?_
    obtain ⟨c2, oc, vs, t, e2, hoc, hd, hv⟩ := hrec
    cases e2
    have hsz : s.heap.objs.size ≤ h'.objs.size := Nat.le_trans hge (Nat.le_of_lt hlt)
    have nC : H c' = none := I.hok.fresh hge
    have I1 := inv_table (t' := tk) (more := #[rawInt pos.line, rawInt pos.col, .ref c']) (h' := h'.push (PySem.W.kla_obj "<lambda>" (X.env.qual ++ "<lambda>") params body scope (cloFrom X.env.cells scope.names []) ((X.mg "__name__").getD .none) c' ctv)) I hP
      (fun b o hb e => Heap.get?_push_of_some _ (hx b o hb e)) (Heap.get?_push_of_some _ htb) hge ⟨oc, vs, t, Heap.get?_push_of_some _ hoc, hd, hv⟩
    refine h h'.objs.size c' ((X.mg "__name__").getD .none) ctv _ _ I1 (.inr ⟨nC, _, _, rfl⟩) (Heap.get?_push_size _ rfl) ?_ (nofr _ hsz) upd_same
    have n1 : h'.objs.size ≠ c' := Nat.ne_of_gt hlt
    have n2 : h'.objs.size ≠ P := Nat.ne_of_gt (Nat.lt_of_lt_of_le (Heap.lt_size hP') hsz)
    rw [upd_ne n1, upd_ne n2]
    exact I.hok.fresh hsz
  | some cv =>
    obtain ⟨c', e, hg⟩ := ha pos cv hc
    subst e
    refine PySem.W.kla_makeFunctionHit (mg := X.mg) (c := c) (P := P) (ps := ps) (closure_ok hfree) I.ok.glob (I.mod.glob.keeps I.bk) hcode (TB.code.keeps I.bk) hP' ht hc bP fun ctv h' tk hx hsz => ?_
    have I1 : Inv X pins σ H { s with heap := h'.push (PySem.W.kla_obj "<lambda>" (X.env.qual ++ "<lambda>") params body scope (cloFrom X.env.cells scope.names []) ((X.mg "__name__").getD .none) c' ctv), toks := tk } := I.kept fun b o e => Heap.get?_push_of_some _ (hx b o e)
    exact h h'.objs.size c' ((X.mg "__name__").getD .none) ctv H _ I1 (.inl ⟨rfl, hg⟩) (Heap.get?_push_size _ rfl) (I.hok.fresh hsz) (nofr _ hsz) (hG _ hg)
/-- what a def promises of the lambda that it is handed: q the lambda's name, TT the promise -/
def FnL (P : Program) (w : World) (K : PySem.W.Frag) (mg : Str → Option Value) (base : Heap) (Ng : List Str) (qg : Str) (sg : Scope) (g : Addr) (cdg : Value) (bg : List Stmt) (a : Str) (k : Nat) (TT : Addr → Addr → Str → (XK → Hp → VK → Prop) → Hp → VK → XK → Prop) : Prop :=
  ∀ (A : Around) (outer : List Env) (f c' : Addr) (q : Str) (s : Shared) (H : Hp) (Q : VK) (E : XK) (tl : XK → Hp → VK → Prop),
    (∀ (W : WX) (pn : List (Addr × Obj)) (xe : Value → Shared → Prop) (p1 p2 : Pos), Takes ((cxOf (L2.CX P w) P w K mg base Ng qg sg g cdg A outer s H E).tr pn xe) W →
      PE ((cxOf (L2.CX P w) P w K mg base Ng qg sg g cdg A outer s H E).tr pn xe) (.Call (.Name a p1) [] [] p2) (fun σZ HZ Q => σZ[0]? = some (some (.ref f)) ∧ HZ c' = some (CodeO c' q) ∧ tl (WE W σZ) HZ Q)) →
    H c' = some (CodeO c' q) → TT f c' q tl H Q E → Room k (A.deeper (envOfC qg sg s.heap.objs.size g cdg)) →
    ∃ t, PSs (cxOf (L2.CX P w) P w K mg base Ng qg sg g cdg A outer s H E) bg t ∧ t { nx := fun _ H' => Q .non H', rt := Q } (L2.start Ng [.ref f]) H
def tLamS (P : Addr) (q : Str) (TT : Addr → Addr → Str → (XK → Hp → VK → Prop) → Hp → VK → XK → Prop) (E : L2.St → XK) (t : XK → TE) : TE := fun σ H Q =>
  ∃ (ps : Array Value) (G : Addr → Prop), H P = some (.tbl ps) ∧ TriplesOk ps.toList ∧ (∀ (pos : Pos) (cv : Value), codeAmong pos ps.toList = some cv → ∃ c, cv = .ref c ∧ G c) ∧ (∀ c, G c → H c = some (CodeO c q)) ∧
    (∀ f c', G c' → TT f c' q (fun E' H' Q' => t E' σ H' Q') H Q (E σ)) ∧
    ∀ (f c' : Addr) (l m : Nat), H c' = none → TT f c' q (fun E' H' Q' => t E' σ H' Q') (upd (upd H P (.tbl (ps ++ #[rawInt l, rawInt m, .ref c']))) c' (CodeO c' q)) Q (E σ)
theorem pe_lamS {TT : Addr → Addr → Str → (XK → Hp → VK → Prop) → Hp → VK → XK → Prop} {x a qg : Str} {g c P : Addr} {k : Nat} {pg : Arguments} {bg : List Stmt} {sg : Scope} {dV kV doc pm cdv ct oc : Value} {an od : Option Addr} {osl : Array (Option Value)} {Ng : List Str}
    {params : Arguments} {body : Expr} {scope : Scope} {t : XK → TE} {E : L2.St → XK} {p lpos pos : Pos} (hg : Gl X x) (hm : X.mg x = some (.ref g)) (hk : PySem.W.keepIn X.K (.ref g) = true)
    (lk : X.K.lookup g = some ⟨oc, od, .func (PySem.W.fnOf x qg pg bg sg dV kV doc pm an cdv ct), osl⟩) (hcg : PySem.W.codeIn X.K cdv qg = true) (hb : L2.Binds X.K (PySem.W.fnOf x qg pg bg sg dV kV doc pm an cdv ct) [a] []) (Sg : FnScope Ng [a] sg) (hNg : Ng[0]? = some a) (hva : Vis sg a)
    (hG : FnL X.prog X.w X.K X.mg X.base Ng qg sg g cdv bg a (k + 1) TT) (hx : ∀ σ, PassesAt (L2.CX X.prog X.w) X σ (E σ))
    (TB : TabB X.base X.mg c P) (hcode : X.env.code = .ref c) (hr : Room (k + 2) X.A) (L : LamS X.env.scope scope) (hdef : defaultsOf params X.env = ([], []))
    (hbind : ∀ (q : Str) (cl : List (Str × Addr)) (pm cv ctv : Value), bindArgs (PySem.W.kla_fn "<lambda>" q params body scope cl pm cv ctv) ⟨[], []⟩ = pure [])
    (hbody : ∀ (A : Around) (outer : List Env) (s : Shared) (H : Hp) (E : XK) (f c' : Addr), Room k (A.deeper (lamEnv X scope s.heap.objs.size f c')) → PE (lamCx X A outer s H E scope f c') body (t E))
    (hdb : (x == ("__debug__" : Str)) = false := by decide) (hd : (a == ("__debug__" : Str)) = false := by decide) (hcd : (a == ("__classdict__" : Str)) = false := by decide) :
    PE X (.Call (.Name x p) [.Lambda params body scope lpos] [] pos) (tLamS P (X.env.qual ++ "<lambda>") TT E t) := by
  refine ⟨fun pins s σ H Q I ⟨ps, G, hP, ht, ha, hG0, hit, mis⟩ => ?_⟩
  refine wpAny_Call_Name_kw (ld_glob I hg hm ?_ hdb)
  refine PySem.W.callWith_K (h₀ := X.base) I.ok.mod.kin hk ?_ (by rfl) (by rfl)
  show wpAny _ _ (spliced ((false, eval (.Lambda params body scope lpos) X.env) :: backTo pos (starEach [] X.env))) _ _ s
  refine Calls.spliced_cons (lam_made I TB hcode rfl hP ht ha hG0 hdef (L.has I.ok) fun f c' pm' ctv H1 s' I1 hh hf hfn hfr hco => ?_)
  refine Calls.spliced_nil ⟨I1.kIn, ?_⟩
  have rc : codeAny (model X.prog X.w) X.A (.call (.ref g) ⟨[.ref f], []⟩) (CR (L2.CX X.prog X.w) X.stack X.prog X.w H1 s' Q (E σ)) s' :=
    run_ofS (N := Ng) (ps := [a]) (us := [.ref f]) (vs := [.ref f]) lk hcg Sg hr I1.env0 (hb s' [.ref f] I1.kIn rfl) (.cons rfl .nil) rfl fun hr' =>
      hG X.A X.stack f c' _ s' H1 Q (E σ) (fun E H' Q' => t E σ H' Q') (fun W pn xe p1 p2 tk => pe_actS (i := 0) I1 L hf hfn hfr (hbind _ _ _ _ _) tk hr' (fun A outer s H E hr2 => hbody A outer s H E f c' hr2) hNg hva hd hcd) hco (by
        rcases hh with ⟨rfl, hg⟩ | ⟨hn, l, m, rfl⟩
        · exact hit f c' hg
        · exact mis f c' l m hn) hr'
  refine wpAny_call (codeAny_mono rc fun r s2 hq => ?_)
  cases r with
  | error e => exact hx σ pins H1 s' e s2 I1 hq
  | ok fl =>
    cases fl with
    | ret u => exact I1.after hq
    | next => exact False.elim hq
    | brk => exact False.elim hq
    | cont => exact False.elim hq
end
end L3

/-! lambdas, by data. -/
namespace L3
open PySem PySem.Spec PyProof.Rows L2 LamX
section
variable {K : PySem.W.Frag} {E : WX} {Ψ : PX} {ρ : Env3} {M : Mem} {Φ : D → Mem → Prop}
/-- the lambda's answers, at every F from F0 on -/
def LamO (K : PySem.W.Frag) (F0 : Hp) (ML : Mem) (ΦL : D → Mem → Prop) (ΨL : Ex → Mem → Prop) (tl : XK → Hp → VK → Prop) : Prop :=
  ∀ (E : XK) (F H : Hp) (Mf : Mem) (Q : VK), Same F0 F → StC K F H (ML ++ Mf) → Kont K F Mf ΦL Q → (∀ x M' F' H' cls d, ΨL x M' → Same F F' → StC K F' H' (M' ++ Mf) → ExR K F' H' cls d x → E cls d H') → tl E H Q
/-- what a def promises of a lambda: its cells, its answers, its errors; then the def's -/
abbrev SpL := Mem → (D → Mem → Prop) → (Ex → Mem → Prop) → (D → Mem → Prop) → (Ex → Mem → Prop) → Prop
def TTof (K : PySem.W.Frag) (spl : SpL) : Addr → Addr → Str → (XK → Hp → VK → Prop) → Hp → VK → XK → Prop := fun _ c' q tl H Q E =>
  ∃ (F0 : Hp) (p : Addr) (ML Mf : Mem) (ΦL : D → Mem → Prop) (ΨL : Ex → Mem → Prop) (Φ : D → Mem → Prop) (Ψ : Ex → Mem → Prop), StC K F0 H ((p, .drw) :: (ML ++ Mf)) ∧ F0 c' = some (CodeO c' q) ∧ LamO K F0 ((p, .drw) :: ML) ΦL ΨL tl ∧ spl ((p, .drw) :: ML) ΦL ΨL Φ Ψ ∧ Kont K F0 Mf Φ Q ∧
    ∀ x M' F' H' cls d, Ψ x M' → Same F0 F' → StC K F' H' (M' ++ Mf) → ExR K F' H' cls d x → E cls d H'
theorem upd_id {H : Hp} {p : Addr} {ho : HO} (h : H p = some ho) : upd H p ho = H := by
  funext b
  by_cases hb : b = p
  · rw [hb, upd_same, h]
  · rw [upd_ne hb]
theorem upd_swap {H : Hp} {p q : Addr} {x y : HO} (h : p ≠ q) : upd (upd H p x) q y = upd (upd H q y) p x := by
  funext b
  by_cases hb : b = p
  · subst hb
    rw [upd_ne h, upd_same, upd_same]
  · by_cases hq : b = q
    · subst hq
      rw [upd_same, upd_ne hb, upd_same]
    · rw [upd_ne hq, upd_ne hb, upd_ne hb, upd_ne hq]
theorem drw_in {F H : Hp} {p c' : Addr} {q : Str} {B : Mem} (s : StC K F H ((p, .drw) :: B)) (hc : F c' = some (CodeO c' q)) : StC K F H ((p, .drwS F c' q) :: B) := by
  obtain ⟨n, ho, e, r⟩ := s.own p _ List.mem_cons_self
  cases ho with
  | dK kvs =>
    have z := StC.put (A := []) (o' := .drwS F c' q) (ho := .dK kvs) s ⟨r, hc, Same.refl _⟩
    rw [upd_id e] at z
    exact z
  | _ => exact absurd r (by intro z; exact z)
theorem drw_out {F0 F H : Hp} {p c' : Addr} {q : Str} {B : Mem} (s : StC K F H ((p, .drwS F0 c' q) :: B)) : F c' = some (CodeO c' q) ∧ Same F0 F ∧ StC K F H ((p, .drw) :: B) := by
  obtain ⟨n, ho, e, r⟩ := s.own p _ List.mem_cons_self
  cases ho with
  | dK kvs =>
    have z := StC.put (A := []) (o' := .drw) (ho := .dK kvs) s r.1
    rw [upd_id e] at z
    exact ⟨r.2.1, r.2.2, z⟩
  | _ => exact absurd r (by intro z; exact z)
theorem EnvR.zero {F : Hp} {σ : L2.St} {f : Addr} (e : EnvR K F σ ρ) (h : ρ[0]? = some (some (.ref f))) : σ[0]? = some (some (.ref f)) := by
  cases e with
  | nil => cases h
  | cons q t =>
    cases h
    obtain ⟨v, rfl, r⟩ := q
    cases r
    rfl
/-- the call of the lambda in the def that got it -/
theorem W.act {tl : XK → Hp → VK → Prop} {f c' p : Addr} {q : Str} {F0 : Hp} {ML : Mem} {ΦL : D → Mem → Prop} {ΨL : Ex → Mem → Prop} (hL : LamO K F0 ((p, .drw) :: ML) ΦL ΨL tl) (hρ : ρ[0]? = some (some (.ref f)))
    (hΦ : ∀ x M', ΦL x M' → Φ x M') (hΨ : ∀ x M', ΨL x M' → Ψ x ρ M') :
    W K E (fun σZ HZ Q => σZ[0]? = some (some (.ref f)) ∧ HZ c' = some (CodeO c' q) ∧ tl (WE E σZ) HZ Q) ρ ((p, .drwS F0 c' q) :: ML) Φ Ψ := fun σ F H Mf Q e s k qk => by
  obtain ⟨h1, h2, s1⟩ := drw_out s
  exact ⟨e.zero hρ, s.sub _ _ h1, hL _ F H Mf Q h2 s1 (fun v x F' H' M' h r sm st => qk v x F' H' M' (hΦ _ _ h) r sm st) fun x M' F' H' cls d h sm st er => k x ρ M' F' H' σ cls d (hΨ _ _ h) (e.mono sm) sm st er⟩
/-- the def's promise by its body -/
theorem FnL.mk {P : Program} {w : World} {mg : Str → Option Value} {base : Heap} {Ng : List Str} {qg : Str} {sg : Scope} {g : Addr} {cdg : Value} {bg : List Stmt} {a : Str} {k : Nat} {spl : SpL}
    (hb : ∀ (A : Around) (outer : List Env) (f c' : Addr) (q : Str) (s : Shared) (H : Hp) (E : XK) (tl : XK → Hp → VK → Prop),
      (∀ (W : WX) (pn : List (Addr × Obj)) (xe : Value → Shared → Prop) (p1 p2 : Pos), Takes ((cxOf (L2.CX P w) P w K mg base Ng qg sg g cdg A outer s H E).tr pn xe) W →
        PE ((cxOf (L2.CX P w) P w K mg base Ng qg sg g cdg A outer s H E).tr pn xe) (.Call (.Name a p1) [] [] p2) (fun σZ HZ Q => σZ[0]? = some (some (.ref f)) ∧ HZ c' = some (CodeO c' q) ∧ tl (WE W σZ) HZ Q)) →
      Room k (A.deeper (envOfC qg sg s.heap.objs.size g cdg)) →
      ∃ t, PSs (cxOf (L2.CX P w) P w K mg base Ng qg sg g cdg A outer s H E) bg t ∧ ∀ (F0 : Hp) (p : Addr) (ML : Mem) (ΦL : D → Mem → Prop) (ΨL : Ex → Mem → Prop) (Φ : D → Mem → Prop) (Ψ : Ex → Mem → Prop), LamO K F0 ((p, .drw) :: ML) ΦL ΨL tl → spl ((p, .drw) :: ML) ΦL ΨL Φ Ψ →
        WS K (fun cls d _ H => E cls d H) t (some (.ref f) :: List.replicate (Ng.length - 1) none) ((p, .drwS F0 c' q) :: ML) ⟨fun _ M' => Φ .non M', Φ, fun _ _ => False, fun _ _ => False⟩ (fun x _ M' => Ψ x M')) :
    FnL P w K mg base Ng qg sg g cdg bg a k (TTof K spl) := by
  intro A outer f c' q s H Q E tl act hc ⟨F0, p, ML, Mf, ΦL, ΨL, Φ, Ψ, st, hF, hL, hs, kn, ke⟩ hr
  obtain ⟨t, ht, hw⟩ := hb A outer f c' q s H E tl act hr
  refine ⟨t, ht, ?_⟩
  exact hw F0 p ML ΦL ΨL Φ Ψ hL hs (L2.start Ng [.ref f]) F0 H Mf _ (start_env (xs := [.ref f]) (.cons (.ref f) .nil)) (drw_in st hF) (fun x ρ M' F' H' σ cls d p _ s' c' er => ke x M' F' H' cls d p s' c' er)
    ⟨fun σ ρ F' H' M' p _ s' c' => kn _ _ F' H' M' p .non s' c', fun v x F' H' M' p r' s' c' => kn v x F' H' M' p r' s' c', fun _ _ _ _ _ p => p.elim, fun _ _ _ _ _ p => p.elim⟩
/-- the call of the def with a lambda -/
theorem W.lam {spl : SpL} {t : XK → TE} {P p : Addr} {q : Str} {ML MR : Mem} {ΦL : D → Mem → Prop} {ΨL : Ex → Mem → Prop} (hm : (P, O.tab q) ∈ M) (hM : M.Perm ((p, .drw) :: (ML ++ MR)))
    (hw : ∀ E : XK, W K (fun cls d _ H => E cls d H) (t E) ρ ((p, .drw) :: ML) ΦL (fun x _ M => ΨL x M)) (hs : spl ((p, .drw) :: ML) ΦL ΨL (fun x M' => Φ x (M' ++ MR)) (fun x M' => Ψ x ρ (M' ++ MR))) :
    W K E (tLamS P q (TTof K spl) (WE E) t) ρ M Φ Ψ := fun σ F H Mf Q e s k qk => by
  obtain ⟨n, ho, eP, r⟩ := s.own P _ (List.mem_append_left _ hm)
  cases ho with
  | tbl ps =>
    obtain ⟨r1, r2⟩ := r
    have LO : ∀ F1 : Hp, Same F F1 → LamO K F1 ((p, .drw) :: ML) ΦL ΨL fun E' H' Q' => t E' σ H' Q' := fun F1 s1 E' F2 H2 Mf2 Q2 s2 st kn ke =>
      hw E' σ F2 H2 Mf2 Q2 (e.mono (s1.trans s2)) st (fun x ρ M' F' H' σ cls d h _ s' c' er => ke x M' F' H' cls d h s' c' er) kn
    have go : ∀ (F1 H1 : Hp) (f c' : Addr), Same F F1 → StC K F1 H1 (M ++ Mf) → F1 c' = some (CodeO c' q) → TTof K spl f c' q (fun E' H' Q' => t E' σ H' Q') H1 Q (WE E σ) := fun F1 H1 f c' s1 st hc =>
      ⟨F1, p, ML, MR ++ Mf, ΦL, ΨL, _, _, st.perm (by rw [← List.append_assoc]; exact hM.append_right Mf), hc, LO F1 s1, hs, fun v x F2 H2 M2 h r sm st2 => qk v x F2 H2 (M2 ++ MR) h r (s1.trans sm) (by rw [List.append_assoc]; exact st2),
        fun x M2 F2 H2 cls d h sm st2 er => k x ρ (M2 ++ MR) F2 H2 σ cls d h (e.mono (s1.trans sm)) (s1.trans sm) (by rw [List.append_assoc]; exact st2) er⟩
    refine ⟨ps, fun c => F c = some (CodeO c q), eP, r1, r2, fun c h => s.sub _ _ h, fun f c' hc => go F H f c' (Same.refl _) s hc, fun f c' l m hn => ?_⟩
    have nPc : P ≠ c' := ne_of_none eP hn
    have sF : Same F (upd F c' (CodeO c' q)) := StC.sameF s hn
    refine go (upd F c' (CodeO c' q)) _ f c' sF ?_ upd_same
    rw [upd_swap nPc]
    have s2 : StC K (upd F c' (CodeO c' q)) (upd H c' (CodeO c' q)) (M ++ Mf) := StC.newF s hn (codeO_ne (c := c') (q := q))
    obtain ⟨A, B, hAB⟩ := List.append_of_mem (List.mem_append_left Mf hm)
    rw [hAB] at s2 ⊢
    have eL : (ps ++ #[rawInt l, rawInt m, .ref c']).toList = ps.toList ++ [rawInt l, rawInt m, .ref c'] := by simp
    refine StC.put (o' := .tab q) s2 ?_
    refine ⟨by rw [eL]; exact PySem.TriplesOk_snoc _ _ _ _ r1, fun p' cv hcv => ?_⟩
    rw [eL] at hcv
    rcases among_app (pos := ⟨l, m, 0, 0⟩) _ r1 hcv with z | z
    · obtain ⟨c0, e1, e2⟩ := r2 p' cv z
      exact ⟨c0, e1, sF _ _ e2⟩
    · exact ⟨c', z, upd_same⟩
  | _ => exact absurd r (by intro z; exact z)
end
end L3

/-! lambdas: what passes the lambda's frame; the law's start with tables. -/
namespace L3
open PySem PySem.Spec PyProof.Rows L2 LamX
theorem pass_lam {X : Cx} {A : Around} {outer : List Env} {s : Shared} {H : Hp} {E : XK} {scope : Scope} {f c' : Addr} {σ : L2.St} :
    PassesAt (L2.CX X.prog X.w) (lamCx X A outer s H E scope f c') σ (WE (fun cls d _ H => E cls d H) σ) := passAt (takes_of rfl rfl rfl rfl) σ
/-- the law's promise with tables of code objects -/
def spLawT (T : List (Addr × Str)) : SpD := fun xs M Φ _ => ∃ ns : List Int, xs = [.scr ns] ∧ M = T.map (fun p => (p.1, O.tab p.2)) ∧ ns.length ≤ 63 ∧ (∀ z ∈ ns, Builtin.Int.intBits z ≤ 1048576) ∧ ∀ M', Φ (.bl true) M'
theorem exM_tab (T : List (Addr × Str)) : exM (T.map fun p => (p.1, O.tab p.2)) = T.map fun p => (p.1, O.tab p.2) := by
  induction T with
  | nil => rfl
  | cons p T ih => rw [List.map_cons, exM_one rfl, ih]
theorem law_startT {K : PySem.W.Frag} {H : Hp} {a : Addr} {ns : List Int} {T : List (Addr × Str)} (hT : ∀ p ∈ T, H p.1 = some (.tbl #[])) (hN : (T.map Prod.fst).Nodup) (hl : ns.length ≤ 63) (hb : ∀ z ∈ ns, Builtin.Int.intBits z ≤ 1048576) (hS : SqL K H a (ns.map V.int)) :
    lift K (spLawT T) [.ref a] H (fun v _ => v = .bl true) fun _ _ _ => False := by
  refine ⟨[.scr ns], noTab H, T.map (fun p => (p.1, O.tab p.2)), [], fun x _ => x = .bl true, fun _ _ => False, .cons (.scr (noTab_sq hS)) .nil, ?_, ⟨ns, rfl, rfl, hl, hb, fun _ => rfl⟩, fun v x F' H' M' e r _ _ => by subst e; cases r; rfl, fun _ _ _ _ _ _ p => p.elim⟩
  rw [List.append_nil]
  show StR K (noTab H) H (exM _)
  rw [exM_tab]
  refine ⟨noTab_to, fun p o m => ?_, ?_, noTab_no⟩
  · obtain ⟨t, ht, e⟩ := List.mem_map.mp m
    cases e
    have h := hT t ht
    refine ⟨?_, _, h, True.intro, fun pos cv hc => ?_⟩
    · unfold noTab
      rw [h]
    · have z : codeAmong pos [] = some cv := hc
      simp [codeAmong] at z
  · rw [List.map_map]
    exact hN
end L3

/-! defs with lambdas: a def whose code object is known; the call with a lambda, by the def's facts. -/
namespace L3
open PySem PySem.Spec PyProof.Rows L2 LamX
/-- a def, its code object at c -/
structure FunC (K : PySem.W.Frag) (x qual : Str) (st : Stmt) (f : Addr) (fd : FuncData) (c : Addr) : Prop where
  ex : ∃ (oc : Value) (od : Option Addr) (kV doc pm : Value) (an : Option Addr) (ct : Value) (osl : Array (Option Value)),
    fd = PySem.W.fnOf x qual (defArgs st) (defBody st) (defScope st) .none kV doc pm an (.ref c) ct ∧ K.lookup f = some ⟨oc, od, .func fd, osl⟩ ∧ PySem.W.codeIn K (.ref c) qual = true
section
variable {K : PySem.W.Frag}
theorem def_okC {P : Program} {w : World} {mg : Str → Option Value} {base : Heap} {x qual : Str} {st : Stmt} {f c : Addr} {fd : FuncData} {N ps : List Str} {k : Nat} {sp : SpD} (Fn : FunC K x qual st f fd c) (S : FnScope N ps (defScope st)) (hl : SpLen sp ps.length)
    (hb : ∀ (A : Around) (outer : List Env) (s : Shared) (H : Hp) (E : XK), Room k (A.deeper (PyProof.Rows.envOfC qual (defScope st) s.heap.objs.size f (.ref c))) →
      ∃ t, PSs (cxOf (L2.CX P w) P w K mg base N qual (defScope st) f (.ref c) A outer s H E) (defBody st) t ∧ ∀ xs M Φ Ψ, sp xs M Φ Ψ → WS K (fun cls d _ H => E cls d H) t (xs.map some ++ List.replicate (N.length - xs.length) none) M ⟨fun _ M' => Φ .non M', Φ, fun _ _ => False, fun _ _ => False⟩ (fun x _ M' => Ψ x M')) :
    FnOk P w K mg base (L2.CX P w) (k + 1) f fd ps (lift K sp) := by
  obtain ⟨oc, od, kV, doc, pm, an, ct, osl, rfl, lk, hcd⟩ := Fn.ex
  refine fn_of lk hcd S (fun vs H Q E h => ?_) fun A outer s H vs Q E hr h => ?_
  · obtain ⟨xs, F, M, Mf, Φ, Ψ, r, _, h, _⟩ := h
    exact r.len.trans (hl _ _ _ _ h)
  · obtain ⟨t, ht, hw⟩ := hb A outer s H E hr
    refine ⟨t, ht, ?_⟩
    obtain ⟨xs, F, M, Mf, Φ, Ψ, r, c, h, kn, ke⟩ := h
    exact hw xs M Φ Ψ h (L2.start N vs) F H Mf _ (start_env r) c (fun x ρ M' F' H' σ cls d p _ s' c' er => ke x M' F' H' cls d p s' c' er)
      ⟨fun σ ρ F' H' M' p _ s' c' => kn _ _ F' H' M' p .non s' c', fun v x F' H' M' p r' s' c' => kn v x F' H' M' p r' s' c', fun _ _ _ _ _ p => p.elim, fun _ _ _ _ _ p => p.elim⟩
end
section
variable {X : Cx}
theorem pe_lamF {TT : Addr → Addr → Str → (XK → Hp → VK → Prop) → Hp → VK → XK → Prop} {x a qg : Str} {st : Stmt} {fd : FuncData} {g c P : Addr} {k : Nat} {Ng : List Str}
    {params : Arguments} {body : Expr} {scope : Scope} {t : XK → TE} {E : L2.St → XK} {p lpos pos : Pos} (Fn : Fun X.K x qg st g fd) (hg : Gl X x) (hm : X.mg x = some (.ref g)) (hb : L2.Binds X.K fd [a] []) (Sg : FnScope Ng [a] (defScope st)) (hNg : Ng[0]? = some a) (hva : Vis (defScope st) a)
    (hG : ∀ cdg, FnL X.prog X.w X.K X.mg X.base Ng qg (defScope st) g cdg (defBody st) a (k + 1) TT) (hx : ∀ σ, PassesAt (L2.CX X.prog X.w) X σ (E σ))
    (TB : TabB X.base X.mg c P) (hcode : X.env.code = .ref c) (hr : Room (k + 2) X.A) (L : LamS X.env.scope scope) (hdef : defaultsOf params X.env = ([], []))
    (hbind : ∀ (q : Str) (cl : List (Str × Addr)) (pm cv ctv : Value), bindArgs (PySem.W.kla_fn "<lambda>" q params body scope cl pm cv ctv) ⟨[], []⟩ = pure [])
    (hbody : ∀ (A : Around) (outer : List Env) (s : Shared) (H : Hp) (E : XK) (f c' : Addr), Room k (A.deeper (lamEnv X scope s.heap.objs.size f c')) → Takes (lamCx X A outer s H E scope f c') (fun cls d _ H => E cls d H) → PE (lamCx X A outer s H E scope f c') body (t E))
    (hdb : (x == ("__debug__" : Str)) = false := by decide) (hd : (a == ("__debug__" : Str)) = false := by decide) (hcd : (a == ("__classdict__" : Str)) = false := by decide) :
    PE X (.Call (.Name x p) [.Lambda params body scope lpos] [] pos) (tLamS P (X.env.qual ++ "<lambda>") TT E t) := by
  obtain ⟨oc, od, kV, doc, pm, an, cdv, ct, osl, rfl, lk, hcg⟩ := Fn.ex
  exact pe_lamS hg hm Fn.kp lk hcg hb Sg hNg hva (hG cdv) hx TB hcode hr L hdef hbind (fun A outer s H E f c' h => hbody A outer s H E f c' h (takes_of rfl rfl rfl rfl)) hdb hd hcd
end
end L3

/-! lambdas: the law's end with the tables of the named defs; the call with a lambda whose cells are all that there are. -/
namespace L3
open PySem PySem.Spec PyProof.Rows L2 LamX
/-- the table of the def at f is empty, its code object is known -/
def TabAt (K : PySem.W.Frag) (f : Addr) (h : Heap) : Prop := ∀ (c P : Addr) (o : Obj) (fd : FuncData) (e : Value) (dd : Option Addr) (vs : Array Value) (sl : Array (Option Value)), K.lookup f = some o → o.data = .func fd → fd.code = .ref c → K.lookup c = some ⟨e, dd, .fields vs, sl⟩ → vs[11]? = some (.ref P) →
  h.get? P = some { cls := .none, data := .fields #[] } ∧ PySem.W.CodeHd h c P
theorem walk_ofNames {l : PySem.W.OpenLaw} {n k : Nat} {q : Program} {loose : List Str} {XP : (Str → Option Value) → Heap → Prop} {YP : World → Heap → Prop} {d : DefRec} {K : Params → PySem.W.Frag} {CX : World → CXT} {x : Str} {xs : List Str}
    (hn : l.most = some n) (hn2 : n ≤ sizeLine) (hdf : d.params.defaults = []) (hr : Room k callerA) (hrec : (xs.all fun x => (recsOf q).any fun e => e.name == x) = true) (hY : ∀ (w : World) (h : Heap), YP w h → (K w.params).In h)
    (F : ∀ (w : World) (mg : Str → Option Value) (fa : Addr) (h : Heap), (K w.params).In h → h.Ns mainGlobals mg → mg d.name = some (.ref fa) → (∀ x ∈ xs, ∀ f, mg x = some (.ref f) → TabAt (K w.params) f h) → LawAtS l w (K w.params) (CX w) k n x mg fa h)
    (hCX : ∀ (w : World) (H : Hp) (s : Shared) (e : Value) (s' : Shared), CX w [] H s (fun _ _ _ => False) e s' → False) :
    PySem.W.WalkO q loose XP YP l.row.toRowW d [] (fun f vs => PySem.call f vs) := by
  refine Att.attach_callB hn hdf fun w s₀ s₁ mg mb fa o pm cd doc a vs ns G Y ho hd hcd hmg hobj hints hlen hbits hg => ?_
  have KX := hY w _ Y
  have own : ∀ x ∈ xs, ∀ f, mg x = some (.ref f) → TabAt (K w.params) f s₁.heap := fun x hx f hf c P o1 fd1 e dd vs1 sl k1 k2 k3 k4 k5 => by
    obtain ⟨dL, hm, hn1⟩ := List.any_eq_true.mp (List.all_eq_true.mp hrec x hx)
    have hn2 : dL.name = x := beq_iff_eq.mp hn1
    obtain ⟨a', o', fd', c', P', h1, h2, h3, h4, h5, h6⟩ := G.T.tab dL hm
    rw [hn2, hf] at h1
    cases h1
    have g1 := KX _ _ k1
    rw [g1] at h2
    cases h2
    rw [k2] at h3
    cases h3
    rw [k3] at h4
    cases h4
    have hC := PySem.W.CodeHd.of h5 h6
    obtain ⟨⟨oc, vc, e1, _, e3, e4⟩, hP⟩ := h6
    have g2 := KX _ _ k4
    rw [g2] at e1
    cases e1
    cases e3
    rw [k5] at e4
    cases e4
    exact ⟨hP, hC⟩
  obtain ⟨fd, cs, sp, hT, nT, C, hb, hsp, hF⟩ := F w mg fa _ KX G.T.g hmg own
  exact law_callTs KX G.T.g G.T.b G.T.builtins G.T.nolimit hg hT nT C G.T.bmain hobj hints (Nat.le_trans hlen hn2) hr hF hb (fun H hH hS => hsp H a ns hlen hbits hH hS) fun H e s' => hCX w H s₁ e s'
section
variable {K : PySem.W.Frag} {E : WX} {Ψ : PX} {ρ : Env3} {M : Mem} {Φ : D → Mem → Prop}
theorem W.lamA {spl : SpL} {t : XK → TE} {P p : Addr} {q : Str} {ML : Mem} {ΦL : D → Mem → Prop} {ΨL : Ex → Mem → Prop} (hm : (P, O.tab q) ∈ M) (hM : Pk M ((p, .drw) :: ML))
    (hs : spl ((p, .drw) :: ML) ΦL ΨL Φ (fun x M' => Ψ x ρ M')) (hw : ∀ E : XK, W K (fun cls d _ H => E cls d H) (t E) ρ ((p, .drw) :: ML) ΦL (fun x _ M => ΨL x M)) :
    W K E (tLamS P q (TTof K spl) (WE E) t) ρ M Φ Ψ :=
  W.lam (MR := []) hm (by rw [List.append_nil]; exact hM) hw (by simpa only [List.append_nil] using hs)
end
end L3

/-! zip of a list and a tuple, either way (the kit's zip takes two of a kind); its lemmas for two of a kind, turned to rows of any kind. -/
namespace ZM
open PySem PySem.Spec PyProof.Rows L2
open PySem.Sem (wp)
/-- a list (true) or a tuple, its iterator -/
def SqO (b : Bool) (h : Heap) (a : Addr) (xs : Array Value) : Prop := match b with
  | true => h.IsList a xs
  | false => h.IsTuple a xs
def SqI (b : Bool) (h : Heap) (it a : Addr) (i : Nat) : Prop := match b with
  | true => h.IsListIter it a i
  | false => h.IsTupleIter it a i
def itn (b : Bool) : String := match b with
  | true => "list_iterator"
  | false => "tuple_iterator"
theorem SqO.extBut {b : Bool} {h h' : Heap} {a c : Addr} {xs : Array Value} (p : SqO b h a xs) (e : Heap.ExtBut c h h') (n : a ≠ c) : SqO b h' a xs := by
  cases b
  · exact Heap.IsTuple.extBut p e n
  · exact Heap.IsList.extBut p e n
theorem SqI.extBut {b : Bool} {h h' : Heap} {it a c : Addr} {i : Nat} (p : SqI b h it a i) (e : Heap.ExtBut c h h') (n : it ≠ c) : SqI b h' it a i := by
  cases b
  · exact Heap.IsTupleIter.extBut p e n
  · exact Heap.IsListIter.extBut p e n
theorem SqI.at {b : Bool} {h h' : Heap} {it a : Addr} {i : Nat} (p : SqI b h it a i) (k : ∀ o, h.get? it = some o → h'.get? it = some o) : SqI b h' it a i := by
  cases b
  · exact Heap.IsTupleIter.at p k
  · exact Heap.IsListIter.at p k
theorem SqI.lt {b : Bool} {h : Heap} {it a : Addr} {i : Nat} (p : SqI b h it a i) : it < h.objs.size := by
  cases b
  · obtain ⟨_, e, _⟩ := p
    exact Heap.lt_size e
  · obtain ⟨_, e, _⟩ := p
    exact Heap.lt_size e
theorem SqI.obj {b : Bool} {h : Heap} {it a : Addr} {i : Nat} (p : SqI b h it a i) : ∃ o, h.get? it = some o ∧ ∀ v, o.data ≠ .cell v := by
  cases b
  · obtain ⟨o, e, _, d⟩ := p
    exact ⟨o, e, fun v q => by rw [d] at q; cases q⟩
  · obtain ⟨o, e, _, d⟩ := p
    exact ⟨o, e, fun v q => by rw [d] at q; cases q⟩
theorem SqI.of {b : Bool} {h : Heap} {it a : Addr} (g : h.get? it = some { cls := .type (itn b), data := .fields #[.ref a, .int 0 0] }) : SqI b h it a 0 := by
  cases b
  · exact ⟨_, g, rfl, rfl⟩
  · exact ⟨_, g, rfl, rfl⟩
section
variable {prog : Program} {w : World} {A : Around} {E : Value → Shared → Prop} {s : Shared}
theorem nextOf_sq_item {b : Bool} {it l : Addr} {i : Nat} {items} {x : Value} {Q : Value → Shared → Prop} (hit : SqI b s.heap it l i) (hl : SqO b s.heap l items) (hx : items[i]? = some x)
    (hQ : ∀ h', SqI b h' it l (i + 1) → Heap.SameBut it s.heap h' → Q x { s with heap := h' }) : wpAny (model prog w) A (Builtin.SmallTypes.nextOf (.ref it)) Q E s := by
  cases b
  · exact RZ.nextOf_tuple_item hit hl hx hQ
  · exact wpAny_nextOf_list_item hit hl hx hQ
theorem nextOf_sq_end {b : Bool} {it l : Addr} {i : Nat} {items} {Q : Value → Shared → Prop} (hh : A.handled = none) (hit : SqI b s.heap it l i) (hl : SqO b s.heap l items) (hx : items[i]? = none)
    (hE : ∀ h' e, Heap.ExtBut it s.heap h' → (∃ o, h'.get? e = some o ∧ o.cls = .type "StopIteration") → E (.ref e) { s with heap := h' }) : wpAny (model prog w) A (Builtin.SmallTypes.nextOf (.ref it)) Q E s := by
  cases b
  · exact RZ.nextOf_tuple_end hh hit hl hx hE
  · exact wpAny_nextOf_list_end hh hit hl hx hE
theorem zipM_next_item {b1 b2 : Bool} {z TI TO i1 i2 l1 l2 : Addr} {k1 k2 : Nat} {xs ys : Array Value} {x y a b : Value} {Q : Value → Shared → Prop} (D : ZipApart z TI TO i1 i2 l1 l2)
    (hz : IsZip s.heap z TI TO .none) (hTI : IsPair s.heap TI (.ref i1) (.ref i2)) (hTO : IsPair s.heap TO a b)
    (h1 : SqI b1 s.heap i1 l1 k1) (h2 : SqI b2 s.heap i2 l2 k2) (hl1 : SqO b1 s.heap l1 xs) (hl2 : SqO b2 s.heap l2 ys) (hx : xs[k1]? = some x) (hy : ys[k2]? = some y)
    (hQ : ∀ h', IsZip h' z TI TO (rawInt s.heap.objs.size) → IsPair h' TO x y → SqI b1 h' i1 l1 (k1 + 1) → SqI b2 h' i2 l2 (k2 + 1) → IsPair h' s.heap.objs.size x y → h'.objs.size = s.heap.objs.size + 1 →
      (∀ c o, c ≠ z → c ≠ TO → c ≠ i1 → c ≠ i2 → s.heap.get? c = some o → h'.get? c = some o) → Q (.ref s.heap.objs.size) { s with heap := h' }) :
    wpAny (model prog w) A (Builtin.«zip.__next__» ⟨[.ref z], []⟩) (fun fin s' => ∃ v, fin = .done (.ret v) ∧ Q v s') E s := by
  show wpAny _ _ (field (.ref z) 2 >>= _) _ _ _
  refine wpAny_bind (wpAny_field hz rfl (x := .bool false) rfl ?_)
  show wpAny _ _ (field (.ref z) 3 >>= _) _ _ _
  refine wpAny_bind (wpAny_field hz rfl (x := .ref TI) rfl ?_)
  refine wpAny_bind (wpAny_seqItems hTI rfl ?_)
  show wpAny _ _ (Builtin.SmallTypes.ownedTupleIsFree (.ref z) >>= _) _ _ _
  refine wpAny_bind ?_
  unfold Builtin.SmallTypes.ownedTupleIsFree
  refine wpAny_bind (wpAny_field hz rfl (x := .none) rfl (wpAny_pure ?_))
  simp only [if_true]
  refine wpAny_bind (wpAny_rule ?_)
  refine wpAny_bind (wpAny_field hz rfl (x := .ref TO) rfl ?_)
  refine wpAny_bind (wpAny_setField_rec hz (by simp) fun h₁ hz₁ hs₁ => ?_)
  replace hz₁ : IsZip h₁ z TI TO .ellipsis := hz₁
  refine wpAny_bind ?_
  simp only [List.zipIdx_cons, List.zipIdx_nil, List.forIn_cons, List.forIn_nil]

  refine wpAny_bind (wpAny_bind (wpAny_onRaise ?_))
  show wpAny _ _ (Builtin.SmallTypes.nextOf (.ref i1) >>= _) _ _ _
  refine wpAny_bind (nextOf_sq_item (h1.extBut hs₁.extBut D.i1z) (hl1.extBut hs₁.extBut D.l1z) hx fun h₂ h1₂ hs₂ => wpAny_pure ?_)
  have hTO₂ : IsPair h₂ TO a b := hs₂.extBut _ _ D.TOi1 (hs₁.extBut _ _ D.TOz hTO)
  refine wpAny_bind (wpAny_seqItems hTO₂ rfl ?_)
  refine wpAny_bind (wpAny_updateSeq_pair hTO₂ fun h₃ hTO₃ hs₃ => ?_)
  replace hTO₃ : IsPair h₃ TO x b := hTO₃
  refine wpAny_bind (wpAny_letGo (wpAny_pure ?_))

  refine wpAny_bind (wpAny_bind (wpAny_onRaise ?_))
  show wpAny _ _ (Builtin.SmallTypes.nextOf (.ref i2) >>= _) _ _ _
  refine wpAny_bind (nextOf_sq_item (((h2.extBut hs₁.extBut D.i2z).extBut hs₂.extBut D.i12.symm).extBut hs₃.extBut D.TOi2.symm)
    (((hl2.extBut hs₁.extBut D.l2z).extBut hs₂.extBut D.l2i1).extBut hs₃.extBut D.l2TO) hy fun h₄ h2₄ hs₄ => wpAny_pure ?_)
  have hTO₄ : IsPair h₄ TO x b := hs₄.extBut _ _ D.TOi2 hTO₃
  refine wpAny_bind (wpAny_seqItems hTO₄ rfl ?_)
  refine wpAny_bind (wpAny_updateSeq_pair hTO₄ fun h₅ hTO₅ hs₅ => ?_)
  replace hTO₅ : IsPair h₅ TO x y := hTO₅
  refine wpAny_bind (wpAny_letGo (wpAny_pure (wpAny_pure ?_)))

  refine wpAny_bind (wpAny_seqItems hTO₅ rfl ?_)
  refine wpAny_bind (wpAny_newTuple ?_)
  have hsz : h₅.objs.size = s.heap.objs.size := by rw [hs₅.1, hs₄.1, hs₃.1, hs₂.1, hs₁.1]
  have hz₅ : IsZip h₅ z TI TO .ellipsis := hs₅.extBut _ _ D.TOz.symm (hs₄.extBut _ _ D.i2z.symm (hs₃.extBut _ _ D.TOz.symm (hs₂.extBut _ _ D.i1z.symm hz₁)))
  have hk₅ : ∀ c o, c ≠ z → c ≠ TO → c ≠ i1 → c ≠ i2 → s.heap.get? c = some o → h₅.get? c = some o := fun c o c1 c2 c3 c4 e =>
    hs₅.extBut _ _ c2 (hs₄.extBut _ _ c4 (hs₃.extBut _ _ c2 (hs₂.extBut _ _ c3 (hs₁.extBut _ _ c1 e))))
  have h1₅ : SqI b1 h₅ i1 l1 (k1 + 1) := ((h1₂.extBut hs₃.extBut D.TOi1.symm).extBut hs₄.extBut D.i12).extBut hs₅.extBut D.TOi1.symm
  have h2₅ : SqI b2 h₅ i2 l2 (k2 + 1) := h2₄.extBut hs₅.extBut D.TOi2.symm
  have hzlt : z < h₅.objs.size := Heap.lt_size hz₅
  have hTOlt : TO < h₅.objs.size := Heap.lt_size hTO₅
  have hi1lt : i1 < h₅.objs.size := by exact h1₅.lt
  have hi2lt : i2 < h₅.objs.size := by exact h2₅.lt
  show wpAny _ _ (Builtin.SmallTypes.ownedTupleHandOut (.ref z) (.ref h₅.objs.size) >>= _) _ _ _
  refine wpAny_bind ?_
  unfold Builtin.SmallTypes.ownedTupleHandOut
  have hz₆ : IsZip (h₅.push { cls := .type "tuple", data := .seq #[x, y] }) z TI TO .ellipsis := Heap.get?_push_of_some _ hz₅
  refine wpAny_bind (wpAny_setField_rec hz₆ (by simp) fun h₇ hz₇ hs₇ => ?_)
  replace hz₇ : IsZip h₇ z TI TO (rawInt h₅.objs.size) := hz₇
  refine wpAny_setField_rec hz₇ (by simp) fun h₈ hz₈ hs₈ => ?_
  replace hz₈ : IsZip h₈ z TI TO (rawInt h₅.objs.size) := hz₈
  have up : ∀ c o, c ≠ z → h₅.get? c = some o → h₈.get? c = some o := fun c o c1 e => hs₈.extBut _ _ c1 (hs₇.extBut _ _ c1 (Heap.get?_push_of_some _ e))
  have hT₈ : IsPair h₈ h₅.objs.size x y := hs₈.extBut _ _ (Nat.ne_of_gt hzlt) (hs₇.extBut _ _ (Nat.ne_of_gt hzlt) (Heap.get?_push_size _ rfl))
  have hz8 : h₈.objs.size = h₅.objs.size + 1 := by rw [hs₈.1, hs₇.1, Heap.size_push]
  rw [hsz] at hz₈ hT₈ hz8
  refine wpAny_pure ⟨_, rfl, ?_⟩
  show Q (.ref h₅.objs.size) _
  rw [hsz]
  exact hQ h₈ hz₈ (up _ _ D.TOz hTO₅) (h1₅.at fun o e => up _ o D.i1z e) (h2₅.at fun o e => up _ o D.i2z e) hT₈ hz8 fun c o c1 c2 c3 c4 e => up c o c1 (hk₅ c o c1 c2 c3 c4 e)

theorem zipM_next_end {b1 b2 : Bool} {z TI TO i1 i2 l1 l2 : Addr} {k1 k2 : Nat} {xs ys : Array Value} {a b : Value} {Q : Fin → Shared → Prop} (hh : A.handled = none) (D : ZipApart z TI TO i1 i2 l1 l2)
    (hz : IsZip s.heap z TI TO .none) (hTI : IsPair s.heap TI (.ref i1) (.ref i2)) (hTO : IsPair s.heap TO a b)
    (h1 : SqI b1 s.heap i1 l1 k1) (h2 : SqI b2 s.heap i2 l2 k2) (hl1 : SqO b1 s.heap l1 xs) (hl2 : SqO b2 s.heap l2 ys) (hend : xs[k1]? = none ∨ ys[k2]? = none)
    (hE : ∀ h' e, (∀ c o, c ≠ z → c ≠ TO → c ≠ i1 → c ≠ i2 → s.heap.get? c = some o → h'.get? c = some o) → (∃ o, h'.get? e = some o ∧ o.cls = .type "StopIteration") → E (.ref e) { s with heap := h' }) :
    wpAny (model prog w) A (Builtin.«zip.__next__» ⟨[.ref z], []⟩) Q E s := by
  show wpAny _ _ (field (.ref z) 2 >>= _) _ _ _
  refine wpAny_bind (wpAny_field hz rfl (x := .bool false) rfl ?_)
  show wpAny _ _ (field (.ref z) 3 >>= _) _ _ _
  refine wpAny_bind (wpAny_field hz rfl (x := .ref TI) rfl ?_)
  refine wpAny_bind (wpAny_seqItems hTI rfl ?_)
  show wpAny _ _ (Builtin.SmallTypes.ownedTupleIsFree (.ref z) >>= _) _ _ _
  refine wpAny_bind ?_
  unfold Builtin.SmallTypes.ownedTupleIsFree
  refine wpAny_bind (wpAny_field hz rfl (x := .none) rfl (wpAny_pure ?_))
  simp only [if_true]
  refine wpAny_bind (wpAny_rule ?_)
  refine wpAny_bind (wpAny_field hz rfl (x := .ref TO) rfl ?_)
  refine wpAny_bind (wpAny_setField_rec hz (by simp) fun h₁ hz₁ hs₁ => ?_)
  replace hz₁ : IsZip h₁ z TI TO .ellipsis := hz₁
  refine wpAny_bind ?_
  simp only [List.zipIdx_cons, List.zipIdx_nil, List.forIn_cons, List.forIn_nil]
  refine wpAny_bind (wpAny_bind (wpAny_onRaise ?_))
  show wpAny _ _ (Builtin.SmallTypes.nextOf (.ref i1) >>= _) _ _ _
  cases hx : xs[k1]? with
  | none =>
    refine wpAny_bind (nextOf_sq_end hh (h1.extBut hs₁.extBut D.i1z) (hl1.extBut hs₁.extBut D.l1z) hx fun h₂ e hs₂ he => ?_)
    obtain ⟨oe, hoe, hce⟩ := he
    have hz₂ : IsZip h₂ z TI TO .ellipsis := hs₂ _ _ D.i1z.symm hz₁
    have hez : e ≠ z := fun x => by subst x; rw [hz₂] at hoe; cases hoe; simp at hce
    refine wpAny_setField_rec hz₂ (by simp) fun h₃ _ hs₃ => hE h₃ e (fun c o c1 _ c3 _ x => hs₃.extBut _ _ c1 (hs₂ _ _ c3 (hs₁.extBut _ _ c1 x))) ⟨oe, hs₃.extBut _ _ hez hoe, hce⟩
  | some x =>
    have hy : ys[k2]? = none := by rcases hend with h | h; rw [hx] at h; cases h; exact h
    refine wpAny_bind (nextOf_sq_item (h1.extBut hs₁.extBut D.i1z) (hl1.extBut hs₁.extBut D.l1z) hx fun h₂ h1₂ hs₂ => wpAny_pure ?_)
    have hTO₂ : IsPair h₂ TO a b := hs₂.extBut _ _ D.TOi1 (hs₁.extBut _ _ D.TOz hTO)
    refine wpAny_bind (wpAny_seqItems hTO₂ rfl ?_)
    refine wpAny_bind (wpAny_updateSeq_pair hTO₂ fun h₃ hTO₃ hs₃ => ?_)
    refine wpAny_bind (wpAny_letGo (wpAny_pure ?_))
    refine wpAny_bind (wpAny_bind (wpAny_onRaise ?_))
    show wpAny _ _ (Builtin.SmallTypes.nextOf (.ref i2) >>= _) _ _ _
    refine wpAny_bind (nextOf_sq_end hh (((h2.extBut hs₁.extBut D.i2z).extBut hs₂.extBut D.i12.symm).extBut hs₃.extBut D.TOi2.symm)
      (((hl2.extBut hs₁.extBut D.l2z).extBut hs₂.extBut D.l2i1).extBut hs₃.extBut D.l2TO) hy fun h₄ e hs₄ he => ?_)
    obtain ⟨oe, hoe, hce⟩ := he
    have hz₄ : IsZip h₄ z TI TO .ellipsis := hs₄ _ _ D.i2z.symm (hs₃.extBut _ _ D.TOz.symm (hs₂.extBut _ _ D.i1z.symm hz₁))
    have hez : e ≠ z := fun x => by subst x; rw [hz₄] at hoe; cases hoe; simp at hce
    refine wpAny_setField_rec hz₄ (by simp) fun h₅ _ hs₅ => hE h₅ e (fun c o c1 c2 c3 c4 x => hs₅.extBut _ _ c1 (hs₄ _ _ c4 (hs₃.extBut _ _ c2 (hs₂.extBut _ _ c3 (hs₁.extBut _ _ c1 x))))) ⟨oe, hs₅.extBut _ _ hez hoe, hce⟩

theorem pyNext_zipM_item {b1 b2 : Bool} {z TI TO i1 i2 l1 l2 : Addr} {k1 k2 : Nat} {xs ys : Array Value} {x y a b : Value} {Q : Option Value → Shared → Prop} (D : ZipApart z TI TO i1 i2 l1 l2)
    (hz : IsZip s.heap z TI TO .none) (hTI : IsPair s.heap TI (.ref i1) (.ref i2)) (hTO : IsPair s.heap TO a b)
    (h1 : SqI b1 s.heap i1 l1 k1) (h2 : SqI b2 s.heap i2 l2 k2) (hl1 : SqO b1 s.heap l1 xs) (hl2 : SqO b2 s.heap l2 ys) (hx : xs[k1]? = some x) (hy : ys[k2]? = some y)
    (hQ : ∀ h', IsZip h' z TI TO (rawInt s.heap.objs.size) → IsPair h' TO x y → SqI b1 h' i1 l1 (k1 + 1) → SqI b2 h' i2 l2 (k2 + 1) → IsPair h' s.heap.objs.size x y → h'.objs.size = s.heap.objs.size + 1 →
      (∀ c o, c ≠ z → c ≠ TO → c ≠ i1 → c ≠ i2 → s.heap.get? c = some o → h'.get? c = some o) → Q (some (.ref s.heap.objs.size)) { s with heap := h' }) :
    wpAny (model prog w) A (pyNext (.ref z)) Q E s := by
  have hT : s.TypeIs (.ref z) "zip" := ⟨_, hz, rfl⟩
  unfold pyNext
  exact wpAny_bind (wpAny_attempt (wpAny_callSpecial?_slot (name := Str.ofString "__next__") hT F.slot_zip_next
    (wpAny_call_entry F.slot_zip_next hT F.entry_zip_next
      (zipM_next_item D hz hTI hTO h1 h2 hl1 hl2 hx hy fun h' a1 a2 a3 a4 a5 a6 a7 => wpAny_pure (hQ h' a1 a2 a3 a4 a5 a6 a7)) (F.args_zip_next_1 _))))

theorem pyNext_zipM_end {b1 b2 : Bool} {z TI TO i1 i2 l1 l2 : Addr} {k1 k2 : Nat} {xs ys : Array Value} {a b : Value} {Q : Option Value → Shared → Prop} (hh : A.handled = none) (D : ZipApart z TI TO i1 i2 l1 l2)
    (hz : IsZip s.heap z TI TO .none) (hTI : IsPair s.heap TI (.ref i1) (.ref i2)) (hTO : IsPair s.heap TO a b)
    (h1 : SqI b1 s.heap i1 l1 k1) (h2 : SqI b2 s.heap i2 l2 k2) (hl1 : SqO b1 s.heap l1 xs) (hl2 : SqO b2 s.heap l2 ys) (hend : xs[k1]? = none ∨ ys[k2]? = none)
    (hQ : ∀ h', (∀ c o, c ≠ z → c ≠ TO → c ≠ i1 → c ≠ i2 → s.heap.get? c = some o → h'.get? c = some o) → Q none { s with heap := h' }) : wpAny (model prog w) A (pyNext (.ref z)) Q E s := by
  have hT : s.TypeIs (.ref z) "zip" := ⟨_, hz, rfl⟩
  unfold pyNext
  refine wpAny_bind (wpAny_attempt (wpAny_callSpecial?_slot (name := Str.ofString "__next__") hT F.slot_zip_next
    (wpAny_call_entry F.slot_zip_next hT F.entry_zip_next (zipM_next_end hh D hz hTI hTO h1 h2 hl1 hl2 hend fun h' e hk he => ?_) (F.args_zip_next_1 _))))
  obtain ⟨o, ho, hc⟩ := he
  refine wpAny_bind (wpAny_isInstance (T := "StopIteration") (b := true) ⟨o, ho, hc⟩ isSubtype_stop ?_)
  exact wpAny_pure (hQ _ hk)
end

abbrev zH1 (b1 : Bool) (h : Heap) (l1 : Addr) : Heap := h.push { cls := .type (itn b1), data := .fields #[.ref l1, .int 0 0] }
abbrev zH2 (b1 b2 : Bool) (h : Heap) (l1 l2 : Addr) : Heap := (zH1 b1 h l1).push { cls := .type (itn b2), data := .fields #[.ref l2, .int 0 0] }
abbrev zH3 (b1 b2 : Bool) (h : Heap) (l1 l2 : Addr) : Heap := (zH2 b1 b2 h l1 l2).push { cls := .type "tuple", data := .seq #[.ref h.objs.size, .ref (zH1 b1 h l1).objs.size] }
abbrev zH4 (b1 b2 : Bool) (h : Heap) (l1 l2 : Addr) : Heap := (zH3 b1 b2 h l1 l2).push { cls := .type "tuple", data := .seq #[.none, .none] }
abbrev zH5 (b1 b2 : Bool) (h : Heap) (l1 l2 : Addr) : Heap := (zH4 b1 b2 h l1 l2).push { cls := .type "zip", data := .fields #[.none, .bool false, .bool false, .ref (zH2 b1 b2 h l1 l2).objs.size, .ref (zH3 b1 b2 h l1 l2).objs.size] }
theorem meets_zipM_new (b1 b2 : Bool) (l1 l2 : Addr) (xs ys : Array Value) :
    Meets (Builtin.«zip.__new__» ⟨[.type "zip", .ref l1, .ref l2], []⟩) (fun _ R s => SqO b1 s.heap l1 xs ∧ SqO b2 s.heap l2 ys ∧
      R (.ok (.ret (.ref (zH4 b1 b2 s.heap l1 l2).objs.size))) { s with heap := zH5 b1 b2 s.heap l1 l2 }) := by
  cases b1 with
  | true =>
    cases b2 with
    | true => exact meets_zip_new l1 l2 xs ys
    | false =>
      exact .of_wp fun prog w A R s h => by
        obtain ⟨hp, g, d, tk, os⟩ := s; obtain ⟨hl1, hl2, h⟩ := h
        have hsub := sub_zip
        have hL1 : Heap.IsList (Shared.heap ⟨hp, g, d, tk, os⟩) l1 xs := hl1
        have hL2 : Heap.IsTuple (Shared.heap ⟨hp.push { cls := .type "list_iterator", data := .fields #[.ref l1, .int 0 0] }, g, d, tk, os⟩) l2 ys := Heap.IsTuple.push hl2 _
        wp_walk using wpAny_pyIter_list hL1, wpAny_pyIter_tuple hL2
        exact ⟨_, rfl, h⟩
  | false =>
    cases b2 with
    | false => exact RZ.meets_zipT_new l1 l2 xs ys
    | true =>
      exact .of_wp fun prog w A R s h => by
        obtain ⟨hp, g, d, tk, os⟩ := s; obtain ⟨hl1, hl2, h⟩ := h
        have hsub := sub_zip
        have hL1 : Heap.IsTuple (Shared.heap ⟨hp, g, d, tk, os⟩) l1 xs := hl1
        have hL2 : Heap.IsList (Shared.heap ⟨hp.push { cls := .type "tuple_iterator", data := .fields #[.ref l1, .int 0 0] }, g, d, tk, os⟩) l2 ys := Heap.IsList.push hl2 _
        wp_walk using wpAny_pyIter_tuple hL1, wpAny_pyIter_list hL2
        exact ⟨_, rfl, h⟩
section
variable {prog : Program} {w : World} {A : Around} {E : Value → Shared → Prop} {s : Shared}
theorem call_zipM {b1 b2 : Bool} {l1 l2 : Addr} {xs ys : Array Value} {Q : Value → Shared → Prop} (hl1 : SqO b1 s.heap l1 xs) (hl2 : SqO b2 s.heap l2 ys)
    (h : ∀ h', IsZip h' (s.heap.objs.size + 4) (s.heap.objs.size + 2) (s.heap.objs.size + 3) .none → IsPair h' (s.heap.objs.size + 2) (.ref s.heap.objs.size) (.ref (s.heap.objs.size + 1)) →
      IsPair h' (s.heap.objs.size + 3) .none .none → SqI b1 h' s.heap.objs.size l1 0 → SqI b2 h' (s.heap.objs.size + 1) l2 0 → h'.objs.size = s.heap.objs.size + 5 →
      (∀ c o, s.heap.get? c = some o → h'.get? c = some o) → Q (.ref (s.heap.objs.size + 4)) { s with heap := h' }) :
    wpAny (model prog w) A (call (.type "zip") [.ref l1, .ref l2]) Q E s := by
  refine callType_new F.called_zip (by decide) (F.typeCall_zip_2 _ _) (F.newCall_zip_2 _ _) (fun obj => F.args_object_init_3 obj _ _) F.entry_zip_new
    (meets_zipM_new b1 b2 l1 l2 xs ys) ⟨hl1, hl2, ?_⟩
  have z1 : (zH1 b1 s.heap l1).objs.size = s.heap.objs.size + 1 := Heap.size_push ..
  have z2 : (zH2 b1 b2 s.heap l1 l2).objs.size = s.heap.objs.size + 2 := by rw [Heap.size_push, z1]
  have z3 : (zH3 b1 b2 s.heap l1 l2).objs.size = s.heap.objs.size + 3 := by rw [Heap.size_push, z2]
  have z4 : (zH4 b1 b2 s.heap l1 l2).objs.size = s.heap.objs.size + 4 := by rw [Heap.size_push, z3]
  have z5 : (zH5 b1 b2 s.heap l1 l2).objs.size = s.heap.objs.size + 5 := by rw [Heap.size_push, z4]
  have g5 : (zH5 b1 b2 s.heap l1 l2).get? (zH4 b1 b2 s.heap l1 l2).objs.size = some _ := Heap.get?_push_size _ rfl
  have g4 : (zH5 b1 b2 s.heap l1 l2).get? (zH3 b1 b2 s.heap l1 l2).objs.size = some _ := Heap.get?_push_of_some _ (Heap.get?_push_size _ rfl)
  have g3 : (zH5 b1 b2 s.heap l1 l2).get? (zH2 b1 b2 s.heap l1 l2).objs.size = some _ := Heap.get?_push_of_some _ (Heap.get?_push_of_some _ (Heap.get?_push_size _ rfl))
  have g2 : (zH5 b1 b2 s.heap l1 l2).get? (zH1 b1 s.heap l1).objs.size = some _ := Heap.get?_push_of_some _ (Heap.get?_push_of_some _ (Heap.get?_push_of_some _ (Heap.get?_push_size _ rfl)))
  have g1 : (zH5 b1 b2 s.heap l1 l2).get? s.heap.objs.size = some _ := Heap.get?_push_of_some _ (Heap.get?_push_of_some _ (Heap.get?_push_of_some _ (Heap.get?_push_of_some _ (Heap.get?_push_size _ rfl))))
  show _ ∧ _
  rw [z2, z3, z4] at g5
  rw [z1, z2] at g3
  rw [z3] at g4
  rw [z1] at g2
  rw [z4]
  exact ⟨⟨_, g5, rfl⟩, h _ g5 g3 g4 (SqI.of g1) (SqI.of g2) z5 fun c o x =>
    Heap.get?_push_of_some _ (Heap.get?_push_of_some _ (Heap.get?_push_of_some _ (Heap.get?_push_of_some _ (Heap.get?_push_of_some _ x))))⟩
end
/-- the row at a: a list (true) or a tuple -/
def SqB (b : Bool) (K : PySem.W.Frag) (H : Hp) (a : Addr) (xs : List V) : Prop := match b with
  | true => SqL K H a xs
  | false => SqT K H a xs
theorem SqB.out {b : Bool} {X : Cx} {pins : List (Addr × Obj)} {σ : L2.St} {H : Hp} {s : Shared} {a : Addr} {xs : List V} (I : Inv X pins σ H s) (q : SqB b X.K H a xs) : ∃ its, Vals xs its ∧ SqO b s.heap a its.toArray := by
  cases b
  · obtain ⟨its, rv, p, _⟩ := I.tuple q
    exact ⟨its, rv, p⟩
  · obtain ⟨its, rv, p, _⟩ := I.list q
    exact ⟨its, rv, p.isList⟩
theorem SqB.inj {b : Bool} {X : Cx} {pins : List (Addr × Obj)} {σ : L2.St} {H : Hp} {s : Shared} {a : Addr} {xs ys : List V} (I : Inv X pins σ H s) (q : SqB b X.K H a xs) (r : SqB b X.K H a ys) : xs = ys := by
  cases b
  · exact I.tuple_inj q r
  · exact I.list_inj q r
theorem SqO.lt {b : Bool} {h : Heap} {a : Addr} {xs : Array Value} (p : SqO b h a xs) : a < h.objs.size := by
  cases b
  · obtain ⟨_, e, _⟩ := p
    exact Heap.lt_size e
  · obtain ⟨_, e, _⟩ := p
    exact Heap.lt_size e
/-- the rows at a and b as they stand at each turn, the items in new pairs -/
def Itz (b1 b2 : Bool) (K : PySem.W.Frag) (a b : Addr) : It :=
  ⟨fun i H => ∃ (xs ys : List V) (x y : V), SqB b1 K H a xs ∧ SqB b2 K H b ys ∧ xs[i]? = some x ∧ ys[i]? = some y,
    fun i H v H' => ∃ T x y, v = .ref T ∧ H T = none ∧ H' = upd H T (.tup [x, y]) ∧ (∀ xs, SqB b1 K H a xs → xs[i]? = some x) ∧ ∀ ys, SqB b2 K H b ys → ys[i]? = some y,
    fun i H => ∃ xs ys : List V, SqB b1 K H a xs ∧ SqB b2 K H b ys ∧ (xs.length ≤ i ∨ ys.length ≤ i)⟩
theorem turn_zip {b1 b2 : Bool} {P : Program} {w : World} {K : PySem.W.Frag} {elts : List Expr} {kk : Nat} {tpos : Pos} {a b z TI TO i1 i2 : Addr} (D : ZipApart z TI TO i1 i2 a b) :
    Turn P w K (.Tuple elts kk tpos) (Itz b1 b2 K a b) [z, TI, TO, i1, i2] z (fun i h => IsZip h z TI TO .none ∧ IsPair h TI (.ref i1) (.ref i2) ∧ (∃ x y, IsPair h TO x y) ∧ SqI b1 h i1 a i ∧ SqI b2 h i2 b i) where
  mem := by simp
  obj := fun i h st c hc => by
    obtain ⟨hz, hTI, ⟨x, y, hTO⟩, h1, h2⟩ := st
    have e' : c = z ∨ c = TI ∨ c = TO ∨ c = i1 ∨ c = i2 := by simpa using hc
    rcases e' with q | q | q | q | q
    · rw [q]; exact ⟨_, hz, fun v q => nomatch q⟩
    · rw [q]; exact ⟨_, hTI, fun v q => nomatch q⟩
    · rw [q]; exact ⟨_, hTO, fun v q => nomatch q⟩
    · rw [q]; exact h1.obj
    · rw [q]; exact h2.obj
  keep := fun i h h' st k => by
    obtain ⟨hz, hTI, ⟨x, y, hTO⟩, h1, h2⟩ := st
    exact ⟨k z (by simp) _ hz, k TI (by simp) _ hTI, ⟨x, y, k TO (by simp) _ hTO⟩, h1.at fun o q => k i1 (by simp) o q, h2.at fun o q => k i2 (by simp) o q⟩
  item := by
    intro X hP hw hK hc i pins s σ H E I hf st hg
    subst hP hw hK
    obtain ⟨hz, hTI, ⟨x0, y0, hTO⟩, h1, h2⟩ := st
    obtain ⟨xs, ys, x, y, hqx, hqy, hx, hy⟩ := hg
    obtain ⟨its, rv, p⟩ := SqB.out I hqx
    obtain ⟨its2, rv2, p2⟩ := SqB.out I hqy
    obtain ⟨u, hu, ru⟩ := rv.get hx
    obtain ⟨u2, hu2, ru2⟩ := rv2.get hy
    have hzl : z < s.heap.objs.size := Heap.lt_size hz
    refine pyNext_zipM_item D hz hTI hTO h1 h2 p p2 (x := u) (y := u2) (by simpa using hu) (by simpa using hu2) fun h' z' TO' h1' h2' hT hsz hk => ?_
    refine ⟨_, rfl, wpAny_letOwnedTupleGo_zip (s := { s with heap := h' }) z' fun h'' z'' sb => ?_⟩
    have hT2 : h''.get? s.heap.objs.size = some { cls := .type "tuple", data := .seq #[u, u2] } := (sb.2 _ (Nat.ne_of_gt hzl)).trans hT
    have new : ObjOk X.prog X.w (upd H s.heap.objs.size (.tup [x, y])) h'' s.heap.objs.size (.tup [x, y]) :=
      ⟨by show 2 ≤ sizeLine; decide, [u, u2], .cons ru (.cons ru2 .nil), ⟨_, hT2, rfl, _, rfl⟩⟩
    have I1 : Inv X pins σ (upd H s.heap.objs.size (.tup [x, y])) { s with heap := h'' } :=
      I.turnedNew (t' := s.toks) (ch := [z, TI, TO, i1, i2]) (fun c o hb q => (sb.2 c (fun q' => hb (by simp [q']))).trans (hk c o (fun q' => hb (by simp [q'])) (fun q' => hb (by simp [q'])) (fun q' => hb (by simp [q'])) (fun q' => hb (by simp [q'])) q)) hf (Nat.le_refl _) new
    refine ⟨.ref s.heap.objs.size, _, I1, rfl, ⟨_, x, y, rfl, I.hok.fresh (Nat.le_refl _), rfl, fun l hl => by rw [SqB.inj I hl hqx]; exact hx, fun l hl => by rw [SqB.inj I hl hqy]; exact hy⟩, ⟨z'', ?_, ⟨u, u2, ?_⟩, ?_, ?_⟩, fun c hcm => ?_⟩
    · exact (sb.2 _ D.TIz).trans (hk _ _ D.TIz D.TITO D.TIi1 D.TIi2 hTI)
    · exact (sb.2 _ D.TOz).trans TO'
    · exact h1'.at fun o q => (sb.2 _ D.i1z).trans q
    · exact h2'.at fun o q => (sb.2 _ D.i2z).trans q
    · have hlt : c < s.heap.objs.size := by
        have e' : c = z ∨ c = TI ∨ c = TO ∨ c = i1 ∨ c = i2 := by simpa using hcm
        rcases e' with q | q | q | q | q
        · rw [q]; exact hzl
        · rw [q]; exact Heap.lt_size hTI
        · rw [q]; exact Heap.lt_size hTO
        · rw [q]; exact h1.lt
        · rw [q]; exact h2.lt
      rw [upd_ne (Nat.ne_of_lt hlt)]
      exact (hf c hcm).1
  done := by
    intro X hP hw hK hc i pins s σ H E I hf st hg
    subst hP hw hK
    obtain ⟨hz, hTI, ⟨x0, y0, hTO⟩, h1, h2⟩ := st
    obtain ⟨xs, ys, hqx, hqy, hend⟩ := hg
    obtain ⟨its, rv, p⟩ := SqB.out I hqx
    obtain ⟨its2, rv2, p2⟩ := SqB.out I hqy
    have l1 := rv.length
    have l2 := rv2.length
    have he : its.toArray[i]? = none ∨ its2.toArray[i]? = none := by
      rcases hend with q | q
      · exact .inl (by simp; omega)
      · exact .inr (by simp; omega)
    exact pyNext_zipM_end (I.ok.hd hc) D hz hTI hTO h1 h2 p p2 he fun h' hk => ⟨rfl, I.turnedL (t' := s.toks) (ch := [z, TI, TO, i1, i2]) (fun c o hb q =>
      hk c o (fun q' => hb (by simp [q'])) (fun q' => hb (by simp [q'])) (fun q' => hb (by simp [q'])) (fun q' => hb (by simp [q'])) q) hf⟩
  self := fun A i s Q E st h => wpAny_pyIter_zip st.1 h

def iZip (K : PySem.W.Frag) (ta : TA) : TI := fun σ H R => ta σ H fun vs H1 => ∃ (b1 b2 : Bool) (a b : Addr) (xs ys : List V), vs = [.ref a, .ref b] ∧ SqB b1 K H1 a xs ∧ SqB b2 K H1 b ys ∧ R (Itz b1 b2 K a b) H1
theorem pi_zip {X : Cx} {e e2 : Expr} {ta : TA} {p pos tpos : Pos} {elts : List Expr} {kk : Nat} (hg : Gl X "zip") (hm : X.mg "zip" = none) (ha : PA X [e, e2] ta)
    (hs : starEach [e, e2] X.env = (false, eval e X.env) :: starEach [e2] X.env := by rfl) (hpl : (backTo pos (starEach [e2] X.env)).any (·.1) = false := by rfl) :
    PI X (.Tuple elts kk tpos) (.Call (.Name "zip" p) [e, e2] [] pos) (iZip X.K ta) := by
  refine ⟨fun pins s σ H R I h => ?_⟩
  refine Call_ (ld_blt I hg hm PyProof.Rows.boot_zip (PyProof.Rows.callWith_type1 (thn (ha.run pos pins s σ H _ I h) fun us s1 ⟨vs, H1, I1, r1, q1⟩ => ?_) hs hpl))
  obtain ⟨b1, b2, a, b, xs, ys, ex, hqx, hqy, q⟩ := q1
  subst ex
  cases r1 with
  | cons r rr =>
    cases rr with
    | cons r' rr =>
      cases rr
      cases r
      cases r'
      have fresh5 : ∀ c, c ∈ [s1.heap.objs.size + 4, s1.heap.objs.size + 2, s1.heap.objs.size + 3, s1.heap.objs.size, s1.heap.objs.size + 1] → FpOk X pins H1 c := fun c hcm => by
        have hle : s1.heap.objs.size ≤ c := by
          simp only [List.mem_cons, List.not_mem_nil, or_false] at hcm
          rcases hcm with z | z | z | z | z <;> rw [z] <;> first | exact Nat.le_refl _ | exact Nat.le_add_right _ _
        exact I1.fpOk hle (I1.hok.fresh hle)
      obtain ⟨its, rv, p1⟩ := SqB.out I1 hqx
      obtain ⟨its2, rv2, p2⟩ := SqB.out I1 hqy
      refine call_zipM p1 p2 fun h' hz hTI hTO h1 h2 hsz hk => wpAny_pyIter_zip hz ?_
      have I2 : Inv X pins σ H1 { s1 with heap := h' } := I1.kept (t' := s1.toks) hk
      exact ⟨s1.heap.objs.size + 4, [s1.heap.objs.size + 4, s1.heap.objs.size + 2, s1.heap.objs.size + 3, s1.heap.objs.size, s1.heap.objs.size + 1], _, _, H1, rfl, I2, turn_zip (PySem.W.ktu_apart s1.heap.objs.size a b p1.lt p2.lt), ⟨hz, hTI, ⟨_, _, hTO⟩, h1, h2⟩, fresh5, q⟩
end ZM
namespace L3
open PySem PySem.Spec PyProof.Rows L2
section
variable {K : PySem.W.Frag} {E : WX} {Ψ : PX} {ρ : Env3} {M : Mem}
theorem Seq.vB {F F0 H : Hp} {Mf : Mem} {v : V} {x : D} {xs : List D} (q : Seq M x xs) (r : RD K F0 v x) (e : Same F0 F) (s : StC K F H (M ++ Mf)) : ∃ a vs, v = .ref a ∧ ZM.SqB (isL x) K H a vs ∧ RDs K F vs xs := by
  cases hb : isL x with
  | true => exact q.vL hb (r.mono e) s
  | false =>
    cases x with
    | tup dx =>
      cases q
      cases r with
      | tup ht rs => exact ⟨_, _, rfl, sqt_mono (e.trans s.sub) ht, rs.mono e⟩
    | _ => first | exact absurd hb (by intro z; exact Bool.noConfusion z) | cases q
theorem WI.zipM {ta : TA} {Θ : Src → Mem → Prop} (h : WA K E ta ρ M (fun zs M1 => ∃ x y xs ys, zs = [x, y] ∧ Seq M1 x xs ∧ Seq M1 y ys ∧ Θ ⟨zipD xs ys, fun M => Seq M x xs ∧ Seq M y ys⟩ M1) Ψ) : WI K E (ZM.iZip K ta) ρ M Θ Ψ := fun σ F H Mf R e s k q =>
  h σ F H Mf _ e s k fun vs zs F1 H1 M1 ⟨x, y, xs, ys, ey, hx, hy, h1⟩ r1 s1 c1 => by
    subst ey
    cases r1 with
    | cons r rr =>
      cases rr with
      | cons r2 rr =>
        cases rr
        obtain ⟨a, vs, rfl, hl, rs⟩ := hx.vB r (Same.refl _) c1
        obtain ⟨b, ws, rfl, hl2, rs2⟩ := hy.vB r2 (Same.refl _) c1
        refine ⟨isL x, isL y, a, b, vs, ws, rfl, hl, hl2, q _ F1 H1 M1 _ h1 s1 c1 fun F' H' M' Mf' e' s' n => ?_⟩
        obtain ⟨a', vs', e1, hl', rs'⟩ := Seq.vB n.1 r e' s'
        cases e1
        obtain ⟨b', ws', e1, hl2', rs2'⟩ := Seq.vB n.2 r2 e' s'
        cases e1
        refine ⟨fun i hi => ?_, fun i hi => ⟨vs', ws', hl', hl2', ?_⟩, fun i z v H'' hz yl => ?_⟩
        · rw [zipD_len] at hi
          have h1 : i < vs'.length := by rw [rs'.len]; omega
          have h2 : i < ws'.length := by rw [rs2'.len]; omega
          exact ⟨vs', ws', vs'[i], ws'[i], hl', hl2', List.getElem?_eq_getElem h1, List.getElem?_eq_getElem h2⟩
        · rw [zipD_len] at hi
          rw [rs'.len, rs2'.len]
          omega
        · obtain ⟨T, z1, z2, rfl, hT, rfl, hz1, hz2⟩ := yl
          obtain ⟨x2, y2, hx2, hy2, rfl⟩ := zipD_get hz
          obtain ⟨u, hu, ru⟩ := rs'.get hx2
          rw [hz1 vs' hl'] at hu
          cases hu
          obtain ⟨u, hu, ru2⟩ := rs2'.get hy2
          rw [hz2 ws' hl2'] at hu
          cases hu
          exact ⟨_, s'.sameF hT, s'.newF hT, .tup (.inl (.inl upd_same)) (.cons (ru.mono (s'.sameF hT)) (.cons (ru2.mono (s'.sameF hT)) .nil))⟩
end
section
variable {X : Cx} (K : PySem.W.Frag)
theorem q_zipM {e e2 : Expr} {ta : TA} {p pos tpos : Pos} {elts : List Expr} {kk : Nat} (hg : Gl X "zip") (hm : X.mg "zip" = none) (ha : PA X [e, e2] ta)
    (hs : starEach [e, e2] X.env = (false, eval e X.env) :: starEach [e2] X.env := by rfl) (hpl : (backTo pos (starEach [e2] X.env)).any (·.1) = false := by rfl) (eK : X.K = K := by rfl) :
    PI X (.Tuple elts kk tpos) (.Call (.Name "zip" p) [e, e2] [] pos) (ZM.iZip K ta) := by subst eK; exact ZM.pi_zip hg hm ha hs hpl
end
theorem zipM_i {M : Mem} {x y : D} {xs ys : List D} {P : D → D → List D → List D → Prop} (hx : Seq M x xs) (hy : Seq M y ys) (h : P x y xs ys) : ∃ x' y' xs ys, [x, y] = [x', y'] ∧ Seq M x' xs ∧ Seq M y' ys ∧ P x' y' xs ys := ⟨x, y, xs, ys, rfl, hx, hy, h⟩
end L3

/-! list.count, list.index of rows of truths. -/
namespace L3
open PySem PySem.Spec PyProof.Rows L2
section
variable {X : Cx}
def rCntF (K : PySem.W.Frag) : V → List V → Hp → VK → Prop := fun x xs H Q => ∃ (a : Addr) (ys : List V) (y : V), x = V.ref a ∧ xs = [y] ∧ SqL K H a ys ∧ flatV y = true ∧ ys.all flatV = true ∧ Q (.int (ys.countP fun z => eqV z y : Nat)) H
theorem cnt_eqU {y : V} : ∀ {ys : List V} {us : List Value}, Vals ys us → ys.all flatV = true → us.countP (eqU y) = ys.countP fun z => eqV z y
  | _, _, .nil, _ => rfl
  | z :: ys, u :: us, .cons r t, f => by
    rw [List.all_cons, Bool.and_eq_true] at f
    rw [List.countP_cons, List.countP_cons, cnt_eqU t f.2, eqU_of r f.1]
theorem mt_cntF : MtR X "list.count" (rCntF X.K) := by
  intro pins s σ H x xs v us Q I rx rxs h
  obtain ⟨a, ys, y, rfl, rfl, hs, fy, fys, q⟩ := h
  cases rx
  obtain ⟨u, rfl, ru⟩ := rxs.one
  obtain ⟨its, rv, ⟨⟨cls, dd, data, sl⟩, n, ho, hc, hdn, hd⟩, hlen⟩ := I.list hs
  simp only at hc hd
  subst hc hd
  refine call_meets PySem.F.slot_list_count ⟨_, ho, rfl⟩ PySem.F.entry_list_count (PySem.F.args_list_count_2 _ _)
    (SeqAt.list_countAt a its.toArray n dd sl u (eqU y)) ⟨ho, fun u' hu' => mem_eqAt ru fy rv fys u' (by simpa using hu'), ?_⟩
  have ec : its.toArray.toList.countP (eqU y) = ys.countP fun z => eqV z y := cnt_eqU rv fys
  refine ⟨.int (ys.countP fun z => eqV z y : Nat), H, I.tok _, ⟨s.toks, ?_⟩, q⟩
  show Value.int ((its.toArray.toList.countP (eqU y) : Nat) : Int) s.toks = Value.int ((ys.countP fun z => eqV z y : Nat) : Int) s.toks
  rw [ec]
end
def mCount (K : PySem.W.Frag) : V → List V → Hp → VK → Prop := rCntF K
theorem q_count (K : PySem.W.Frag) {X : Cx} (e : X.K = K := by rfl) : MtR X "list.count" (mCount K) := by subst e; exact mt_cntF
def mIndex (K : PySem.W.Frag) : V → List V → Hp → VK → Prop := rIndex K
theorem q_index (K : PySem.W.Frag) {X : Cx} (e : X.K = K := by rfl) : MtR X "list.index" (mIndex K) := by subst e; exact mt_index
section
variable {K : PySem.W.Frag} {M : Mem} {Φ : D → Mem → Prop}
theorem rds_bl {F : Hp} : ∀ {bs : List Bool} {vs : List V}, RDs K F vs (bs.map D.bl) → vs = bs.map V.bl
  | [], _, .nil => rfl
  | b :: bs, _, .cons r t => by
    cases r
    rw [rds_bl t, List.map_cons]
theorem flat_bl (bs : List Bool) : (bs.map V.bl).all flatV = true := List.all_eq_true.mpr fun x hx => by
  obtain ⟨b, _, rfl⟩ := List.mem_map.mp hx
  rfl
theorem MtD.cntB {x : D} {bs : List Bool} {b : Bool} (hs : Seq M x (bs.map D.bl)) (hl : isL x = true) (h : Φ (.int (bs.count b : Nat)) M) : MtD K (mCount K) x [.bl b] M Φ := fun F H Mf v vs Q r rs s k => by
  cases rs with
  | cons ry rr =>
    cases rr
    cases ry
    obtain ⟨a, ws, rfl, e, rw'⟩ := hs.vL hl r s
    have ew := rds_bl rw'
    subst ew
    refine ⟨a, _, .bl b, rfl, rfl, e, rfl, flat_bl bs, ?_⟩
    have ec : (bs.map V.bl).countP (fun z => eqV z (.bl b)) = bs.count b := by
      rw [List.countP_map]
      rfl
    rw [ec]
    exact k _ _ F _ _ h (.int _) (Same.refl _) s
theorem MtD.idxB {x : D} {bs : List Bool} {b : Bool} {j : Nat} (hs : Seq M x (bs.map D.bl)) (hl : isL x = true) (hj : bs[j]? = some b) (hn : ∀ m : Nat, m < j → bs[m]? ≠ some b) (h : Φ (.int (j : Nat)) M) : MtD K (mIndex K) x [.bl b] M Φ := fun F H Mf v vs Q r rs s k => by
  cases rs with
  | cons ry rr =>
    cases rr
    cases ry
    obtain ⟨a, ws, rfl, e, rw'⟩ := hs.vL hl r s
    have ew := rds_bl rw'
    subst ew
    refine ⟨a, _, .bl b, j, .bl b, rfl, rfl, e, rfl, flat_bl bs, by rw [List.getElem?_map, hj]; rfl, by show (b == b) = true; exact beq_self_eq_true b, fun m z' hm hz => ?_, k _ _ F _ _ h (.int _) (Same.refl _) s⟩
    rw [List.getElem?_map] at hz
    cases hb : bs[m]? with
    | none => rw [hb] at hz; cases hz
    | some c =>
      rw [hb] at hz
      cases hz
      refine beq_eq_false_iff_ne.mpr fun e2 => hn m hm ?_
      rw [hb, e2]
end
/-! ### a text times an int; {} as data -/
section
variable {X : Cx}
def rMulS : R2 := fun x y H Q => ∃ (a : Str) (n : Int), x = V.str a ∧ y = V.int n ∧ MulOk a n ∧ Q (.str (Txt.mul a n)) H
theorem op_mulS : OpR X (binaryOp .Mult) rMulS := by
  intro pins s σ H x y v u Q I rx ry h
  obtain ⟨a, n, rfl, rfl, hok, q⟩ := h
  obtain ⟨t, rfl⟩ := rx
  obtain ⟨t', rfl⟩ := ry
  exact SB.mul hok fun t2 k => ⟨.str _, H, I.tok _, ⟨_, rfl⟩, q⟩
def oMulS : R2 := rMulS
theorem q_mulS : OpR X (binaryOp .Mult) oMulS := op_mulS
def tDF (t : TE) : TE := t
theorem q_dF {e : Expr} {t : TE} (h : PE X e t) : PE X e (tDF t) := h
end
section
variable {K : PySem.W.Frag} {E : WX} {Ψ : PX} {ρ : Env3} {M : Mem} {Φ : D → Mem → Prop}
theorem OpD.mulS {a : Str} {n : Int} (hok : MulOk a n) (h : Φ (.str (Txt.mul a n)) M) : OpD K oMulS (.str a) (.int n) M Φ := fun F H Mf v u Q r1 r2 s k => by
  cases r1
  cases r2
  exact ⟨a, n, rfl, rfl, hok, k _ _ F H M h (.str _) (Same.refl _) s⟩
theorem W.dF (h : Φ (.dic []) M) : W K E (tDF tDNewK) ρ M Φ Ψ := fun σ F H Mf Q a s k q p hp =>
  q _ _ _ _ M h (.dic upd_same .nil) (s.sameF hp) (s.newF hp)
end
theorem cutD_mem {xs : List D} {lo hi : Option Int} {y : D} (h : y ∈ cutD xs lo hi) : y ∈ xs := List.mem_of_mem_drop (List.mem_of_mem_take h)
theorem cutD_len {xs : List D} {lo hi : Option Int} : (cutD xs lo hi).length ≤ xs.length := by
  unfold cutD
  rw [List.length_take, List.length_drop]
  omega
/-! ### xs == [], whatever stands in xs -/
section
variable {X : Cx}
def rEqE (K : PySem.W.Frag) : R2 := fun x y H Q => ∃ (a b : Addr) (xs : List V), x = .ref a ∧ y = .ref b ∧ SqL K H a xs ∧ SqL K H b [] ∧ 0 < xs.length ∧ Q (.bl false) H
theorem op_eqE (hu : X.A.units + 64 < cLine) : OpR X (compareOp .Eq) (rEqE X.K) := by
  intro pins s σ H x y v u Q I rx ry h
  obtain ⟨a, b, xs, rfl, rfl, ha, hb, hn, q⟩ := h
  obtain rfl : v = Value.ref a := rx
  obtain rfl : u = Value.ref b := ry
  obtain ⟨its, rv, p, _⟩ := I.list ha
  obtain ⟨its2, rv2, p2, _⟩ := I.list hb
  have l1 := rv.length
  cases rv2
  refine SeqAt.eq_list_lengthsAt p.isList p2.isList ?_ (by omega) ⟨.bl _, H, I, rfl, q⟩
  have : its.length ≠ 0 := by omega
  simpa using this
def oEqE (K : PySem.W.Frag) : R2 := rOr (oEq K) (rEqE K)
theorem q_eqE (K : PySem.W.Frag) (hu : X.A.units + 64 < cLine) (e : X.K = K := by rfl) : OpR X (compareOp .Eq) (oEqE K) := by subst e; exact opOr (q_eq X.K hu) (op_eqE hu)
end
theorem OpD.eqE {K : PySem.W.Frag} {M : Mem} {Φ : D → Mem → Prop} {x : D} {xs : List D} (q : Seq M x xs) (hl : isL x = true) (h : Φ (.bl (decide (xs = []))) M) : OpD K (oEqE K) x (.lst []) M Φ := fun F H Mf v u Q r1 r2 s k => by
  obtain ⟨a, vs, rfl, e1, rs⟩ := q.vL hl r1 s
  obtain ⟨b, ws, rfl, e2, rs2⟩ := Seq.vL (.lst []) rfl r2 s
  cases rs2
  cases rs with
  | nil => exact .inl ⟨.list [], .list [], .lst e1 .nil, .lst e2 .nil, by decide +kernel, by decide +kernel, k _ _ F H M h (.bl _) (Same.refl _) s⟩
  | cons r t => exact .inr ⟨a, b, _, rfl, rfl, e1, e2, Nat.succ_pos _, k _ _ F H M (by simpa using h) (.bl _) (Same.refl _) s⟩
/-- for k in range(..) of a number drawn in the head itself -/
theorem S.forQ {K : PySem.W.Frag} {E : WX} {Ψ : PX} {ρ : Env3} {M : Mem} {N B C : Env3 → Mem → Prop} {R : D → Mem → Prop} {wi : TI} {g : TG} {tb : TS} {σ : Type} (env : σ → Env3) (mem : σ → Mem) (I : Nat → σ → Prop)
    (h : WI K E wi ρ M (fun s M1 => ∃ n : Nat, ForG K E g tb N R Ψ ρ env mem I s M1 (List.range n) (fun k : Nat => D.int (k : Int))) Ψ) : WS K E (tFor wi g tb) ρ M ⟨N, R, B, C⟩ Ψ := by
  refine S.forI env mem I fun σ F H Mf Q a s k q => h σ F H Mf Q a s k fun sr F' H' M' J ⟨n, p⟩ s' c' jr => q sr F' H' M' J ?_ s' c' jr
  have ei := p.it.eq
  have el : sr.its.length = (List.range n).length := by rw [ei, List.length_map]
  refine ⟨p.start, fun i st _ => p.need i st, ?_, ?_⟩
  · intro i x st hx hI
    rw [ei, List.getElem?_map] at hx
    cases e : (List.range n)[i]? with
    | none => rw [e] at hx; cases hx
    | some a =>
      rw [e] at hx
      cases hx
      exact p.turn i a st e hI
  · intro st hI
    rw [el] at hI
    exact p.k st hI
end L3

/-! own rows of an own list: any data stored into one; all rows frozen. -/
namespace L3
open PySem PySem.Spec PyProof.Rows L2
section
variable {K : PySem.W.Frag}
theorem StC.rows {F H : Hp} : ∀ (rs : List (Addr × List D)) {F : Hp} {M : Mem}, StC K F H (rs.map (fun p => (p.1, O.lst p.2)) ++ M) → ∃ F', Same F F' ∧ StC K F' H M ∧ RDs K F' (rs.map fun p => V.ref p.1) (rs.map fun p => D.lst p.2)
  | [], F, M, s => ⟨F, Same.refl _, s, .nil⟩
  | r :: rs, F, M, s => by
    obtain ⟨vs, ev, rv, s2, c2⟩ := StC.frozen (A := []) s
    obtain ⟨F', e, c, q⟩ := StC.rows (F := F) rs c2
    exact ⟨F', s2.trans e, c, .cons (.lst (e _ _ upd_same) ((rv.mono s2).mono e)) q⟩
theorem rds_refs {F : Hp} : ∀ {rs : List (Addr × List D)} {vs : List V}, RDs K F vs (rs.map fun p => D.ref p.1) → vs = rs.map fun p => V.ref p.1
  | [], _, .nil => rfl
  | r :: rs, _, .cons q t => by
    cases q
    rw [rds_refs t, List.map_cons]
/-- the rows of an own list of own rows are data from here on; the list itself stays our own -/
theorem StC.frz {F H : Hp} {g : Addr} {rs : List (Addr × List D)} {M : Mem} (s : StC K F H ((g, .grd rs) :: M)) : ∃ F', Same F F' ∧ StC K F' H ((g, .lst (rs.map fun p => .lst p.2)) :: M) := by
  have s1 := StC.grd.mp s
  have s2 : StC K F H (rs.map (fun p => (p.1, O.lst p.2)) ++ (g, .lst (rs.map fun p => .ref p.1)) :: M) := s1.perm List.perm_middle.symm
  obtain ⟨F', e, c, q⟩ := StC.rows (F := F) rs s2
  refine ⟨F', e, ?_⟩
  have e1 : ∀ zs, exM ((g, O.lst zs) :: M) = (g, O.lst zs) :: exM M := fun zs => exM_one rfl
  unfold StC at c ⊢
  rw [e1] at c ⊢
  refine ⟨c.sub, fun p o hm => ?_, ?_, c.ntb⟩
  · rcases List.mem_cons.mp hm with hm | hm
    · cases hm
      obtain ⟨n, ho, eh, r⟩ := c.own g _ List.mem_cons_self
      refine ⟨n, ho, eh, ?_⟩
      cases ho with
      | lst vs =>
        have ev := rds_refs (show RDs K F' vs (rs.map fun p => D.ref p.1) from r)
        subst ev
        exact q
      | _ => exact absurd r (by intro z; exact z)
    · exact c.own p o (List.mem_cons_of_mem _ hm)
  · exact c.nd
end
section
variable {K : PySem.W.Frag} {E : WX} {Ψ : PX} {ρ : Env3} {M : Mem} {d : DD}
theorem WS.frz {t : TS} {g : Addr} {rs : List (Addr × List D)} {fn : O → Mem} (hm : Sp g (.grd rs) M fn) (h : WS K E t ρ (fn (.lst (rs.map fun p => .lst p.2))) d Ψ) : WS K E t ρ M d Ψ := fun σ F H Mf e a s k q => by
  obtain ⟨A, B, rfl, rfl⟩ := hm.split
  have s1 : StC K F H ((g, .grd rs) :: (A ++ (B ++ Mf))) := by
    refine s.perm ?_
    rw [List.append_assoc, List.cons_append]
    exact List.perm_middle
  obtain ⟨F', e1, c⟩ := s1.frz
  refine h σ F' H Mf e (a.mono e1) (c.perm ?_) (k.mono e1) (q.mono e1)
  rw [List.append_assoc, List.cons_append]
  exact List.perm_middle.symm
/-- xs[y][i] = d, the row an own one of an own list -/
theorem StD.rowD {g p : Addr} {r1 r2 : List (Addr × List D)} {xs : List D} {i : Int} {x : D} {fn : O → Mem} {P : Mem → Prop} (hm : Sp g (.grd (r1 ++ (p, xs) :: r2)) M fn) (h0 : 0 ≤ i) (h2 : i < (xs.length : Int)) (k : P (fn (.grd (r1 ++ (p, xs.set i.toNat x) :: r2)))) : StD K (.ref p) (.int i) x M P := fun F H Mf u1 u2 u3 Q q q1 q2 s kk => by
  cases q
  cases q1
  obtain ⟨ws, e1, rw'⟩ := own_lstX s (grd_row hm.mem (List.mem_append_right _ List.mem_cons_self))
  have hl1 := rw'.len
  refine ⟨_, ws, i, i.toNat, rfl, rfl, e1, ixN_nat h0 (by omega), kk _ _ k ?_⟩
  obtain ⟨A, B, rfl, rfl⟩ := hm.split
  rw [List.append_assoc, List.cons_append] at s ⊢
  exact s.putRow (rw'.set q2 _)
end
end L3

/-! zip whose pairs are kept by a name (for pair in zip(..)): the pair handed out last is not taken again. -/
namespace ZM
open PySem PySem.Spec PyProof.Rows L2
open PySem.Sem (wp)
abbrev IsZipN (h : Heap) (z TI TO : Addr) (f0 : Value) (b : Bool) : Prop :=
  h.get? z = some { cls := .type "zip", dict := none, data := .fields #[f0, .bool b, .bool false, .ref TI, .ref TO], slots := #[] }
section
variable {prog : Program} {w : World} {A : Around} {E : Value → Shared → Prop} {s : Shared}
theorem wpAny_loadIfAlive {a : Addr} {Q : Option Obj → Shared → Prop} (h : Q (s.heap.get? a) s) : wpAny (model prog w) A (loadIfAlive a) Q E s := fun Γ p hΓ => by
  unfold loadIfAlive
  rw [Sem.wp_loadIfAlive]
  exact wpAny_pure (M := model prog w) (A := A) (E := E) h Γ p hΓ
theorem own_free {z TI TO : Addr} {f0 : Value} {b : Bool} {Q : Bool → Shared → Prop} (hz : IsZipN s.heap z TI TO f0 b) (hf : f0 = .none ∨ ∃ T : Addr, f0 = rawInt T ∧ s.heap.get? T = none) (h : Q true s) :
    wpAny (model prog w) A (Builtin.SmallTypes.ownedTupleIsFree (.ref z)) Q E s := by
  unfold Builtin.SmallTypes.ownedTupleIsFree
  rcases hf with rfl | ⟨T, rfl, hT⟩
  · exact wpAny_bind (wpAny_field hz rfl (x := .none) rfl (wpAny_pure h))
  · refine wpAny_bind (wpAny_field hz rfl (x := rawInt T) rfl ?_)
    show wpAny _ _ (loadIfAlive ((T : Int).toNat) >>= _) _ _ _
    refine wpAny_bind (wpAny_loadIfAlive ?_)
    rw [Int.toNat_natCast, hT]
    exact wpAny_pure h
theorem own_not {z TI TO T : Addr} {b : Bool} {o : Obj} {Q : Bool → Shared → Prop} (hz : IsZipN s.heap z TI TO (rawInt T) b) (hT : s.heap.get? T = some o)
    (h : ∀ h', IsZipN h' z TI TO (rawInt T) true → Heap.SameBut z s.heap h' → Q false { s with heap := h' }) :
    wpAny (model prog w) A (Builtin.SmallTypes.ownedTupleIsFree (.ref z)) Q E s := by
  unfold Builtin.SmallTypes.ownedTupleIsFree
  refine wpAny_bind (wpAny_field hz rfl (x := rawInt T) rfl ?_)
  show wpAny _ _ (loadIfAlive ((T : Int).toNat) >>= _) _ _ _
  refine wpAny_bind (wpAny_loadIfAlive ?_)
  rw [Int.toNat_natCast, hT]
  show wpAny _ _ (field (.ref z) 1 >>= _) _ _ _
  refine wpAny_bind (wpAny_field hz rfl (x := .bool b) rfl ?_)
  cases b with
  | true => exact wpAny_pure (h s.heap hz (Heap.SameBut.refl _ _))
  | false =>
    refine wpAny_bind (wpAny_setField_rec hz (by simp) fun h₁ hz₁ hs₁ => wpAny_pure (h h₁ hz₁ hs₁))
theorem zipN_free_item {b1 b2 bb : Bool} {f0 : Value} {z TI TO i1 i2 l1 l2 : Addr} {k1 k2 : Nat} {xs ys : Array Value} {x y a b : Value} {Q : Value → Shared → Prop} (D : ZipApart z TI TO i1 i2 l1 l2)
    (hz : IsZipN s.heap z TI TO f0 bb) (hf : f0 = .none ∨ ∃ T : Addr, f0 = rawInt T ∧ s.heap.get? T = none) (hTI : IsPair s.heap TI (.ref i1) (.ref i2)) (hTO : IsPair s.heap TO a b)
    (h1 : SqI b1 s.heap i1 l1 k1) (h2 : SqI b2 s.heap i2 l2 k2) (hl1 : SqO b1 s.heap l1 xs) (hl2 : SqO b2 s.heap l2 ys) (hx : xs[k1]? = some x) (hy : ys[k2]? = some y)
    (hQ : ∀ h', IsZipN h' z TI TO (rawInt s.heap.objs.size) false → IsPair h' TO x y → SqI b1 h' i1 l1 (k1 + 1) → SqI b2 h' i2 l2 (k2 + 1) → IsPair h' s.heap.objs.size x y → h'.objs.size = s.heap.objs.size + 1 →
      (∀ c o, c ≠ z → c ≠ TO → c ≠ i1 → c ≠ i2 → s.heap.get? c = some o → h'.get? c = some o) → Q (.ref s.heap.objs.size) { s with heap := h' }) :
    wpAny (model prog w) A (Builtin.«zip.__next__» ⟨[.ref z], []⟩) (fun fin s' => ∃ v, fin = .done (.ret v) ∧ Q v s') E s := by
  show wpAny _ _ (field (.ref z) 2 >>= _) _ _ _
  refine wpAny_bind (wpAny_field hz rfl (x := .bool false) rfl ?_)
  show wpAny _ _ (field (.ref z) 3 >>= _) _ _ _
  refine wpAny_bind (wpAny_field hz rfl (x := .ref TI) rfl ?_)
  refine wpAny_bind (wpAny_seqItems hTI rfl ?_)
  show wpAny _ _ (Builtin.SmallTypes.ownedTupleIsFree (.ref z) >>= _) _ _ _
  refine wpAny_bind (own_free hz hf ?_)
  simp only [if_true]
  refine wpAny_bind (wpAny_rule ?_)
  refine wpAny_bind (wpAny_field hz rfl (x := .ref TO) rfl ?_)
  refine wpAny_bind (wpAny_setField_rec hz (by simp) fun h₁ hz₁ hs₁ => ?_)
  replace hz₁ : IsZipN h₁ z TI TO .ellipsis bb := hz₁
  refine wpAny_bind ?_
  simp only [List.zipIdx_cons, List.zipIdx_nil, List.forIn_cons, List.forIn_nil]

  refine wpAny_bind (wpAny_bind (wpAny_onRaise ?_))
  show wpAny _ _ (Builtin.SmallTypes.nextOf (.ref i1) >>= _) _ _ _
  refine wpAny_bind (nextOf_sq_item (h1.extBut hs₁.extBut D.i1z) (hl1.extBut hs₁.extBut D.l1z) hx fun h₂ h1₂ hs₂ => wpAny_pure ?_)
  have hTO₂ : IsPair h₂ TO a b := hs₂.extBut _ _ D.TOi1 (hs₁.extBut _ _ D.TOz hTO)
  refine wpAny_bind (wpAny_seqItems hTO₂ rfl ?_)
  refine wpAny_bind (wpAny_updateSeq_pair hTO₂ fun h₃ hTO₃ hs₃ => ?_)
  replace hTO₃ : IsPair h₃ TO x b := hTO₃
  refine wpAny_bind (wpAny_letGo (wpAny_pure ?_))

  refine wpAny_bind (wpAny_bind (wpAny_onRaise ?_))
  show wpAny _ _ (Builtin.SmallTypes.nextOf (.ref i2) >>= _) _ _ _
  refine wpAny_bind (nextOf_sq_item (((h2.extBut hs₁.extBut D.i2z).extBut hs₂.extBut D.i12.symm).extBut hs₃.extBut D.TOi2.symm)
    (((hl2.extBut hs₁.extBut D.l2z).extBut hs₂.extBut D.l2i1).extBut hs₃.extBut D.l2TO) hy fun h₄ h2₄ hs₄ => wpAny_pure ?_)
  have hTO₄ : IsPair h₄ TO x b := hs₄.extBut _ _ D.TOi2 hTO₃
  refine wpAny_bind (wpAny_seqItems hTO₄ rfl ?_)
  refine wpAny_bind (wpAny_updateSeq_pair hTO₄ fun h₅ hTO₅ hs₅ => ?_)
  replace hTO₅ : IsPair h₅ TO x y := hTO₅
  refine wpAny_bind (wpAny_letGo (wpAny_pure (wpAny_pure ?_)))

  refine wpAny_bind (wpAny_seqItems hTO₅ rfl ?_)
  refine wpAny_bind (wpAny_newTuple ?_)
  have hsz : h₅.objs.size = s.heap.objs.size := by rw [hs₅.1, hs₄.1, hs₃.1, hs₂.1, hs₁.1]
  have hz₅ : IsZipN h₅ z TI TO .ellipsis bb := hs₅.extBut _ _ D.TOz.symm (hs₄.extBut _ _ D.i2z.symm (hs₃.extBut _ _ D.TOz.symm (hs₂.extBut _ _ D.i1z.symm hz₁)))
  have hk₅ : ∀ c o, c ≠ z → c ≠ TO → c ≠ i1 → c ≠ i2 → s.heap.get? c = some o → h₅.get? c = some o := fun c o c1 c2 c3 c4 e =>
    hs₅.extBut _ _ c2 (hs₄.extBut _ _ c4 (hs₃.extBut _ _ c2 (hs₂.extBut _ _ c3 (hs₁.extBut _ _ c1 e))))
  have h1₅ : SqI b1 h₅ i1 l1 (k1 + 1) := ((h1₂.extBut hs₃.extBut D.TOi1.symm).extBut hs₄.extBut D.i12).extBut hs₅.extBut D.TOi1.symm
  have h2₅ : SqI b2 h₅ i2 l2 (k2 + 1) := h2₄.extBut hs₅.extBut D.TOi2.symm
  have hzlt : z < h₅.objs.size := Heap.lt_size hz₅
  have hTOlt : TO < h₅.objs.size := Heap.lt_size hTO₅
  have hi1lt : i1 < h₅.objs.size := by exact h1₅.lt
  have hi2lt : i2 < h₅.objs.size := by exact h2₅.lt
  show wpAny _ _ (Builtin.SmallTypes.ownedTupleHandOut (.ref z) (.ref h₅.objs.size) >>= _) _ _ _
  refine wpAny_bind ?_
  unfold Builtin.SmallTypes.ownedTupleHandOut
  have hz₆ : IsZipN (h₅.push { cls := .type "tuple", data := .seq #[x, y] }) z TI TO .ellipsis bb := Heap.get?_push_of_some _ hz₅
  refine wpAny_bind (wpAny_setField_rec hz₆ (by simp) fun h₇ hz₇ hs₇ => ?_)
  replace hz₇ : IsZipN h₇ z TI TO (rawInt h₅.objs.size) bb := hz₇
  refine wpAny_setField_rec hz₇ (by simp) fun h₈ hz₈ hs₈ => ?_
  replace hz₈ : IsZipN h₈ z TI TO (rawInt h₅.objs.size) false := hz₈
  have up : ∀ c o, c ≠ z → h₅.get? c = some o → h₈.get? c = some o := fun c o c1 e => hs₈.extBut _ _ c1 (hs₇.extBut _ _ c1 (Heap.get?_push_of_some _ e))
  have hT₈ : IsPair h₈ h₅.objs.size x y := hs₈.extBut _ _ (Nat.ne_of_gt hzlt) (hs₇.extBut _ _ (Nat.ne_of_gt hzlt) (Heap.get?_push_size _ rfl))
  have hz8 : h₈.objs.size = h₅.objs.size + 1 := by rw [hs₈.1, hs₇.1, Heap.size_push]
  rw [hsz] at hz₈ hT₈ hz8
  refine wpAny_pure ⟨_, rfl, ?_⟩
  show Q (.ref h₅.objs.size) _
  rw [hsz]
  exact hQ h₈ hz₈ (up _ _ D.TOz hTO₅) (h1₅.at fun o e => up _ o D.i1z e) (h2₅.at fun o e => up _ o D.i2z e) hT₈ hz8 fun c o c1 c2 c3 c4 e => up c o c1 (hk₅ c o c1 c2 c3 c4 e)

theorem zipN_kept_item {b1 b2 bb : Bool} {z TI TO T i1 i2 l1 l2 : Addr} {o : Obj} {k1 k2 : Nat} {xs ys : Array Value} {x y a b : Value} {Q : Value → Shared → Prop} (D : ZipApart z TI TO i1 i2 l1 l2)
    (hz : IsZipN s.heap z TI TO (rawInt T) bb) (hT : s.heap.get? T = some o) (hTI : IsPair s.heap TI (.ref i1) (.ref i2)) (hTO : IsPair s.heap TO a b)
    (h1 : SqI b1 s.heap i1 l1 k1) (h2 : SqI b2 s.heap i2 l2 k2) (hl1 : SqO b1 s.heap l1 xs) (hl2 : SqO b2 s.heap l2 ys) (hx : xs[k1]? = some x) (hy : ys[k2]? = some y)
    (hQ : ∀ h', IsZipN h' z TI TO (rawInt T) true → IsPair h' TO a b → SqI b1 h' i1 l1 (k1 + 1) → SqI b2 h' i2 l2 (k2 + 1) → IsPair h' s.heap.objs.size x y → h'.objs.size = s.heap.objs.size + 1 →
      (∀ c o, c ≠ z → c ≠ TO → c ≠ i1 → c ≠ i2 → s.heap.get? c = some o → h'.get? c = some o) → Q (.ref s.heap.objs.size) { s with heap := h' }) :
    wpAny (model prog w) A (Builtin.«zip.__next__» ⟨[.ref z], []⟩) (fun fin s' => ∃ v, fin = .done (.ret v) ∧ Q v s') E s := by
  show wpAny _ _ (field (.ref z) 2 >>= _) _ _ _
  refine wpAny_bind (wpAny_field hz rfl (x := .bool false) rfl ?_)
  show wpAny _ _ (field (.ref z) 3 >>= _) _ _ _
  refine wpAny_bind (wpAny_field hz rfl (x := .ref TI) rfl ?_)
  refine wpAny_bind (wpAny_seqItems hTI rfl ?_)
  show wpAny _ _ (Builtin.SmallTypes.ownedTupleIsFree (.ref z) >>= _) _ _ _
  refine wpAny_bind (own_not hz hT fun h₁ hz₁ hs₁ => ?_)
  simp only [Bool.false_eq_true, if_false]
  refine wpAny_bind ?_
  simp only [← Array.forIn_toList, List.forIn_cons, List.forIn_nil]
  refine wpAny_bind (wpAny_bind (wpAny_holding ?_))
  show wpAny _ _ (Builtin.SmallTypes.nextOf (.ref i1) >>= _) _ _ _
  refine wpAny_bind (nextOf_sq_item (h1.extBut hs₁.extBut D.i1z) (hl1.extBut hs₁.extBut D.l1z) hx fun h₂ h1₂ hs₂ => wpAny_pure ?_)
  refine wpAny_pure ?_
  refine wpAny_bind (wpAny_bind (wpAny_holding ?_))
  show wpAny _ _ (Builtin.SmallTypes.nextOf (.ref i2) >>= _) _ _ _
  refine wpAny_bind (nextOf_sq_item ((h2.extBut hs₁.extBut D.i2z).extBut hs₂.extBut D.i12.symm) ((hl2.extBut hs₁.extBut D.l2z).extBut hs₂.extBut D.l2i1) hy fun h₃ h2₃ hs₃ => wpAny_pure ?_)
  refine wpAny_pure (wpAny_pure ?_)
  refine wpAny_bind (wpAny_newTuple (hsz := by show 2 ≤ sizeLine; decide) ?_)
  have hsz : h₃.objs.size = s.heap.objs.size := by rw [hs₃.1, hs₂.1, hs₁.1]
  have hz₃ : IsZipN h₃ z TI TO (rawInt T) true := hs₃.extBut _ _ D.i2z.symm (hs₂.extBut _ _ D.i1z.symm hz₁)
  have hTO₃ : IsPair h₃ TO a b := hs₃.extBut _ _ D.TOi2 (hs₂.extBut _ _ D.TOi1 (hs₁.extBut _ _ D.TOz hTO))
  have h1₃ : SqI b1 h₃ i1 l1 (k1 + 1) := h1₂.extBut hs₃.extBut D.i12
  have hk₃ : ∀ c o, c ≠ z → c ≠ TO → c ≠ i1 → c ≠ i2 → s.heap.get? c = some o → h₃.get? c = some o := fun c o c1 c2 c3 c4 e => hs₃.extBut _ _ c4 (hs₂.extBut _ _ c3 (hs₁.extBut _ _ c1 e))
  have hn : IsPair (h₃.push { cls := .type "tuple", data := .seq #[x, y] }) s.heap.objs.size x y := by
    have := Heap.get?_push_size h₃ (o := { cls := .type "tuple", data := .seq #[x, y] }) rfl
    rw [hsz] at this
    exact this
  refine wpAny_pure ⟨_, rfl, ?_⟩
  show Q (.ref h₃.objs.size) _
  rw [hsz]
  exact hQ _ (Heap.get?_push_of_some _ hz₃) (Heap.get?_push_of_some _ hTO₃) (h1₃.at fun o e => Heap.get?_push_of_some _ e) (h2₃.at fun o e => Heap.get?_push_of_some _ e) hn (by rw [Heap.size_push, hsz]) fun c o c1 c2 c3 c4 e => Heap.get?_push_of_some _ (hk₃ c o c1 c2 c3 c4 e)
theorem zipN_kept_end {b1 b2 bb : Bool} {z TI TO T i1 i2 l1 l2 : Addr} {o : Obj} {k1 k2 : Nat} {xs ys : Array Value} {a b : Value} {Q : Fin → Shared → Prop} (hh : A.handled = none) (D : ZipApart z TI TO i1 i2 l1 l2)
    (hz : IsZipN s.heap z TI TO (rawInt T) bb) (hT : s.heap.get? T = some o) (hTI : IsPair s.heap TI (.ref i1) (.ref i2)) (hTO : IsPair s.heap TO a b)
    (h1 : SqI b1 s.heap i1 l1 k1) (h2 : SqI b2 s.heap i2 l2 k2) (hl1 : SqO b1 s.heap l1 xs) (hl2 : SqO b2 s.heap l2 ys) (hend : xs[k1]? = none ∨ ys[k2]? = none)
    (hE : ∀ h' e, (∀ c o, c ≠ z → c ≠ TO → c ≠ i1 → c ≠ i2 → s.heap.get? c = some o → h'.get? c = some o) → (∃ o, h'.get? e = some o ∧ o.cls = .type "StopIteration") → E (.ref e) { s with heap := h' }) :
    wpAny (model prog w) A (Builtin.«zip.__next__» ⟨[.ref z], []⟩) Q E s := by
  show wpAny _ _ (field (.ref z) 2 >>= _) _ _ _
  refine wpAny_bind (wpAny_field hz rfl (x := .bool false) rfl ?_)
  show wpAny _ _ (field (.ref z) 3 >>= _) _ _ _
  refine wpAny_bind (wpAny_field hz rfl (x := .ref TI) rfl ?_)
  refine wpAny_bind (wpAny_seqItems hTI rfl ?_)
  show wpAny _ _ (Builtin.SmallTypes.ownedTupleIsFree (.ref z) >>= _) _ _ _
  refine wpAny_bind (own_not hz hT fun h₁ hz₁ hs₁ => ?_)
  simp only [Bool.false_eq_true, if_false]
  refine wpAny_bind ?_
  simp only [← Array.forIn_toList, List.forIn_cons, List.forIn_nil]
  refine wpAny_bind (wpAny_bind (wpAny_holding ?_))
  show wpAny _ _ (Builtin.SmallTypes.nextOf (.ref i1) >>= _) _ _ _
  cases hx : xs[k1]? with
  | none =>
    exact wpAny_bind (nextOf_sq_end hh (h1.extBut hs₁.extBut D.i1z) (hl1.extBut hs₁.extBut D.l1z) hx fun h₂ e hs₂ he => hE h₂ e (fun c o c1 _ c3 _ x => hs₂ _ _ c3 (hs₁.extBut _ _ c1 x)) he)
  | some x =>
    have hy : ys[k2]? = none := by rcases hend with h | h; rw [hx] at h; cases h; exact h
    refine wpAny_bind (nextOf_sq_item (h1.extBut hs₁.extBut D.i1z) (hl1.extBut hs₁.extBut D.l1z) hx fun h₂ h1₂ hs₂ => wpAny_pure ?_)
    refine wpAny_pure ?_
    refine wpAny_bind (wpAny_bind (wpAny_holding ?_))
    show wpAny _ _ (Builtin.SmallTypes.nextOf (.ref i2) >>= _) _ _ _
    exact wpAny_bind (nextOf_sq_end hh ((h2.extBut hs₁.extBut D.i2z).extBut hs₂.extBut D.i12.symm) ((hl2.extBut hs₁.extBut D.l2z).extBut hs₂.extBut D.l2i1) hy fun h₃ e hs₃ he => hE h₃ e (fun c o c1 c2 c3 c4 x => hs₃ _ _ c4 (hs₂.extBut _ _ c3 (hs₁.extBut _ _ c1 x))) he)
theorem zipN_free_end {b1 b2 bb : Bool} {f0 : Value} {z TI TO i1 i2 l1 l2 : Addr} {k1 k2 : Nat} {xs ys : Array Value} {a b : Value} {Q : Fin → Shared → Prop} (hh : A.handled = none) (D : ZipApart z TI TO i1 i2 l1 l2)
    (hz : IsZipN s.heap z TI TO f0 bb) (hf : f0 = .none ∨ ∃ T : Addr, f0 = rawInt T ∧ s.heap.get? T = none) (hTI : IsPair s.heap TI (.ref i1) (.ref i2)) (hTO : IsPair s.heap TO a b)
    (h1 : SqI b1 s.heap i1 l1 k1) (h2 : SqI b2 s.heap i2 l2 k2) (hl1 : SqO b1 s.heap l1 xs) (hl2 : SqO b2 s.heap l2 ys) (hend : xs[k1]? = none ∨ ys[k2]? = none)
    (hE : ∀ h' e, (∀ c o, c ≠ z → c ≠ TO → c ≠ i1 → c ≠ i2 → s.heap.get? c = some o → h'.get? c = some o) → (∃ o, h'.get? e = some o ∧ o.cls = .type "StopIteration") → E (.ref e) { s with heap := h' }) :
    wpAny (model prog w) A (Builtin.«zip.__next__» ⟨[.ref z], []⟩) Q E s := by
  show wpAny _ _ (field (.ref z) 2 >>= _) _ _ _
  refine wpAny_bind (wpAny_field hz rfl (x := .bool false) rfl ?_)
  show wpAny _ _ (field (.ref z) 3 >>= _) _ _ _
  refine wpAny_bind (wpAny_field hz rfl (x := .ref TI) rfl ?_)
  refine wpAny_bind (wpAny_seqItems hTI rfl ?_)
  show wpAny _ _ (Builtin.SmallTypes.ownedTupleIsFree (.ref z) >>= _) _ _ _
  refine wpAny_bind (own_free hz hf ?_)
  simp only [if_true]
  refine wpAny_bind (wpAny_rule ?_)
  refine wpAny_bind (wpAny_field hz rfl (x := .ref TO) rfl ?_)
  refine wpAny_bind (wpAny_setField_rec hz (by simp) fun h₁ hz₁ hs₁ => ?_)
  replace hz₁ : IsZipN h₁ z TI TO .ellipsis bb := hz₁
  refine wpAny_bind ?_
  simp only [List.zipIdx_cons, List.zipIdx_nil, List.forIn_cons, List.forIn_nil]
  refine wpAny_bind (wpAny_bind (wpAny_onRaise ?_))
  show wpAny _ _ (Builtin.SmallTypes.nextOf (.ref i1) >>= _) _ _ _
  cases hx : xs[k1]? with
  | none =>
    refine wpAny_bind (nextOf_sq_end hh (h1.extBut hs₁.extBut D.i1z) (hl1.extBut hs₁.extBut D.l1z) hx fun h₂ e hs₂ he => ?_)
    obtain ⟨oe, hoe, hce⟩ := he
    have hz₂ : IsZipN h₂ z TI TO .ellipsis bb := hs₂ _ _ D.i1z.symm hz₁
    have hez : e ≠ z := fun x => by subst x; rw [hz₂] at hoe; cases hoe; simp at hce
    refine wpAny_setField_rec hz₂ (by simp) fun h₃ _ hs₃ => hE h₃ e (fun c o c1 _ c3 _ x => hs₃.extBut _ _ c1 (hs₂ _ _ c3 (hs₁.extBut _ _ c1 x))) ⟨oe, hs₃.extBut _ _ hez hoe, hce⟩
  | some x =>
    have hy : ys[k2]? = none := by rcases hend with h | h; rw [hx] at h; cases h; exact h
    refine wpAny_bind (nextOf_sq_item (h1.extBut hs₁.extBut D.i1z) (hl1.extBut hs₁.extBut D.l1z) hx fun h₂ h1₂ hs₂ => wpAny_pure ?_)
    have hTO₂ : IsPair h₂ TO a b := hs₂.extBut _ _ D.TOi1 (hs₁.extBut _ _ D.TOz hTO)
    refine wpAny_bind (wpAny_seqItems hTO₂ rfl ?_)
    refine wpAny_bind (wpAny_updateSeq_pair hTO₂ fun h₃ hTO₃ hs₃ => ?_)
    refine wpAny_bind (wpAny_letGo (wpAny_pure ?_))
    refine wpAny_bind (wpAny_bind (wpAny_onRaise ?_))
    show wpAny _ _ (Builtin.SmallTypes.nextOf (.ref i2) >>= _) _ _ _
    refine wpAny_bind (nextOf_sq_end hh (((h2.extBut hs₁.extBut D.i2z).extBut hs₂.extBut D.i12.symm).extBut hs₃.extBut D.TOi2.symm)
      (((hl2.extBut hs₁.extBut D.l2z).extBut hs₂.extBut D.l2i1).extBut hs₃.extBut D.l2TO) hy fun h₄ e hs₄ he => ?_)
    obtain ⟨oe, hoe, hce⟩ := he
    have hz₄ : IsZipN h₄ z TI TO .ellipsis bb := hs₄ _ _ D.i2z.symm (hs₃.extBut _ _ D.TOz.symm (hs₂.extBut _ _ D.i1z.symm hz₁))
    have hez : e ≠ z := fun x => by subst x; rw [hz₄] at hoe; cases hoe; simp at hce
    refine wpAny_setField_rec hz₄ (by simp) fun h₅ _ hs₅ => hE h₅ e (fun c o c1 c2 c3 c4 x => hs₅.extBut _ _ c1 (hs₄ _ _ c4 (hs₃.extBut _ _ c2 (hs₂.extBut _ _ c3 (hs₁.extBut _ _ c1 x))))) ⟨oe, hs₅.extBut _ _ hez hoe, hce⟩

/-- the state of the zip: what it handed out last -/
def ZSt (h : Heap) (z TI TO : Addr) : Prop := ∃ (f0 : Value) (bb : Bool), (f0 = .none ∨ ∃ T : Addr, f0 = rawInt T) ∧ IsZipN h z TI TO f0 bb
theorem pyIter_zipN {z TI TO : Addr} {f0 : Value} {bb : Bool} {Q : Value → Shared → Prop} (hz : IsZipN s.heap z TI TO f0 bb) (h : Q (.ref z) s) : wpAny (model prog w) A (pyIter (.ref z)) Q E s := by
  have hT : s.TypeIs (.ref z) "zip" := ⟨_, hz, rfl⟩
  refine wpAny_pyIter_slot hT F.slot_zip_iter (wpAny_call_entry F.slot_zip_iter hT F.entry_zip_iter ?_ (F.args_zip_iter_1 _))
  show wpAny _ _ (ret (.ref z)) _ _ s
  exact wpAny_pure ⟨_, rfl, "zip", _, hT, F.slot_zip_next.lookup, h⟩
theorem pyNext_zipN_item {b1 b2 : Bool} {z TI TO i1 i2 l1 l2 : Addr} {k1 k2 : Nat} {xs ys : Array Value} {x y a b : Value} {Q : Option Value → Shared → Prop} (D : ZipApart z TI TO i1 i2 l1 l2)
    (hz : ZSt s.heap z TI TO) (hTI : IsPair s.heap TI (.ref i1) (.ref i2)) (hTO : IsPair s.heap TO a b)
    (h1 : SqI b1 s.heap i1 l1 k1) (h2 : SqI b2 s.heap i2 l2 k2) (hl1 : SqO b1 s.heap l1 xs) (hl2 : SqO b2 s.heap l2 ys) (hx : xs[k1]? = some x) (hy : ys[k2]? = some y)
    (hQ : ∀ h', ZSt h' z TI TO → (∃ a b, IsPair h' TO a b) → SqI b1 h' i1 l1 (k1 + 1) → SqI b2 h' i2 l2 (k2 + 1) → IsPair h' s.heap.objs.size x y → h'.objs.size = s.heap.objs.size + 1 →
      (∀ c o, c ≠ z → c ≠ TO → c ≠ i1 → c ≠ i2 → s.heap.get? c = some o → h'.get? c = some o) → Q (some (.ref s.heap.objs.size)) { s with heap := h' }) :
    wpAny (model prog w) A (pyNext (.ref z)) Q E s := by
  obtain ⟨f0, bb, hf, hz⟩ := hz
  have hT : s.TypeIs (.ref z) "zip" := ⟨_, hz, rfl⟩
  unfold pyNext
  refine wpAny_bind (wpAny_attempt (wpAny_callSpecial?_slot (name := Str.ofString "__next__") hT F.slot_zip_next (wpAny_call_entry F.slot_zip_next hT F.entry_zip_next ?_ (F.args_zip_next_1 _))))
  rcases hf with rfl | ⟨T, rfl⟩
  · exact zipN_free_item D hz (.inl rfl) hTI hTO h1 h2 hl1 hl2 hx hy fun h' a1 a2 a3 a4 a5 a6 a7 => wpAny_pure (hQ h' ⟨_, _, .inr ⟨_, rfl⟩, a1⟩ ⟨_, _, a2⟩ a3 a4 a5 a6 a7)
  · cases e : s.heap.get? T with
    | none => exact zipN_free_item D hz (.inr ⟨T, rfl, e⟩) hTI hTO h1 h2 hl1 hl2 hx hy fun h' a1 a2 a3 a4 a5 a6 a7 => wpAny_pure (hQ h' ⟨_, _, .inr ⟨_, rfl⟩, a1⟩ ⟨_, _, a2⟩ a3 a4 a5 a6 a7)
    | some o => exact zipN_kept_item D hz e hTI hTO h1 h2 hl1 hl2 hx hy fun h' a1 a2 a3 a4 a5 a6 a7 => wpAny_pure (hQ h' ⟨_, _, .inr ⟨_, rfl⟩, a1⟩ ⟨_, _, a2⟩ a3 a4 a5 a6 a7)
theorem pyNext_zipN_end {b1 b2 : Bool} {z TI TO i1 i2 l1 l2 : Addr} {k1 k2 : Nat} {xs ys : Array Value} {a b : Value} {Q : Option Value → Shared → Prop} (hh : A.handled = none) (D : ZipApart z TI TO i1 i2 l1 l2)
    (hz : ZSt s.heap z TI TO) (hTI : IsPair s.heap TI (.ref i1) (.ref i2)) (hTO : IsPair s.heap TO a b)
    (h1 : SqI b1 s.heap i1 l1 k1) (h2 : SqI b2 s.heap i2 l2 k2) (hl1 : SqO b1 s.heap l1 xs) (hl2 : SqO b2 s.heap l2 ys) (hend : xs[k1]? = none ∨ ys[k2]? = none)
    (hQ : ∀ h', (∀ c o, c ≠ z → c ≠ TO → c ≠ i1 → c ≠ i2 → s.heap.get? c = some o → h'.get? c = some o) → Q none { s with heap := h' }) : wpAny (model prog w) A (pyNext (.ref z)) Q E s := by
  obtain ⟨f0, bb, hf, hz⟩ := hz
  have hT : s.TypeIs (.ref z) "zip" := ⟨_, hz, rfl⟩
  unfold pyNext
  refine wpAny_bind (wpAny_attempt (wpAny_callSpecial?_slot (name := Str.ofString "__next__") hT F.slot_zip_next (wpAny_call_entry F.slot_zip_next hT F.entry_zip_next ?_ (F.args_zip_next_1 _))))
  rcases hf with rfl | ⟨T, rfl⟩
  · exact zipN_free_end hh D hz (.inl rfl) hTI hTO h1 h2 hl1 hl2 hend fun h' e hk ⟨o, ho, hc⟩ => wpAny_bind (wpAny_isInstance (T := "StopIteration") (b := true) ⟨o, ho, hc⟩ isSubtype_stop (wpAny_pure (hQ _ hk)))
  · cases e : s.heap.get? T with
    | none => exact zipN_free_end hh D hz (.inr ⟨T, rfl, e⟩) hTI hTO h1 h2 hl1 hl2 hend fun h' e hk ⟨o, ho, hc⟩ => wpAny_bind (wpAny_isInstance (T := "StopIteration") (b := true) ⟨o, ho, hc⟩ isSubtype_stop (wpAny_pure (hQ _ hk)))
    | some o => exact zipN_kept_end hh D hz e hTI hTO h1 h2 hl1 hl2 hend fun h' e hk ⟨o, ho, hc⟩ => wpAny_bind (wpAny_isInstance (T := "StopIteration") (b := true) ⟨o, ho, hc⟩ isSubtype_stop (wpAny_pure (hQ _ hk)))
end
theorem turn_zipN {b1 b2 : Bool} {P : Program} {w : World} {K : PySem.W.Frag} {v : Str} {vpos : Pos} {a b z TI TO i1 i2 : Addr} (D : ZipApart z TI TO i1 i2 a b) :
    Turn P w K (.Name v vpos) (Itz b1 b2 K a b) [z, TI, TO, i1, i2] z (fun i h => ZSt h z TI TO ∧ IsPair h TI (.ref i1) (.ref i2) ∧ (∃ x y, IsPair h TO x y) ∧ SqI b1 h i1 a i ∧ SqI b2 h i2 b i) where
  mem := by simp
  obj := fun i h st c hc => by
    obtain ⟨hz, hTI, ⟨x, y, hTO⟩, h1, h2⟩ := st
    have e' : c = z ∨ c = TI ∨ c = TO ∨ c = i1 ∨ c = i2 := by simpa using hc
    rcases e' with q | q | q | q | q
    · rw [q]; obtain ⟨f0, bb, _, hz⟩ := hz; exact ⟨_, hz, fun v q => nomatch q⟩
    · rw [q]; exact ⟨_, hTI, fun v q => nomatch q⟩
    · rw [q]; exact ⟨_, hTO, fun v q => nomatch q⟩
    · rw [q]; exact h1.obj
    · rw [q]; exact h2.obj
  keep := fun i h h' st k => by
    obtain ⟨hz, hTI, ⟨x, y, hTO⟩, h1, h2⟩ := st
    obtain ⟨f0, bb, hf, hz⟩ := hz
    exact ⟨⟨f0, bb, hf, k z (by simp) _ hz⟩, k TI (by simp) _ hTI, ⟨x, y, k TO (by simp) _ hTO⟩, h1.at fun o q => k i1 (by simp) o q, h2.at fun o q => k i2 (by simp) o q⟩
  item := by
    intro X hP hw hK hc i pins s σ H E I hf st hg
    subst hP hw hK
    obtain ⟨hz, hTI, ⟨x0, y0, hTO⟩, h1, h2⟩ := st
    obtain ⟨xs, ys, x, y, hqx, hqy, hx, hy⟩ := hg
    obtain ⟨its, rv, p⟩ := SqB.out I hqx
    obtain ⟨its2, rv2, p2⟩ := SqB.out I hqy
    obtain ⟨u, hu, ru⟩ := rv.get hx
    obtain ⟨u2, hu2, ru2⟩ := rv2.get hy
    have hzl : z < s.heap.objs.size := by obtain ⟨f0, bb, _, hz⟩ := hz; exact Heap.lt_size hz
    refine pyNext_zipN_item D hz hTI hTO h1 h2 p p2 (x := u) (y := u2) (by simpa using hu) (by simpa using hu2) fun h' z' TO' h1' h2' hT hsz hk => ?_
    refine ⟨_, rfl, (show wpAny _ _ (pure ()) _ _ _ from wpAny_pure ?_)⟩
    have new : ObjOk X.prog X.w (upd H s.heap.objs.size (.tup [x, y])) h' s.heap.objs.size (.tup [x, y]) :=
      ⟨by show 2 ≤ sizeLine; decide, [u, u2], .cons ru (.cons ru2 .nil), ⟨_, hT, rfl, _, rfl⟩⟩
    have I1 : Inv X pins σ (upd H s.heap.objs.size (.tup [x, y])) { s with heap := h' } :=
      I.turnedNew (t' := s.toks) (ch := [z, TI, TO, i1, i2]) (fun c o hb q => hk c o (fun q' => hb (by simp [q'])) (fun q' => hb (by simp [q'])) (fun q' => hb (by simp [q'])) (fun q' => hb (by simp [q'])) q) hf (Nat.le_refl _) new
    refine ⟨.ref s.heap.objs.size, _, I1, rfl, ⟨_, x, y, rfl, I.hok.fresh (Nat.le_refl _), rfl, fun l hl => by rw [SqB.inj I hl hqx]; exact hx, fun l hl => by rw [SqB.inj I hl hqy]; exact hy⟩, ⟨z', hk _ _ D.TIz D.TITO D.TIi1 D.TIi2 hTI, TO', h1', h2'⟩, fun c hcm => ?_⟩
    · have hlt : c < s.heap.objs.size := by
        have e' : c = z ∨ c = TI ∨ c = TO ∨ c = i1 ∨ c = i2 := by simpa using hcm
        rcases e' with q | q | q | q | q
        · rw [q]; exact hzl
        · rw [q]; exact Heap.lt_size hTI
        · rw [q]; exact Heap.lt_size hTO
        · rw [q]; exact h1.lt
        · rw [q]; exact h2.lt
      rw [upd_ne (Nat.ne_of_lt hlt)]
      exact (hf c hcm).1
  done := by
    intro X hP hw hK hc i pins s σ H E I hf st hg
    subst hP hw hK
    obtain ⟨hz, hTI, ⟨x0, y0, hTO⟩, h1, h2⟩ := st
    obtain ⟨xs, ys, hqx, hqy, hend⟩ := hg
    obtain ⟨its, rv, p⟩ := SqB.out I hqx
    obtain ⟨its2, rv2, p2⟩ := SqB.out I hqy
    have l1 := rv.length
    have l2 := rv2.length
    have he : its.toArray[i]? = none ∨ its2.toArray[i]? = none := by
      rcases hend with q | q
      · exact .inl (by simp; omega)
      · exact .inr (by simp; omega)
    exact pyNext_zipN_end (I.ok.hd hc) D hz hTI hTO h1 h2 p p2 he fun h' hk => ⟨rfl, I.turnedL (t' := s.toks) (ch := [z, TI, TO, i1, i2]) (fun c o hb q =>
      hk c o (fun q' => hb (by simp [q'])) (fun q' => hb (by simp [q'])) (fun q' => hb (by simp [q'])) (fun q' => hb (by simp [q'])) q) hf⟩
  self := fun A i s Q E st h => by
    obtain ⟨⟨f0, bb, _, hz⟩, _⟩ := st
    exact pyIter_zipN hz h

theorem pi_zipN {X : Cx} {e e2 : Expr} {ta : TA} {v : Str} {p pos vpos : Pos} (hg : Gl X "zip") (hm : X.mg "zip" = none) (ha : PA X [e, e2] ta)
    (hs : starEach [e, e2] X.env = (false, eval e X.env) :: starEach [e2] X.env := by rfl) (hpl : (backTo pos (starEach [e2] X.env)).any (·.1) = false := by rfl) :
    PI X (.Name v vpos) (.Call (.Name "zip" p) [e, e2] [] pos) (iZip X.K ta) := by
  refine ⟨fun pins s σ H R I h => ?_⟩
  refine Call_ (ld_blt I hg hm PyProof.Rows.boot_zip (PyProof.Rows.callWith_type1 (thn (ha.run pos pins s σ H _ I h) fun us s1 ⟨vs, H1, I1, r1, q1⟩ => ?_) hs hpl))
  obtain ⟨b1, b2, a, b, xs, ys, ex, hqx, hqy, q⟩ := q1
  subst ex
  cases r1 with
  | cons r rr =>
    cases rr with
    | cons r' rr =>
      cases rr
      cases r
      cases r'
      have fresh5 : ∀ c, c ∈ [s1.heap.objs.size + 4, s1.heap.objs.size + 2, s1.heap.objs.size + 3, s1.heap.objs.size, s1.heap.objs.size + 1] → FpOk X pins H1 c := fun c hcm => by
        have hle : s1.heap.objs.size ≤ c := by
          simp only [List.mem_cons, List.not_mem_nil, or_false] at hcm
          rcases hcm with z | z | z | z | z <;> rw [z] <;> first | exact Nat.le_refl _ | exact Nat.le_add_right _ _
        exact I1.fpOk hle (I1.hok.fresh hle)
      obtain ⟨its, rv, p1⟩ := SqB.out I1 hqx
      obtain ⟨its2, rv2, p2⟩ := SqB.out I1 hqy
      refine call_zipM p1 p2 fun h' hz hTI hTO h1 h2 hsz hk => wpAny_pyIter_zip hz ?_
      have I2 : Inv X pins σ H1 { s1 with heap := h' } := I1.kept (t' := s1.toks) hk
      exact ⟨s1.heap.objs.size + 4, [s1.heap.objs.size + 4, s1.heap.objs.size + 2, s1.heap.objs.size + 3, s1.heap.objs.size, s1.heap.objs.size + 1], _, _, H1, rfl, I2, turn_zipN (PySem.W.ktu_apart s1.heap.objs.size a b p1.lt p2.lt), ⟨⟨_, _, .inl rfl, hz⟩, hTI, ⟨_, _, hTO⟩, h1, h2⟩, fresh5, q⟩
end ZM
namespace L3
open PySem PySem.Spec PyProof.Rows L2
section
variable {X : Cx} (K : PySem.W.Frag)
theorem q_zipN {e e2 : Expr} {ta : TA} {v : Str} {p pos vpos : Pos} (hg : Gl X "zip") (hm : X.mg "zip" = none) (ha : PA X [e, e2] ta)
    (hs : starEach [e, e2] X.env = (false, eval e X.env) :: starEach [e2] X.env := by rfl) (hpl : (backTo pos (starEach [e2] X.env)).any (·.1) = false := by rfl) (eK : X.K = K := by rfl) :
    PI X (.Name v vpos) (.Call (.Name "zip" p) [e, e2] [] pos) (ZM.iZip K ta) := by subst eK; exact ZM.pi_zipN hg hm ha hs hpl
end
end L3

/-! list.pop(). -/
namespace L3
open PySem PySem.Spec PyProof.Rows L2
def mPop0 : V → List V → Hp → VK → Prop := rPop
theorem q_pop {X : Cx} : MtR X "list.pop" mPop0 := mt_pop
section
variable {K : PySem.W.Frag} {M : Mem} {Φ : D → Mem → Prop}
theorem MtD.popL {p : Addr} {xs : List D} {y : D} {f : O → Mem} (hm : Sp p (O.lst xs) M f) (hy : xs[xs.length - 1]? = some y) (h : Φ y (f (.lst xs.dropLast))) : MtD K mPop0 (.ref p) [] M Φ := fun F H Mf v vs Q r rs s k => by
  cases r
  cases rs
  obtain ⟨ws, e, rw'⟩ := own_lst s hm.mem
  obtain ⟨u, hu, ru⟩ := rw'.get hy
  refine ⟨p, ws, u, rfl, rfl, e, by rw [rw'.len]; exact hu, k _ _ F _ _ h ru (Same.refl _) (hm.put s (show RO K F (.lst _) (.lst _) from ?_))⟩
  have := rw'.take (ws.length - 1)
  rw [List.dropLast_eq_take, List.dropLast_eq_take]
  rw [rw'.len] at this ⊢
  exact this
end
end L3

/-! isinstance of a kept error and three, four classes. -/
namespace L3
open PySem PySem.Spec PyProof.Rows L2
section
variable {K : PySem.W.Frag} {M : Mem} {Φ : D → Mem → Prop}
theorem CbD.isTX3 {a D0 A1 A2 A3 : Addr} {b1 b2 b3 : Bool} (c : ExcC K D0) (e1 : PySem.W.kitOne K (.ref D0) (.ref A1) = some b1) (e2 : PySem.W.kitOne K (.ref D0) (.ref A2) = some b2) (e3 : PySem.W.kitOne K (.ref D0) (.ref A3) = some b3) (h : Φ (.bl (b1 || (b2 || b3))) M) :
    CbD K (cIsY K (.ref D0) none a) [.ref a, .tup [.ref A1, .ref A2, .ref A3]] M Φ := fun F H Mf vs Q r s k => by
  cases r with
  | cons r1 r => cases r with
    | cons r2 r =>
      cases r
      cases r1
      cases r2 with
      | tup e q =>
        exact .inl ⟨D0, rfl, rfl, c, .inr ⟨_, _, _, b1 || (b2 || b3), rfl, sqt_mono s.sub e, refs_of (ns := [A1, A2, A3]) q, kitAny_cons e1 (fun z => by subst z; exact kitAny_cons e2 (fun z2 => by subst z2; exact kitAny_cons e3 (fun z3 => by subst z3; exact kitAny_nil) fun z3 => by subst z3; rfl) fun z2 => by subst z2; rfl) fun z => by subst z; rfl, k _ _ F H M h (.bl _) (Same.refl _) s⟩⟩
theorem CbD.isTX4 {a D0 A1 A2 A3 A4 : Addr} {b1 b2 b3 b4 : Bool} (c : ExcC K D0) (e1 : PySem.W.kitOne K (.ref D0) (.ref A1) = some b1) (e2 : PySem.W.kitOne K (.ref D0) (.ref A2) = some b2) (e3 : PySem.W.kitOne K (.ref D0) (.ref A3) = some b3) (e4 : PySem.W.kitOne K (.ref D0) (.ref A4) = some b4) (h : Φ (.bl (b1 || (b2 || (b3 || b4)))) M) :
    CbD K (cIsY K (.ref D0) none a) [.ref a, .tup [.ref A1, .ref A2, .ref A3, .ref A4]] M Φ := fun F H Mf vs Q r s k => by
  cases r with
  | cons r1 r => cases r with
    | cons r2 r =>
      cases r
      cases r1
      cases r2 with
      | tup e q =>
        exact .inl ⟨D0, rfl, rfl, c, .inr ⟨_, _, _, b1 || (b2 || (b3 || b4)), rfl, sqt_mono s.sub e, refs_of (ns := [A1, A2, A3, A4]) q, kitAny_cons e1 (fun z => by subst z; exact kitAny_cons e2 (fun z2 => by subst z2; exact kitAny_cons e3 (fun z3 => by subst z3; exact kitAny_cons e4 (fun z4 => by subst z4; exact kitAny_nil) fun z4 => by subst z4; rfl) fun z3 => by subst z3; rfl) fun z2 => by subst z2; rfl) fun z => by subst z; rfl, k _ _ F H M h (.bl _) (Same.refl _) s⟩⟩
end
/-! ### xs != [], xs == (), xs != (), whatever stands in xs -/
section
variable {X : Cx}
def rNeE (K : PySem.W.Frag) : R2 := fun x y H Q => ∃ (a b : Addr) (xs : List V), x = .ref a ∧ y = .ref b ∧ SqL K H a xs ∧ SqL K H b [] ∧ 0 < xs.length ∧ Q (.bl true) H
theorem op_neE (hu : X.A.units + 64 < cLine) : OpR X (compareOp .NotEq) (rNeE X.K) := by
  intro pins s σ H x y v u Q I rx ry h
  obtain ⟨a, b, xs, rfl, rfl, ha, hb, hn, q⟩ := h
  obtain rfl : v = Value.ref a := rx
  obtain rfl : u = Value.ref b := ry
  obtain ⟨its, rv, p, _⟩ := I.list ha
  obtain ⟨its2, rv2, p2, _⟩ := I.list hb
  have l1 := rv.length
  cases rv2
  refine SeqAt.RcNeAt.lists_lengths p.isList p2.isList ?_ (by omega) _ _ _ _ ⟨.bl _, H, I, rfl, q⟩
  have : its.length ≠ 0 := by omega
  simpa using this
def oNeE (K : PySem.W.Frag) : R2 := rOr (oNe K) (rNeE K)
theorem q_neE (K : PySem.W.Frag) (hu : X.A.units + 64 < cLine) (e : X.K = K := by rfl) : OpR X (compareOp .NotEq) (oNeE K) := by subst e; exact opOr (q_ne X.K hu) (op_neE hu)
def rEqT (K : PySem.W.Frag) (r : Bool) : R2 := fun x y H Q => ∃ (a b : Addr) (xs : List V), x = .ref a ∧ y = .ref b ∧ SqT K H a xs ∧ SqT K H b [] ∧ 0 < xs.length ∧ Q (.bl r) H
theorem op_eqT (hu : X.A.units + 64 < cLine) : OpR X (compareOp .Eq) (rEqT X.K false) := by
  intro pins s σ H x y v u Q I rx ry h
  obtain ⟨a, b, xs, rfl, rfl, ha, hb, hn, q⟩ := h
  obtain rfl : v = Value.ref a := rx
  obtain rfl : u = Value.ref b := ry
  obtain ⟨its, rv, p, _⟩ := I.tuple ha
  obtain ⟨its2, rv2, p2, _⟩ := I.tuple hb
  have l1 := rv.length
  cases rv2
  refine SeqAt.eq_tupleAt (e := fun _ => true) p p2 (by omega) (fun j h1 h2 => absurd h2 (by simp)) ⟨.bl false, H, I, ?_, q⟩
  have : its.length ≠ 0 := by omega
  show (_ : Value) = Value.bool false
  simp [this]
theorem op_neT (hu : X.A.units + 64 < cLine) : OpR X (compareOp .NotEq) (rEqT X.K true) := by
  intro pins s σ H x y v u Q I rx ry h
  obtain ⟨a, b, xs, rfl, rfl, ha, hb, hn, q⟩ := h
  obtain rfl : v = Value.ref a := rx
  obtain rfl : u = Value.ref b := ry
  obtain ⟨its, rv, p, _⟩ := I.tuple ha
  obtain ⟨its2, rv2, p2, _⟩ := I.tuple hb
  have l1 := rv.length
  cases rv2
  refine SeqAt.RcNeAt.tuples (e := fun _ => true) p p2 (by omega) (fun j h1 h2 => absurd h2 (by simp)) _ _ _ _ ⟨.bl true, H, I, ?_, q⟩
  have : its.length ≠ 0 := by omega
  show (_ : Value) = Value.bool true
  simp [this]
def oEqT (K : PySem.W.Frag) : R2 := rOr (oEq K) (rEqT K false)
def oNeT (K : PySem.W.Frag) : R2 := rOr (oNe K) (rEqT K true)
theorem q_eqT (K : PySem.W.Frag) (hu : X.A.units + 64 < cLine) (e : X.K = K := by rfl) : OpR X (compareOp .Eq) (oEqT K) := by subst e; exact opOr (q_eq X.K hu) (op_eqT hu)
theorem q_neT (K : PySem.W.Frag) (hu : X.A.units + 64 < cLine) (e : X.K = K := by rfl) : OpR X (compareOp .NotEq) (oNeT K) := by subst e; exact opOr (q_ne X.K hu) (op_neT hu)
end
section
variable {K : PySem.W.Frag} {M : Mem} {Φ : D → Mem → Prop}
theorem OpD.neE {x : D} {xs : List D} (q : Seq M x xs) (hl : isL x = true) (h : Φ (.bl (!decide (xs = []))) M) : OpD K (oNeE K) x (.lst []) M Φ := fun F H Mf v u Q r1 r2 s k => by
  obtain ⟨a, vs, rfl, e1, rs⟩ := q.vL hl r1 s
  obtain ⟨b, ws, rfl, e2, rs2⟩ := Seq.vL (.lst []) rfl r2 s
  cases rs2
  cases rs with
  | nil => exact .inl ⟨.list [], .list [], .lst e1 .nil, .lst e2 .nil, by decide +kernel, by decide +kernel, k _ _ F H M h (.bl _) (Same.refl _) s⟩
  | cons r t => exact .inr ⟨a, b, _, rfl, rfl, e1, e2, Nat.succ_pos _, k _ _ F H M (by simpa using h) (.bl _) (Same.refl _) s⟩
theorem OpD.eqT {xs : List D} (h : Φ (.bl (decide (xs = []))) M) : OpD K (oEqT K) (.tup xs) (.tup []) M Φ := fun F H Mf v u Q r1 r2 s k => by
  cases r1 with
  | tup e1 rs => cases r2 with
    | tup e2 rs2 =>
      cases rs2
      cases rs with
      | nil => exact .inl ⟨.tuple [], .tuple [], .tup (sqt_mono s.sub e1) .nil, .tup (sqt_mono s.sub e2) .nil, by decide +kernel, by decide +kernel, k _ _ F H M h (.bl _) (Same.refl _) s⟩
      | cons r t => exact .inr ⟨_, _, _, rfl, rfl, sqt_mono s.sub e1, sqt_mono s.sub e2, Nat.succ_pos _, k _ _ F H M (by simpa using h) (.bl _) (Same.refl _) s⟩
theorem OpD.neT {xs : List D} (h : Φ (.bl (!decide (xs = []))) M) : OpD K (oNeT K) (.tup xs) (.tup []) M Φ := fun F H Mf v u Q r1 r2 s k => by
  cases r1 with
  | tup e1 rs => cases r2 with
    | tup e2 rs2 =>
      cases rs2
      cases rs with
      | nil => exact .inl ⟨.tuple [], .tuple [], .tup (sqt_mono s.sub e1) .nil, .tup (sqt_mono s.sub e2) .nil, by decide +kernel, by decide +kernel, k _ _ F H M h (.bl _) (Same.refl _) s⟩
      | cons r t => exact .inr ⟨_, _, _, rfl, rfl, sqt_mono s.sub e1, sqt_mono s.sub e2, Nat.succ_pos _, k _ _ F H M (by simpa using h) (.bl _) (Same.refl _) s⟩
end
section
variable {K : PySem.W.Frag} {E : WX} {Ψ : PX} {ρ : Env3} {M : Mem} {d : DD}
theorem EnvR.putF {F : Hp} {v : V} {x y : D} : ∀ {σ : L2.St} {ρ : Env3} (i : Nat), EnvR K F σ ρ → ρ[i]? = some (some x) → (∀ v, RD K F v x → RD K F v y) → EnvR K F σ (ρ.set i (some y))
  | _, _, _, .nil, e, _ => by simp at e
  | _, _, 0, .cons h t, e, f => by
    simp at e
    subst e
    obtain ⟨v, h1, h2⟩ := h
    exact .cons ⟨v, h1, f v h2⟩ t
  | _, _, i + 1, .cons h t, e, f => .cons h (EnvR.putF (v := v) i t (by simpa using e) f)
/-- an own list that is written no more: a name of it is data from here on -/
theorem WS.melt {t : TS} {i : Nat} {p : Addr} {xs : List D} {M' : Mem} (hi : ρ[i]? = some (some (.ref p))) (hm : Rm p (.lst xs) M M') (h : WS K E t (ρ.set i (some (.lst xs))) M' d Ψ) : WS K E t ρ M d Ψ := fun σ F H Mf e a s k q => by
  obtain ⟨A, B', rfl, rfl⟩ := hm.split
  rw [List.append_assoc, List.cons_append] at s
  obtain ⟨vs, ev, rs, s2, c2⟩ := StC.frozen s
  refine h σ _ H Mf e ?_ (by rw [List.append_assoc]; exact c2) (k.mono s2) (q.mono s2)
  refine EnvR.putF (v := .non) i (a.mono s2) hi fun v r => ?_
  cases r
  exact .lst upd_same (rs.mono s2)
end
theorem StD.any {K : PySem.W.Frag} {M : Mem} {p : Addr} {xs : List D} {x : D} {i : Int} {f : O → Mem} {P : Mem → Prop} (hm : Sp p (.lst xs) M f) (h0 : 0 ≤ i) (h1 : i < (xs.length : Int)) (h : P (f (.lst (xs.set i.toNat x)))) : StD K (.ref p) (.int i) x M P := by
  refine StD.own (g := fun x : D => x) (xs := xs) (y := x) (f := f) ?_ rfl h0 h1 ?_
  · rw [List.map_id']; exact hm
  · rw [List.map_id']; exact h
/-! ### x is True, x is not False .. of truths -/
theorem q_isB {X : Cx} : OpR X (compareOp .Is) rIsB := op_isBl
theorem q_isnotB {X : Cx} : OpR X (compareOp .IsNot) rNotB := op_notBl
theorem OpD.isB {K : PySem.W.Frag} {M : Mem} {Φ : D → Mem → Prop} {a b : Bool} (h : Φ (.bl (a == b)) M) : OpD K rIsB (.bl a) (.bl b) M Φ := fun F H Mf v u Q r1 r2 s k => by
  cases r1
  cases r2
  exact ⟨a, b, rfl, rfl, k _ _ F H M (by rw [show decide (a = b) = (a == b) by cases a <;> cases b <;> rfl]; exact h) (.bl _) (Same.refl _) s⟩
theorem OpD.isnotB {K : PySem.W.Frag} {M : Mem} {Φ : D → Mem → Prop} {a b : Bool} (h : Φ (.bl (!(a == b))) M) : OpD K rNotB (.bl a) (.bl b) M Φ := fun F H Mf v u Q r1 r2 s k => by
  cases r1
  cases r2
  exact ⟨a, b, rfl, rfl, k _ _ F H M (by rw [show decide (a = b) = (a == b) by cases a <;> cases b <;> rfl]; exact h) (.bl _) (Same.refl _) s⟩
/-! ### == of an instance with its own __eq__ and something plain -/
def rEqSDo (K : PySem.W.Frag) (C : Addr) (sp : L2.Sp) : R2 := fun x y H Q => ∃ a dx fs t, x = .ref a ∧ H a = some (.ins C dx fs) ∧ TyX K H y (.type t) ∧ PySem.W.subIn K (.type t) (.ref C) = some false ∧ sp [.ref a, y] H (fun v H' => ∃ r, v = .bl r ∧ Q (.bl r) H') (fun _ _ _ => False)
theorem op_eqSDo {X : Cx} {n : Nat} {C f : Addr} {fd : FuncData} {ps : List Str} {sp : L2.Sp} (F : FnOk X.prog X.w X.K X.mg X.base (L2.CX X.prog X.w) n f fd ps sp) (hr : Room n X.A)
    (hs : PySem.W.findIn X.K (.ref C) "__eq__" = some (some (.ref f))) (hf : PySem.W.isFn X.K (.ref f) = true) (hb : Binds X.K fd ps []) : OpR X (compareOp .Eq) (rEqSDo X.K C sp) := by
  intro pins s σ H x y v u Q I rx ry hq
  obtain ⟨a, dx, fs, t, rfl, ha, ht, hsub, hsp⟩ := hq
  cases rx
  obtain ⟨mA, J, _⟩ := ins_get I.hok ha
  obtain ⟨od, J, _⟩ := J.look
  obtain ⟨m, hF⟩ := I.fr
  obtain ⟨P, Z, p, _⟩ := kit_of I ry ht
  show wpAny (model X.prog X.w) X.A (richCompare .Eq _ _) (EP X pins σ Q) X.xe s
  refine PySem.W.cmp_K (op := .Eq) (tb := .type t) hr.units0 hF I.ok.mod.kin J (Z.ty _ _ I.kIn p) (by simp [PySem.W.notFirst, hsub]) hs hf ?_
  have e0 : Env0 X.prog X.w X.K X.mg X.base X.A X.stack s H := I.env0
  have hl := F.len _ _ _ _ hsp
  have r2 : Vals [V.ref a, y] [Value.ref a, u] := .cons rfl (.cons ry .nil)
  refine wpAny_call (codeAny_mono (F.run X.A X.stack s H ⟨[.ref a, u], []⟩ [.ref a, u] [.ref a, y] _ _ hr e0 (by
    have := hb s [.ref a, u] I.kIn (by simpa using hl)
    simpa using this) r2 hsp) fun r s' hq => ?_)
  cases r with
  | error e => exact (pass_blk (X := X) (σ := σ)) pins H s e s' I hq
  | ok fl =>
    cases fl with
    | ret w =>
      obtain ⟨z, H', I', rz, ⟨r, ez, q⟩⟩ := I.after hq
      subst ez
      cases rz
      exact ⟨.bl r, H', I', rfl, q⟩
    | next => exact False.elim hq
    | brk => exact False.elim hq
    | cont => exact False.elim hq
theorem q_eqSDo (K : PySem.W.Frag) {X : Cx} {n : Nat} {C f : Addr} {fd : FuncData} {ps : List Str} {sp : L2.Sp} (F : FnOk X.prog X.w X.K X.mg X.base (L2.CX X.prog X.w) n f fd ps sp) (hr : Room n X.A)
    (hs : PySem.W.findIn X.K (.ref C) "__eq__" = some (some (.ref f))) (hf : PySem.W.isFn X.K (.ref f) = true) (hb : Binds X.K fd ps []) (e : X.K = K := by rfl) : OpR X (compareOp .Eq) (rEqSDo K C sp) := by subst e; exact op_eqSDo F hr hs hf hb
theorem OpD.eqObN {K : PySem.W.Frag} {M : Mem} {Φ : D → Mem → Prop} {C : Addr} {fs : List (Str × D)} {x : D} {n : String} {sp : SpD} (t : x.tn = some n) (e : PySem.W.subIn K (.type n) (.ref C) = some false) (h : sp [.ob C fs, x] [] (fun x Mc => ∃ r, x = .bl r ∧ Φ (.bl r) (Mc ++ M)) (fun _ _ => False)) : OpD K (rEqSDo K C (lift K sp)) (.ob C fs) x M Φ := fun F H Mf v u Q r1 r2 s k => by
  cases r1 with
  | ob e1 q1 =>
    have ty := tyx_of (M := M) (.inl t) r2 s
    refine ⟨_, _, _, _, rfl, s.sub _ _ e1, ty, e, ?_⟩
    refine ⟨_, F, [], M ++ Mf, _, _, .cons (.ob e1 q1) (.cons r2 .nil), s, h, fun v x F2 H2 M2 h2 rv s2 c2 => ?_, fun x M2 F2 H2 cls d h2 _ _ _ => h2.elim⟩
    obtain ⟨r, rfl, hp⟩ := h2
    cases rv
    exact ⟨r, rfl, k _ _ F2 H2 (M2 ++ M) hp (.bl r) s2 (by rw [List.append_assoc]; exact c2)⟩
theorem OpD.orEqN {K : PySem.W.Frag} {M : Mem} {Φ : D → Mem → Prop} {r : R2} {C : Addr} {fs : List (Str × D)} {x : D} {n : String} {sp : SpD} (e : PySem.W.subIn K (.type n) (.ref C) = some false) (t : x.tn = some n) (h : sp [.ob C fs, x] [] (fun x Mc => ∃ r, x = .bl r ∧ Φ (.bl r) (Mc ++ M)) (fun _ _ => False)) : OpD K (rOr r (rEqSDo K C (lift K sp))) (.ob C fs) x M Φ := OpD.orR (OpD.eqObN t e h)
theorem kitOne_ofT {K : PySem.W.Frag} {t : Value} {T : String} {b : Bool} (m : PySem.W.kitMeta T = true) (s : PySem.W.subIn K t (.type T) = some b) (n : (t == Value.type T) = false) : PySem.W.kitOne K t (.type T) = some b := by
  unfold PySem.W.kitOne
  rw [if_neg (by rw [n]; exact Bool.false_ne_true)]
  show (if PySem.W.kitMeta T = true then PySem.W.subIn K t (.type T) else none) = some b
  rw [if_pos m, s]
end L3

/-! a list of one number that is drawn from; bit operations; calls by names of parameters. -/
namespace L3
open PySem PySem.Spec PyProof.Rows L2
section
variable {K : PySem.W.Frag} {E : WX} {Ψ : PX} {ρ : Env3} {M : Mem} {Φ : D → Mem → Prop}
theorem own_nst {F H : Hp} {Mf : Mem} {p : Addr} (s : StC K F H (M ++ Mf)) (h : (p, O.nst) ∈ M) : ∃ l : Int, 0 ≤ l ∧ H p = some (.lst [.int l]) := by
  obtain ⟨n, ho, e, r⟩ := s.own p _ (List.mem_append_left _ h)
  cases ho with
  | lst vs =>
    obtain ⟨l, h0, rfl⟩ := r
    exact ⟨l, h0, e⟩
  | _ => exact absurd r (by intro z; exact z)
/-- [x]: a list that is drawn from -/
theorem W.lstN {t : TA} (h : WA K E t ρ M (fun xs M1 => ∃ l : Int, xs = [.int l] ∧ 0 ≤ l ∧ AllA fun p => Φ (.ref p) ((p, .nst) :: M1)) Ψ) : W K E (tLstO t) ρ M Φ Ψ := fun σ F H Mf Q e s k q =>
  h σ F H Mf _ e s k fun v x F1 H1 M1 ⟨l, e1, h0, h1⟩ r1 s1 c1 => by
    subst e1
    cases r1 with
    | cons r1 r2 =>
      cases r1
      cases r2
      exact ⟨by show 1 ≤ sizeLine; decide, fun p hp => q _ _ _ _ _ (h1 p) (.ref p) s1 (c1.newO hp ⟨l, h0, rfl⟩)⟩
theorem lstN_i {M : Mem} {P : Addr → Mem → Prop} {l : Int} (h0 : 0 ≤ l) (h : ∀ p, P p M) : ∃ l' : Int, [D.int l] = [.int l'] ∧ 0 ≤ l' ∧ AllA fun p => P p M := ⟨l, rfl, h0, h⟩
theorem OpD.ixNst {p : Addr} (hm : (p, O.nst) ∈ M) (h : ∀ l : Int, 0 ≤ l → Φ (.int l) M) : OpD K (oIx K) (.ref p) (.int 0) M Φ := fun F H Mf v u Q r1 r2 s k => by
  cases r1
  cases r2
  obtain ⟨l, h0, e⟩ := own_nst s hm
  exact .inl ⟨p, _, 0, .int l, rfl, rfl, SqL.of e, rfl, k _ _ F H M (h l h0) (.int l) (Same.refl _) s⟩
theorem StD.nst {p : Addr} {l : Int} {P : Mem → Prop} (hm : (p, O.nst) ∈ M) (h0 : 0 ≤ l) (h : P M) : StD K (.ref p) (.int 0) (.int l) M P := fun F H Mf v w u Q r r1 r2 s k => by
  cases r
  cases r1
  cases r2
  obtain ⟨l0, _, e⟩ := own_nst s hm
  obtain ⟨A, B, rfl⟩ := List.append_of_mem hm
  refine ⟨p, _, 0, 0, rfl, rfl, e, rfl, k _ _ h ?_⟩
  rw [List.append_assoc] at s ⊢
  exact StC.put (o' := .nst) (ho := .lst [V.int l]) s ⟨l, h0, rfl⟩
/-! ### bit operations -/
def oXor : R2 := rI0 fun i j => .int (Builtin.bitXor i j)
def oAnd : R2 := rI0 fun i j => .int (Builtin.bitAnd i j)
def oOr : R2 := rI0 fun i j => .int (Builtin.bitOr i j)
def oShl : R2 := rI CPow fun i j => .int (i * 2 ^ j.toNat)
def oShr : R2 := rI (fun _ j => 0 ≤ j) fun i j => .int (i / 2 ^ j.toNat)
theorem q_xor {X : Cx} : OpR X (binaryOp .BitXor) oXor := op_xor
theorem q_and {X : Cx} : OpR X (binaryOp .BitAnd) oAnd := op_and
theorem q_or {X : Cx} : OpR X (binaryOp .BitOr) oOr := op_or
theorem q_shl {X : Cx} : OpR X (binaryOp .LShift) oShl := op_shl
theorem q_shr {X : Cx} : OpR X (binaryOp .RShift) oShr := op_shr
theorem q_ixor {X : Cx} : OpR X (inplaceOp .BitXor) oXor := iop_xor
theorem OpD.bits {g : Int → Int → Int} {i j : Int} (h : Φ (.int (g i j)) M) : OpD K (rI0 fun i j => .int (g i j)) (.int i) (.int j) M Φ := fun F H Mf v u Q r1 r2 s k => by
  cases r1
  cases r2
  exact ⟨i, j, rfl, rfl, k _ _ F H M h (.int _) (Same.refl _) s⟩
theorem OpD.xor {i j : Int} (h : Φ (.int (Builtin.bitXor i j)) M) : OpD K oXor (.int i) (.int j) M Φ := OpD.bits h
theorem OpD.and {i j : Int} (h : Φ (.int (Builtin.bitAnd i j)) M) : OpD K oAnd (.int i) (.int j) M Φ := OpD.bits h
theorem OpD.or {i j : Int} (h : Φ (.int (Builtin.bitOr i j)) M) : OpD K oOr (.int i) (.int j) M Φ := OpD.bits h
theorem OpD.shl {i j : Int} (hc : CPow i j) (h : Φ (.int (i * 2 ^ j.toNat)) M) : OpD K oShl (.int i) (.int j) M Φ := fun F H Mf v u Q r1 r2 s k => by
  cases r1
  cases r2
  exact ⟨i, j, rfl, rfl, hc, k _ _ F H M h (.int _) (Same.refl _) s⟩
theorem OpD.shr {i j : Int} (hc : 0 ≤ j) (h : Φ (.int (i / 2 ^ j.toNat)) M) : OpD K oShr (.int i) (.int j) M Φ := fun F H Mf v u Q r1 r2 s k => by
  cases r1
  cases r2
  exact ⟨i, j, rfl, rfl, hc, k _ _ F H M h (.int _) (Same.refl _) s⟩
theorem xor_nat (a b : Nat) : Builtin.bitXor (a : Int) (b : Int) = ((a ^^^ b : Nat) : Int) := by
  rw [Bits.bitXor_pp (by omega) (by omega), Int.toNat_natCast, Int.toNat_natCast]
theorem and_nat (a b : Nat) : Builtin.bitAnd (a : Int) (b : Int) = ((a &&& b : Nat) : Int) := by
  rw [PyProof.Rows.bitAnd_pp (by omega) (by omega), Int.toNat_natCast, Int.toNat_natCast]
/-! ### f(a, k = b) -/
def permG {α : Type} (z : α) (js : List Nat) (xs : List α) : List α := js.map fun j => xs.getD j z
/-- how arguments by place and by name reach their parameters -/
structure KB (fd : FuncData) (ps ks : List Str) (n : Nat) (js : List Nat) : Prop where
  len : js.length = ps.length
  lt : ∀ j ∈ js, j < n + ks.length
  to : ∀ (s : Shared) (us ws : List Value), us.length = n → ws.length = ks.length → BindsTo s fd ⟨us, ks.zip ws⟩ (ps.zip (permG .none js (us ++ ws)))
theorem KB.mk' {K : PySem.W.Frag} {x qual : Str} {st : Stmt} {f : Addr} {fd : FuncData} {ps ks : List Str} {n : Nat} {js : List Nat} (F : Fun K x qual st f fd) (hl : js.length = ps.length) (ht : ∀ j ∈ js, j < n + ks.length)
    (h : ∀ (kV doc pm : Value) (an : Option Addr) (cdv ct : Value) (us ws : List Value), us.length = n → ws.length = ks.length → bindArgs (PySem.W.fnOf x qual (defArgs st) (defBody st) (defScope st) .none kV doc pm an cdv ct) ⟨us, ks.zip ws⟩ = pure (ps.zip (permG .none js (us ++ ws)))) : KB fd ps ks n js := by
  obtain ⟨oc, od, kV, doc, pm, an, cdv, ct, osl, rfl, lk, hcd⟩ := F.ex
  exact ⟨hl, ht, fun s us ws h1 h2 => .of_eq (h kV doc pm an cdv ct us ws h1 h2)⟩
def tCallKD (sp : L2.Sp) (n m : Nat) (js : List Nat) (E : L2.St → XK) (t tk : TA) : TE := fun σ H Q => t σ H fun vs H1 => tk σ H1 fun zs H2 => vs.length = n ∧ zs.length = m ∧ sp (permG .non js (vs ++ zs)) H2 Q (E σ)
theorem vals_getD {vs : List V} {us : List Value} (r : Vals vs us) {j : Nat} (h : j < vs.length) : RelV (vs.getD j .non) (us.getD j .none) := by
  induction r generalizing j with
  | nil => cases h
  | cons a t ih =>
    cases j with
    | zero => exact a
    | succ j => exact ih (by simpa using h)
theorem vals_perm {vs : List V} {us : List Value} (r : Vals vs us) {js : List Nat} (h : ∀ j ∈ js, j < vs.length) : Vals (permG .non js vs) (permG .none js us) := by
  induction js with
  | nil => exact .nil
  | cons j js ih => exact .cons (vals_getD r (h j List.mem_cons_self)) (ih fun i hi => h i (List.mem_cons_of_mem _ hi))
end
section
variable {X : Cx} {k n m : Nat} {f : Addr} {fd : FuncData} {ps ks : List Str} {js : List Nat} {sp : L2.Sp} {E : L2.St → XK} {x : Str} {p pos : Pos} {e : Expr} {es : List Expr} {kws : List Keyword} {t tk : TA}
theorem run_fnKD {pins : List (Addr × Obj)} {σ : L2.St} {H : Hp} {s : Shared} {Q : VK} {us ws : List Value} {vs zs : List V} (F : FnOk X.prog X.w X.K X.mg X.base (L2.CX X.prog X.w) k f fd ps sp) (hr : Room k X.A) (hb : KB fd ps ks n js) (hx : PassesAt (L2.CX X.prog X.w) X σ (E σ))
    (I : Inv X pins σ H s) (r : Vals vs us) (rz : Vals zs ws) (h1 : vs.length = n) (h2 : zs.length = ks.length) (h : sp (permG .non js (vs ++ zs)) H Q (E σ)) : wpAny (model X.prog X.w) X.A (call (.ref f) us (ks.zip ws)) (EP X pins σ Q) X.xe s := by
  have r3 : Vals (vs ++ zs) (us ++ ws) := r.append rz
  have r2 := vals_perm r3 (js := js) fun j hj => by rw [List.length_append, h1, h2]; exact hb.lt j hj
  refine wpAny_call (codeAny_mono (F.run X.A X.stack s H ⟨us, ks.zip ws⟩ _ _ Q (E σ) hr I.env0 (hb.to s us ws (by rw [← r.length]; exact h1) (by rw [← rz.length]; exact h2)) r2 h) fun r s' hq => ?_)
  cases r with
  | error e => exact hx pins H s e s' I hq
  | ok fl =>
    cases fl with
    | ret u => exact I.after hq
    | next => exact False.elim hq
    | brk => exact False.elim hq
    | cont => exact False.elim hq
theorem pe_callKD (F : FnOk X.prog X.w X.K X.mg X.base (L2.CX X.prog X.w) k f fd ps sp) (hr : Room k X.A) (hg : Gl X x) (hm : X.mg x = some (.ref f)) (hk : PySem.W.keepIn X.K (.ref f) = true) (hb : KB fd ps ks n js) (hx : ∀ σ, PassesAt (L2.CX X.prog X.w) X σ (E σ))
    (ha : PA X (e :: es) t) (hkw : PK X kws tk) (hall : (backToKw pos (keywordEach kws X.env)).all (·.1.isSome) = true := by rfl) (hks : (backToKw pos (keywordEach kws X.env)).filterMap (·.1) = ks := by rfl)
    (hdb : (x == ("__debug__" : Str)) = false := by decide) (he : starEach (e :: es) X.env = (false, eval e X.env) :: starEach es X.env := by rfl)
    (hpl : ((backTo pos (starEach (e :: es) X.env)).any (·.1) || (backToKw pos (keywordEach kws X.env)).any (·.1.isNone)) = false := by rfl) :
    PE X (.Call (.Name x p) (e :: es) kws pos) (tCallKD sp n ks.length js E t tk) := by
  refine ⟨fun pins s σ H Q I h => ?_⟩
  refine wpAny_Call_Name_kw (ld_glob I hg hm ?_ hdb)
  refine PySem.W.callWith_KW (h₀ := X.base) I.ok.mod.kin hk hall (thn (ha.run pos pins s σ H _ I h) fun us s1 ⟨vs, H1, I1, r, q⟩ => ?_) hpl he
  refine thn (hkw.run pos pins s1 σ H1 _ I1 q) fun ws s2 ⟨zs, H2, I2, rz, h1, h2, q2⟩ => ⟨I2.kIn, ?_⟩
  rw [hks]
  exact run_fnKD F hr hb (hx σ) I2 r rz h1 h2 q2
theorem pe_callKD0 (F : FnOk X.prog X.w X.K X.mg X.base (L2.CX X.prog X.w) k f fd ps sp) (hr : Room k X.A) (hg : Gl X x) (hm : X.mg x = some (.ref f)) (hk : PySem.W.keepIn X.K (.ref f) = true) (hb : KB fd ps ks 0 js) (hx : ∀ σ, PassesAt (L2.CX X.prog X.w) X σ (E σ))
    (hkw : PK X kws tk) (hall : (backToKw pos (keywordEach kws X.env)).all (·.1.isSome) = true := by rfl) (hks : (backToKw pos (keywordEach kws X.env)).filterMap (·.1) = ks := by rfl)
    (hdb : (x == ("__debug__" : Str)) = false := by decide)
    (hpl : ((backTo pos (starEach [] X.env)).any (·.1) || (backToKw pos (keywordEach kws X.env)).any (·.1.isNone)) = false := by rfl) :
    PE X (.Call (.Name x p) [] kws pos) (tCallKD sp 0 ks.length js E tNil tk) := by
  refine ⟨fun pins s σ H Q I h => ?_⟩
  refine wpAny_Call_Name_kw (ld_glob I hg hm ?_ hdb)
  refine PySem.W.callWith_KW0 (h₀ := X.base) I.ok.mod.kin hk hall ?_ hpl
  refine thn (hkw.run pos pins s σ H _ I h) fun ws s2 ⟨zs, H2, I2, rz, h1, h2, q2⟩ => ⟨I2.kIn, ?_⟩
  rw [hks]
  exact run_fnKD (us := []) (vs := []) F hr hb (hx σ) I2 .nil rz rfl h2 q2
end
section
variable {K : PySem.W.Frag} {E : WX} {Ψ : PX} {ρ : Env3} {M : Mem} {Φ : D → Mem → Prop}
theorem RDs.getD {F : Hp} {vs : List V} {xs : List D} (r : RDs K F vs xs) {j : Nat} (h : j < xs.length) : RD K F (vs.getD j .non) (xs.getD j .non) := by
  have e : xs[j]? = some (xs.getD j .non) := by rw [List.getD_eq_getElem?_getD, List.getElem?_eq_getElem h]; rfl
  obtain ⟨u, hu, ru⟩ := r.get e
  rw [List.getD_eq_getElem?_getD, hu]
  exact ru
theorem RDs.perm {F : Hp} {vs : List V} {xs : List D} (r : RDs K F vs xs) {js : List Nat} (h : ∀ j ∈ js, j < xs.length) : RDs K F (permG .non js vs) (permG .non js xs) := by
  induction js with
  | nil => exact .nil
  | cons j js ih => exact .cons (r.getD (h j List.mem_cons_self)) (ih fun i hi => h i (List.mem_cons_of_mem _ hi))
theorem W.callKD {sp : SpD} {n m : Nat} {js : List Nat} {t tk : TA} (hj : (js.all fun j => decide (j < n + m)) = true) (h : WA K E t ρ M (fun xs M1 => WA K E tk ρ M1 (fun ys M2 => xs.length = n ∧ ys.length = m ∧ Cal sp (permG .non js (xs ++ ys)) M2 Φ (fun x M3 => Ψ x ρ M3)) Ψ) Ψ) : W K E (tCallKD (lift K sp) n m js (WE E) t tk) ρ M Φ Ψ := fun σ F H Mf Q e s k q =>
  h σ F H Mf _ e s k fun vs xs F1 H1 M1 h1 r1 s1 c1 => h1 σ F1 H1 Mf _ (e.mono s1) c1 (k.mono s1) fun zs ys F2 H2 M2 ⟨e1, e2, hs⟩ r2 s2 c2 => by
    replace hj : ∀ j ∈ js, j < (xs ++ ys).length := fun j h => by rw [List.length_append, e1, e2]; exact of_decide_eq_true (List.all_eq_true.mp hj j h)
    refine ⟨by rw [r1.len, e1], by rw [r2.len, e2], ?_⟩
    have r3 := (RDs.app (r1.mono s2) r2).perm hj
    exact ⟨_, F2, M2, Mf, _, _, r3, c2, hs, fun v x F3 H3 M3 h3 rv s3 c3 => q v x F3 H3 M3 h3 rv ((s1.trans s2).trans s3) c3,
      fun x M3 F3 H3 cls d h3 s3 c3 er => k x ρ M3 F3 H3 σ cls d h3 (e.mono ((s1.trans s2).trans s3)) ((s1.trans s2).trans s3) c3 er⟩
end
/-! ### for k in reversed(range(n)) -/
section
variable {K : PySem.W.Frag} {E : WX} {Ψ : PX} {ρ : Env3} {M : Mem}
def iRev (ta : TE) : TI := iRevR (tRg1 ta)
theorem q_rev {X : Cx} {tg a : Expr} {ta : TE} {p p2 pos pos2 : Pos} (hg : Gl X "reversed") (hm : X.mg "reversed" = none) (hg2 : Gl X "range") (hm2 : X.mg "range" = none) (ha : PE X a ta) (na : starEach [a] X.env = (false, eval a X.env) :: starEach [] X.env := by rfl) :
    PI X tg (.Call (.Name "reversed" p) [.Call (.Name "range" p2) [a] [] pos2] [] pos) (iRev ta) := pi_revR hg hm (prg_1 hg2 hm2 ha (na := na))
def rev (n : Nat) : Src := ranc ((n : Int) - 1) (-1) n
theorem AsM.rev {n : Nat} : AsM (fun k : Nat => D.int ((n : Int) - 1 + (k : Int) * -1)) (rev n).its (List.range n) := AsM.ranc
theorem WI.rev {ta : TE} {Θ : Src → Mem → Prop} (h : W K E ta ρ M (fun x M1 => ∃ n : Nat, x = .int n ∧ n < 2 ^ 60 ∧ Θ (rev n) M1) Ψ) : WI K E (iRev ta) ρ M Θ Ψ := fun σ F H Mf R e s k q =>
  h σ F H Mf _ e s k fun v x F1 H1 M1 ⟨n, ex, h1, h2⟩ r1 s1 c1 => by
    subst ex
    cases r1
    refine ⟨n, rfl, by decide, by decide, by omega, by omega, ?_⟩
    have e1 : ((n : Int) - 0).toNat = n := by omega
    rw [e1, Int.zero_add]
    exact q _ F1 H1 M1 _ h2 s1 c1 jr_rangeC
theorem rev_i {n : Nat} {i : Int} {P : Nat → Prop} (e : i = n) (h1 : n < 2 ^ 60) (h : P n) : ∃ n : Nat, D.int i = .int n ∧ n < 2 ^ 60 ∧ P n := ⟨n, by rw [e], h1, h⟩
end
theorem callK_i {sp : SpD} {n m : Nat} {js : List Nat} {xs ys : List D} {M : Mem} {Φ : D → Mem → Prop} {Ψ : Ex → Mem → Prop} (h1 : xs.length = n) (h2 : ys.length = m) (h : Cal sp (permG .non js (xs ++ ys)) M Φ Ψ) : xs.length = n ∧ ys.length = m ∧ Cal sp (permG .non js (xs ++ ys)) M Φ Ψ := ⟨h1, h2, h⟩
/-- for k in range(lo, f(..)): the number of turns is drawn in the head itself -/
theorem S.forQ2 {K : PySem.W.Frag} {E : WX} {Ψ : PX} {ρ : Env3} {M : Mem} {N B C : Env3 → Mem → Prop} {R : D → Mem → Prop} {wi : TI} {g : TG} {tb : TS} {σ : Type} (lo : Int) (env : σ → Env3) (mem : σ → Mem) (I : Nat → σ → Prop)
    (h : WI K E wi ρ M (fun s M1 => ∃ n : Nat, ForG K E g tb N R Ψ ρ env mem I s M1 (List.range n) (fun k : Nat => D.int (lo + (k : Int)))) Ψ) : WS K E (tFor wi g tb) ρ M ⟨N, R, B, C⟩ Ψ := by
  refine S.forI env mem I fun σ F H Mf Q a s k q => h σ F H Mf Q a s k fun sr F' H' M' J ⟨n, p⟩ s' c' jr => q sr F' H' M' J ?_ s' c' jr
  have ei := p.it.eq
  have el : sr.its.length = (List.range n).length := by rw [ei, List.length_map]
  refine ⟨p.start, fun i st _ => p.need i st, ?_, ?_⟩
  · intro i x st hx hI
    rw [ei, List.getElem?_map] at hx
    cases e : (List.range n)[i]? with
    | none => rw [e] at hx; cases hx
    | some a =>
      rw [e] at hx
      cases hx
      exact p.turn i a st e hI
  · intro st hI
    rw [el] at hI
    exact p.k st hI
end L3

/-! x, *ys = t -/
namespace L3
open PySem PySem.Spec PyProof.Rows L2
section
variable {P : Program} {w : World} {B : Around} {Er : Value → Shared → Prop} {u : Shared}
/-- the first item and a new list of the others -/
theorem star_tup {a : Addr} {ys : Array Value} {y : Value} {zs : List Value} {Q : List Value → Shared → Prop} (nh : B.handled = none) (ta : IsTup u.heap a ys) (ey : ys.toList = y :: zs) (sz : ys.size ≤ 16384)
    (q : ∀ (g : Heap) (t : Nat), (∀ b o, u.heap.get? b = some o → g.get? b = some o) → Q [y, .ref g.objs.size] { u with heap := g.push { cls := .type "list", data := .seq zs.toArray }, toks := t }) :
    wpAny (model P w) B (unpackItems (.ref a) 2 (some 1)) Q Er u := by
  have ne : a ≠ u.heap.objs.size := by obtain ⟨o, e, _⟩ := ta; exact Nat.ne_of_lt (Heap.lt_size e)
  have l1 : 1 ≤ ys.size := by
    have := congrArg List.length ey
    rw [Array.length_toList, List.length_cons] at this
    omega
  have et : ys.toList.take 1 = [y] := by rw [ey]; rfl
  have ed : ys.toList.drop 1 = zs := by rw [ey]; rfl
  have ln : zs.length + 1 = ys.size := by
    have := congrArg List.length ey
    rw [Array.length_toList, List.length_cons] at this
    omega
  unfold unpackItems notIterableAtAll
  refine wpAny_bind (wpAny_bind (wpAny_specialOf ta.typeIs PySem.F.slot_tuple_iter.lookup (wpAny_pure ?_)))
  rw [if_neg (by simp)]
  refine wpAny_bind (wpAny_holding (iter_tuple ta ?_))
  refine wpAny_bind (wpAny_holding (draw_tuple ne 1 0 _ _ ⟨_, Heap.get?_push_size _ rfl, rfl, rfl⟩ (ta.push _) (by omega) fun g1 i1 b1 => ?_))
  have t1 : IsTup g1 a ys := (ta.push _).extBut b1.extBut ne
  rw [Nat.zero_add] at i1
  rw [List.drop_zero, et]
  have n1 : u.heap.objs.size < g1.objs.size := by obtain ⟨o, e, _⟩ := id i1; exact Heap.lt_size e
  have n2 : a < g1.objs.size := by obtain ⟨o, e, _⟩ := id t1; exact Heap.lt_size e
  rw [if_neg (show ¬ [y].length < 1 by simp)]
  refine wpAny_bind (wpAny_holding (PySem.W.kun_collect (s := { u with heap := g1 }) (T := "tuple_iterator") (.inr (.inr (.inr rfl))) (Walks.tuple (A := B.in1) nh u.heap.objs.size a ne ys) (fun _ _ z => z.1.typeIs) (k := 1) l1 ⟨i1, t1⟩ n1 n2 (fun g2 tk keep => ?_) (Nat.le_trans sz (by decide))))
  rw [ed]
  show wpAny _ _ (if zs.length < 2 - 1 - 1 then _ else _) _ _ _
  rw [if_neg (by omega)]
  show wpAny _ _ (newList (zs.take (zs.length - (2 - 1 - 1))) >>= fun d => pure ([y] ++ [d] ++ zs.drop (zs.length - (2 - 1 - 1)))) _ _ _
  rw [show zs.length - (2 - 1 - 1) = zs.length by omega, List.take_length, List.drop_length]
  have old : ∀ b o, u.heap.get? b = some o → g2.get? b = some o := fun b o e => by
    have nb : b ≠ u.heap.objs.size := Nat.ne_of_lt (Heap.lt_size e)
    exact keep b o nb (b1.extBut b o nb (Heap.get?_push_of_some _ e))
  refine wpAny_bind (wpAny_newList (s := { u with heap := g2, toks := tk }) (wpAny_pure ?_) (Nat.le_trans (by omega) (Nat.le_trans sz (by decide))))
  exact q g2 tk old
end
section
variable {X : Cx} {pos p2 : Pos}
def gStar (K : PySem.W.Frag) (t : TGs) : TG := fun v σ H Q => ∃ a x xs, v = .ref a ∧ SqT K H a (x :: xs) ∧ xs.length ≤ 16000 ∧ ∀ D, H D = none → t [x, .ref D] σ (upd H D (.lst xs)) Q
theorem pg_star {e1 e2 : Expr} {k : Nat} {t : TGs} (hc : X.calm = true) (h : PGs X [e1, e2] t)
    (h1 : (assignEach [e1, .Starred e2 p2] X.env) = [(false, assign e1 X.env), (true, assign e2 X.env)] := by rfl) (h2 : (assignEach [e1, e2] X.env).map (·.2) = [assign e1 X.env, assign e2 X.env] := by rfl) : PG X (.Tuple [e1, .Starred e2 p2] k pos) (gStar X.K t) := by
  refine ⟨fun pins s σ H v u Q I r hw => ?_⟩
  obtain ⟨a, x, xs, rfl, hq, hl, hw⟩ := hw
  cases r
  obtain ⟨its, rv, ht, hz⟩ := I.tuple hq
  cases rv with
  | cons rx rv =>
    rename_i u1 us
    rw [assign_Tuple]
    refine wpAny_bind (wpAny_standAt ?_)
    unfold unpack
    rw [h1]
    refine wpAny_bind (wpAny_holding (star_tup (y := u1) (zs := us) (I.ok.hd hc) ht rfl (by have := rv.length; simp; omega) fun g tk keep => ?_))
    have I0 : Inv X pins σ H { s with heap := g, toks := tk } := I.kept keep
    have hf : H g.objs.size = none := I0.hok.fresh (Nat.le_refl _)
    have I1 : Inv X pins σ (upd H g.objs.size (.lst xs)) { s with heap := g.push { cls := .type "list", data := .seq us.toArray }, toks := tk } := I0.laid (t' := tk) (fun b o e => Heap.get?_push_of_some _ e) (Nat.le_refl _) ⟨by have := rv.length; exact Nat.le_trans hl (by decide), us, 0, rv, Heap.get?_push_size _ rfl⟩
    have := h.run pins _ σ _ [x, .ref g.objs.size] [u1, .ref g.objs.size] Q I1 (.cons rx (.cons rfl .nil)) (hw _ hf)
    rw [h2] at this
    exact this
end
theorem q_star (K : PySem.W.Frag) {X : Cx} {pos p2 : Pos} {e1 e2 : Expr} {k : Nat} {t : TGs} (h : PGs X [e1, e2] t) (hc : X.calm = true := by rfl)
    (h1 : (assignEach [e1, .Starred e2 p2] X.env) = [(false, assign e1 X.env), (true, assign e2 X.env)] := by rfl) (h2 : (assignEach [e1, e2] X.env).map (·.2) = [assign e1 X.env, assign e2 X.env] := by rfl) (e : X.K = K := by rfl) : PG X (.Tuple [e1, .Starred e2 p2] k pos) (gStar K t) := by
  subst e
  exact pg_star hc h h1 h2
section
variable {K : PySem.W.Frag} {E : WX} {Ψ : PX} {ρ : Env3} {M : Mem}
/-- x, *ys = t: the others are data -/
theorem WG.star {t : TGs} {x : D} {xs : List D} {Θ : Env3 → Mem → Prop} (hl : xs.length ≤ 16000) (h : WGs K E t [x, .lst xs] ρ M Θ Ψ) : WG K E (gStar K t) (.tup (x :: xs)) ρ M Θ Ψ := fun σ F H Mf v Q r a s k q => by
  cases r with
  | tup e rs =>
    cases rs with
    | cons rx rs =>
      refine ⟨_, _, _, rfl, sqt_mono s.sub e, by rw [rs.len]; exact hl, fun D hD => ?_⟩
      rename_i vs
      have e1 := s.sameF (ho := .lst vs) hD
      refine h σ _ _ Mf _ _ (.cons (rx.mono e1) (.cons (.lst upd_same (rs.mono e1)) .nil)) (a.mono e1) (s.newF hD) (k.mono e1) fun σ' ρ' F' H' M' p r' s' c' => q σ' ρ' F' H' M' p r' (e1.trans s') c'
end
/-- a def that stands under another name -/
structure DfA (K : PySem.W.Frag) (mg : Str → Option Value) (y x : Str) (st : Stmt) (ps : List Str) where
  f : Addr
  fd : FuncData
  F : Fun K x x st f fd
  g : mg y = some (.ref f)
  b : Binds K fd ps []
/-! ### tuple.index of texts, tuples of the text -/
def mTIndex (K : PySem.W.Frag) : V → List V → Hp → VK → Prop := fun x xs H Q => ∃ p, ∃ ys : List Str, ∃ z j, x = .ref p ∧ xs = [.str z] ∧ SqT K H p (ys.map V.str) ∧ ys[j]? = some z ∧ (∀ m, m < j → ys[m]? ≠ some z) ∧ Q (.int (j : Nat)) H
theorem q_tindex (K : PySem.W.Frag) {X : Cx} (e : X.K = K := by rfl) : MtR X "tuple.index" (mTIndex K) := by subst e; exact mt_tup_index
theorem RDs.ofStrs {K : PySem.W.Frag} {F : Hp} : ∀ {ys : List Str} {vs : List V}, RDs K F vs (ys.map D.str) → vs = ys.map V.str
  | [], _, h => by cases h; rfl
  | y :: ys, _, h => by
    cases h with
    | cons h t =>
      cases h
      rw [List.map_cons, ← RDs.ofStrs t]
theorem MtD.tidx {K : PySem.W.Frag} {M : Mem} {Φ : D → Mem → Prop} {ys : List Str} {z : Str} (j : Nat) (hj : ys[j]? = some z) (hn : ∀ m, m < j → ys[m]? ≠ some z) (h : Φ (.int (j : Nat)) M) : MtD K (mTIndex K) (.tup (ys.map D.str)) [.str z] M Φ := fun F H Mf v vs Q r rs s k => by
  cases r with
  | tup e q =>
    cases rs with
    | cons r2 rs =>
      cases rs
      cases r2
      have ev := RDs.ofStrs q
      subst ev
      exact ⟨_, ys, z, j, rfl, rfl, sqt_mono s.sub e, hj, hn, k _ _ F H M h (.int _) (Same.refl _) s⟩
theorem gtup {K : PySem.W.Frag} {a : Addr} {oc : Option Addr} {its : Array Value} {n : Nat} {sl : Array (Option Value)} {vs : List V} {ds : List D} (h : K.lookup a = some ⟨.type "tuple", oc, .seq its n, sl⟩) (hs : its.size ≤ sizeLine) (rv : Vals vs its.toList) (rd : ∀ F, RDs K F vs ds) : ∀ F, RD K F (.ref a) (.tup ds) := fun F => .tup (.inr ⟨_, its, n, h, rfl, rfl, hs, rv⟩) (rd F)
end L3

/-! an own list of items of which something is told. -/
namespace L3
open PySem PySem.Spec PyProof.Rows L2
section
variable {K : PySem.W.Frag} {E : WX} {Ψ : PX} {ρ : Env3} {M : Mem} {Φ : D → Mem → Prop}
structure LcPO (K : PySem.W.Frag) (g : TG) (te : TE) (vs : List Nat) (ρ : Env3) {α β : Type} (s : Src) (M : Mem) (Φ : D → Mem → Prop) (as : List α) (f : α → D) (h : β → D) (P : β → Prop) : Prop where
  it : AsM f s.its as
  need : s.need M
  len : as.length < 100000
  body : ∀ a ∈ as, WG K E0 g (f a) (wipeD ρ vs) M (fun ρ2 M2 => W K E0 te ρ2 M2 (LcE h P M) P0) P0
  k : ∀ bs : List β, bs.length = as.length → (∀ b ∈ bs, P b) → AllA fun p => Φ (.ref p) ((p, .lst (bs.map h)) :: M)
theorem W.lcPO {α β : Type} (h : β → D) (P : β → Prop) {wi : TI} {g : TG} {te : TE} {vs : List Nat} {as : List α} {f : α → D} (hg : GOnly g vs) (q : WI K E wi ρ M (fun s M1 => LcPO K g te vs ρ s M1 Φ as f h P) Ψ) : W K E (tLcO wi g tYes te vs) ρ M Φ Ψ := by
  refine W.lcO hg fun σ F H Mf R a s k q' => q σ F H Mf R a s k fun s' F' H' M' J hh => q' s' F' H' M' J ?_
  obtain ⟨it, need, len, body, kk⟩ := hh
  have hs := it.eq
  have hl : s'.its.length = as.length := by rw [hs, List.length_map]
  refine ⟨fun i acc M2 => ∃ bs : List β, acc = bs.map h ∧ bs.length = i ∧ (∀ b ∈ bs, P b) ∧ M2 = M', ⟨[], rfl, rfl, (fun _ z => by cases z), rfl⟩, ?_, ?_, ?_⟩
  · rintro i acc M2 _ ⟨_, _, _, _, rfl⟩
    exact need
  · rintro i x acc M2 hx ⟨bs, rfl, hb, hp, rfl⟩
    have hi : i < as.length := by rw [← hl]; exact (List.getElem?_eq_some_iff.mp hx).1
    have hx2 : x = f as[i] := by
      rw [hs, List.getElem?_map, List.getElem?_eq_getElem hi] at hx
      exact (Option.some.inj hx).symm
    subst hx2
    refine ⟨by rw [List.length_map]; exact line_lt (by omega), ?_⟩
    refine fun σ F H Mf v Q r a st ek qq => body as[i] (List.getElem_mem hi) σ F H Mf v Q r a st ek fun σ2 ρ2 F2 H2 M2 h2 a2 s2 c2 => qq σ2 ρ2 F2 H2 M2 (WT.yes ⟨fun _ => W.mono h2 ?_, fun z => Bool.noConfusion z⟩) a2 s2 c2
    rintro y M4 ⟨⟨b, rfl, pb⟩, rfl⟩
    refine ⟨bs ++ [b], by rw [List.map_append]; rfl, by rw [List.length_append, hb]; rfl, fun c hc => ?_, rfl⟩
    rcases List.mem_append.mp hc with hc | hc
    · exact hp c hc
    · rw [List.mem_singleton] at hc
      subst hc
      exact pb
  · rintro acc M2 ⟨bs, rfl, hb, hp, rfl⟩
    exact kk bs (by rw [hb, hl]) hp
end
end L3

/-! methods of tuples. -/
namespace L3
open PySem PySem.Spec PyProof.Rows L2
section
variable {K : PySem.W.Frag} {E : WX} {Ψ : PX} {ρ : Env3} {M : Mem} {Φ : D → Mem → Prop}
theorem W.bmC {r : V → List V → Hp → VK → Prop} {p : Addr} {xs : List D} {t : TA} (tk : ∃ o, List.lookup p K = some o ∧ o.cls = PySem.Value.type "tuple" ∧ o.dict = none) (rd : ∀ F, RD K F (.ref p) (.tup xs)) (h : WA K E t ρ M (fun ys M2 => MtD K r (.tup xs) ys M2 Φ) Ψ) : W K E (tBM K "tuple" r (tC (.ref p)) t) ρ M Φ Ψ := fun σ F H Mf Q a s k q =>
  ⟨.inr (.inl ⟨rfl, tk⟩), h σ F H Mf _ a s k fun us ys F2 H2 M2 h2 r2 s2 c2 => h2 F2 H2 Mf _ us Q (rd F2) r2 c2 (Kont.mono q s2)⟩
theorem OpD.ixBm {α : Type} {x : D} {f : α → D} {as : List α} {a : α} (q : Seq M x ((as ++ [a]).map f)) (h : Φ (f a) M) : OpD K (oIx K) x (.int (-1)) M Φ := .ixL q (by rw [List.map_append]; simp) h
theorem OpD.ixB1 {x a : D} (q : Seq M x [a]) (h : Φ a M) : OpD K (oIx K) x (.int (-1)) M Φ := .ixL q rfl h
theorem OpD.ixB3 {x a b c : D} (q : Seq M x [a, b, c]) (h : Φ c M) : OpD K (oIx K) x (.int (-1)) M Φ := .ixL q rfl h
theorem OpD.ixB2 {x a b : D} (q : Seq M x [a, b]) (h : Φ b M) : OpD K (oIx K) x (.int (-1)) M Φ := .ixL q rfl h
theorem OpD.ixB4 {x a b c d : D} (q : Seq M x [a, b, c, d]) (h : Φ d M) : OpD K (oIx K) x (.int (-1)) M Φ := .ixL q rfl h
end
end L3

/-! enumerate of a tuple. -/
namespace L3
open PySem PySem.Spec PyProof.Rows L2
theorem meets_enumT (l : Addr) (items : Array Value) (n : Nat) (cc : Value) (dct : Option Addr) (sl : Array (Option Value)) (hc : cc = .type "tuple") :
    Meets (Builtin.«enumerate.__new__» ⟨[.type "enumerate", .ref l], []⟩) (fun _ R s => s.heap.get? l = some { cls := cc, dict := dct, data := .seq items n, slots := sl } ∧
      R (.ok (.ret (.ref (s.heap.push { cls := .type "tuple_iterator", data := .fields #[.ref l, .int 0 0] }).objs.size)))
        { s with heap := (s.heap.push { cls := .type "tuple_iterator", data := .fields #[.ref l, .int 0 0] }).push { cls := .type "enumerate", data := .fields #[.none, .bool false, .ref s.heap.objs.size, rawInt 0, .none, .none] } }) :=
  .of_wp fun prog w A R s h => by
    subst hc
    obtain ⟨hp, g, d, tk, os⟩ := s; obtain ⟨hl, h⟩ := h
    have hsub := sub_enumerate
    have hL : Heap.IsTuple (Shared.heap ⟨hp, g, d, tk, os⟩) l items := ⟨_, hl, rfl, n, rfl⟩
    wp_walk using wpAny_loadPart' hl
    refine wpAny_stack_any fun st => wpAny_pure ?_
    split
    · rename_i c _ _ _ _ _
      cases (c == Value.type "enumerate")
      · wp_walk using wpAny_loadPart' hl, wpAny_pyIter_tuple hL
        exact ⟨_, rfl, h⟩
      · wp_walk using wpAny_loadPart' hl, wpAny_pyIter_tuple hL
        exact ⟨_, rfl, h⟩
    · wp_walk using wpAny_loadPart' hl, wpAny_pyIter_tuple hL
      exact ⟨_, rfl, h⟩
section
variable {prog : Program} {w : World} {A : Around} {E : Value → Shared → Prop} {s : Shared}
theorem call_enumT {l : Addr} {items : Array Value} {Q : Value → Shared → Prop} (hL : s.heap.IsTuple l items)
    (h : ∀ h', IsEnum h' (s.heap.objs.size + 1) s.heap.objs.size 0 .none → h'.IsTupleIter s.heap.objs.size l 0 → h'.objs.size = s.heap.objs.size + 2 →
      (∀ b o, s.heap.get? b = some o → h'.get? b = some o) → Q (.ref (s.heap.objs.size + 1)) { s with heap := h' }) :
    wpAny (model prog w) A (call (.type "enumerate") [.ref l]) Q E s := by
  obtain ⟨⟨c, dct, dt, sl⟩, hl, hc, n, hd⟩ := hL
  replace hc : c = .type "tuple" := hc
  replace hd : dt = .seq items n := hd
  subst hc hd
  refine callType_new F.called_enumerate (by decide) (F.typeCall_enumerate_1 _) (F.newCall_enumerate_1 _) (fun obj => F.args_object_init_2 obj _) F.entry_enumerate_new
    (meets_enumT l items n _ dct sl rfl) ⟨hl, ?_⟩
  have hz : (s.heap.push { cls := .type "tuple_iterator", data := .fields #[.ref l, .int 0 0] }).objs.size = s.heap.objs.size + 1 := Heap.size_push ..
  show _ ∧ _
  rw [hz]
  have he : IsEnum ((s.heap.push { cls := .type "tuple_iterator", data := .fields #[.ref l, .int 0 0] }).push
      { cls := .type "enumerate", data := .fields #[.none, .bool false, .ref s.heap.objs.size, rawInt 0, .none, .none] }) (s.heap.objs.size + 1) s.heap.objs.size 0 .none := by
    have := Heap.get?_push_size (s.heap.push { cls := .type "tuple_iterator", data := .fields #[.ref l, .int 0 0] })
      (o := { cls := .type "enumerate", data := .fields #[.none, .bool false, .ref s.heap.objs.size, rawInt 0, .none, .none] }) rfl
    rw [hz] at this; exact this
  refine ⟨⟨_, he, rfl⟩, h _ he ⟨_, Heap.get?_push_of_some _ (Heap.get?_push_size _ rfl), rfl, rfl⟩ (by rw [Heap.size_push, hz]) fun b o x => Heap.get?_push_of_some _ (Heap.get?_push_of_some _ x)⟩
end
/-- the tuple at a as it stands at each turn, each item in a new pair -/
def IteT (K : PySem.W.Frag) (a : Addr) : It :=
  ⟨fun i H => ∃ (xs : List V) (x : V), SqT K H a xs ∧ xs[i]? = some x, fun i H v H' => ∃ T x, v = .ref T ∧ H T = none ∧ H' = upd H T (.tup [.int (i : Nat), x]) ∧ ∀ xs, SqT K H a xs → xs[i]? = some x, fun i H => ∃ xs : List V, SqT K H a xs ∧ xs.length ≤ i⟩
theorem turn_enumT {P : Program} {w : World} {K : PySem.W.Frag} {elts : List Expr} {kk : Nat} {tpos : Pos} (a e it : Addr) :
    Turn P w K (.Tuple elts kk tpos) (IteT K a) [e, it] e (fun i h => (∃ old, IsEnum h e it ((i : Nat) : Int) old) ∧ h.IsTupleIter it a i ∧ e ≠ it ∧ a ≠ it ∧ e ≠ a) where
  mem := by simp
  obj := fun i h st b hb => by
    obtain ⟨⟨old, he⟩, ⟨o, ho, hc, hd⟩, _⟩ := st
    have e' : b = e ∨ b = it := by simpa using hb
    rcases e' with z | z
    · rw [z]; exact ⟨_, he, fun v q => nomatch q⟩
    · rw [z]; exact ⟨o, ho, fun v q => by rw [hd] at q; cases q⟩
  keep := fun i h h' st k => let ⟨⟨old, he⟩, hi, hne⟩ := st; ⟨⟨old, k e (by simp) _ he⟩, hi.at fun o q => k it (by simp) o q, hne⟩
  item := by
    intro X hP hw hK hc i pins s σ H E I hf st hg
    subst hP hw hK
    obtain ⟨⟨old, he⟩, hit, hne, hai, hea⟩ := st
    obtain ⟨xs, x, hq, hx⟩ := hg
    obtain ⟨its, rv, p, hz⟩ := I.tuple hq
    obtain ⟨u, hu, ru⟩ := rv.get hx
    have hel : e < s.heap.objs.size := Heap.lt_size he
    have hil : it < s.heap.objs.size := by obtain ⟨_, q, _⟩ := hit; exact Heap.lt_size q
    have hlt : i < its.toArray.size := by have := (List.getElem?_eq_some_iff.mp hu).1; simpa using this
    have hh : X.A.handled = none := I.ok.hd hc
    refine wpAny_pyNext_enum_itemD (Draws.tuple (A := X.A.in1) hh it a hai its.toArray) he ⟨hit, p⟩ hlt hne (by simp [hne, hea]) fun u' h' tk hu' ho ⟨hit', _⟩ hT hsz hk => ?_
    have eu : u' = u := by
      have hu2 : its.toArray[i]? = some u := by simpa using hu
      rw [hu2] at hu'
      exact (Option.some.inj hu').symm
    subst eu
    refine ⟨_, rfl, wpAny_letOwnedTupleGo_enum (s := { s with heap := h', toks := tk + 1 }) ho fun h'' he' sb => ?_⟩
    have hT2 : h''.get? s.heap.objs.size = some { cls := .type "tuple", data := .seq #[.int i tk, u'] } := (sb.2 _ (Nat.ne_of_gt hel)).trans hT
    have new : ObjOk X.prog X.w (upd H s.heap.objs.size (.tup [.int (i : Nat), x])) h'' s.heap.objs.size (.tup [.int (i : Nat), x]) :=
      ⟨by show 2 ≤ sizeLine; decide, [.int i tk, u'], .cons ⟨_, rfl⟩ (.cons ru .nil), ⟨_, hT2, rfl, _, rfl⟩⟩
    have I1 : Inv X pins σ (upd H s.heap.objs.size (.tup [.int (i : Nat), x])) { s with heap := h'', toks := tk + 1 } :=
      I.turnedNew (ch := [e, it]) (fun b ob hb q => (sb.2 b (fun z => hb (by simp [z]))).trans (hk b ob (fun z => hb (by simp [z])) (fun z => hb (by simp [z])) q)) hf (Nat.le_refl _) new
    refine ⟨.ref s.heap.objs.size, _, I1, rfl, ⟨_, x, rfl, I.hok.fresh (Nat.le_refl _), rfl, fun ys hy => by rw [I.tuple_inj hy hq]; exact hx⟩, ⟨⟨u', ?_⟩, hit'.at fun o q => (sb.2 it (Ne.symm hne)).trans q, hne, hai, hea⟩, fun b hb => ?_⟩
    · have e1 : ((i + 1 : Nat) : Int) = (i : Int) + 1 := by omega
      rw [e1]; exact he'
    · have hb' : b < s.heap.objs.size := by
        have e' : b = e ∨ b = it := by simpa using hb
        rcases e' with z | z
        · rw [z]; exact hel
        · rw [z]; exact hil
      rw [upd_ne (Nat.ne_of_lt hb')]
      exact (hf b hb).1
  done := by
    intro X hP hw hK hc i pins s σ H E I hf st hg
    subst hP hw hK
    obtain ⟨⟨old, he⟩, hit, hne, hai, hea⟩ := st
    obtain ⟨xs, hq, hx⟩ := hg
    obtain ⟨its, rv, p, hz⟩ := I.tuple hq
    obtain ⟨f0, f1, f2, f3, f4, f5⟩ := hf it (by simp)
    have hl := rv.length
    have hh : X.A.handled = none := I.ok.hd hc
    have hT : s.TypeIs (.ref e) "enumerate" := ⟨_, he, rfl⟩
    have hnone : its.toArray[i]? = none := by simp; omega
    unfold pyNext
    refine wpAny_bind (wpAny_attempt (wpAny_callSpecial?_slot (name := Str.ofString "__next__") hT F.slot_enumerate_next
      (wpAny_call_entry F.slot_enumerate_next hT F.entry_enumerate_next ?_ (F.args_enumerate_next_1 _))))
    show wpAny _ _ (field (.ref e) 2 >>= _) _ _ _
    refine wpAny_bind (wpAny_field he rfl (x := .ref it) rfl ?_)
    refine wpAny_bind (wpAny_nextOf_tuple_end (A := X.A.in1) hh hit p hnone fun h' x he' hx' => ?_)
    obtain ⟨o, ho, hc'⟩ := hx'
    refine wpAny_bind (wpAny_isInstance (T := "StopIteration") (b := true) ⟨o, ho, hc'⟩ isSubtype_stop ?_)
    exact wpAny_pure ⟨rfl, I.turned (t' := s.toks) (fun b o hb q => he' b o hb q) f0 f1 f3 f4 f5⟩
  self := fun A i s Q E st h => let ⟨⟨_, he⟩, _⟩ := st; wpAny_pyIter_enum he h
def iEnumT (K : PySem.W.Frag) (ta : TA) : TI := fun σ H R => ta σ H fun vs H1 => ∃ a xs, vs = [.ref a] ∧ SqT K H1 a xs ∧ R (IteT K a) H1
theorem pi_enumT {X : Cx} {e : Expr} {ta : TA} {p pos tpos : Pos} {elts : List Expr} {kk : Nat} (hg : Gl X "enumerate") (hm : X.mg "enumerate" = none) (ha : PA X [e] ta) (hs : starEach [e] X.env = [(false, eval e X.env)] := by rfl) :
    PI X (.Tuple elts kk tpos) (.Call (.Name "enumerate" p) [e] [] pos) (iEnumT X.K ta) := by
  refine ⟨fun pins s σ H R I h => ?_⟩
  refine Call_ (ld_blt I hg hm boot_enumerate (PyProof.Rows.callWith_type1 (thn (ha.run pos pins s σ H _ I h) fun us s1 ⟨vs, H1, I1, r1, q1⟩ => ?_) hs rfl))
  obtain ⟨a, xs, ex, hq, q⟩ := q1
  subst ex
  cases r1 with
  | cons r rr =>
    cases rr
    cases r
    obtain ⟨its, rv, p', hz⟩ := I1.tuple hq
    obtain ⟨o1, ho1, _⟩ := id p'
    have hal : a < s1.heap.objs.size := Heap.lt_size ho1
    refine call_enumT p' fun h' he hit hsz hk => wpAny_pyIter_enum he ?_
    have I2 : Inv X pins σ H1 { s1 with heap := h' } := I1.kept (t' := s1.toks) hk
    refine ⟨s1.heap.objs.size + 1, [s1.heap.objs.size + 1, s1.heap.objs.size], _, _, H1, rfl, I2, turn_enumT a (s1.heap.objs.size + 1) s1.heap.objs.size, ⟨⟨.none, he⟩, hit, Nat.succ_ne_self _, Nat.ne_of_lt hal, Nat.ne_of_gt (Nat.lt_succ_of_lt hal)⟩, fun b hb => ?_, q⟩
    have e' : b = s1.heap.objs.size + 1 ∨ b = s1.heap.objs.size := by simpa using hb
    have hle : s1.heap.objs.size ≤ b := by
      rcases e' with z | z
      · rw [z]; exact Nat.le_add_right _ _
      · rw [z]; exact Nat.le_refl _
    exact I1.fpOk hle (I1.hok.fresh hle)
theorem q_enumT (K : PySem.W.Frag) {X : Cx} {e : Expr} {ta : TA} {p pos tpos : Pos} {elts : List Expr} {kk : Nat} (hg : Gl X "enumerate") (hm : X.mg "enumerate" = none) (ha : PA X [e] ta) (hs : starEach [e] X.env = [(false, eval e X.env)] := by rfl) (eK : X.K = K := by rfl) :
    PI X (.Tuple elts kk tpos) (.Call (.Name "enumerate" p) [e] [] pos) (iEnumT K ta) := by subst eK; exact pi_enumT hg hm ha hs
section
variable {K : PySem.W.Frag} {E : WX} {Ψ : PX} {ρ : Env3} {M : Mem}
inductive TupIt : List D → (Src → Prop) → Prop
  | mk {xs : List D} {P : Src → Prop} (h : P ⟨enumD xs, fun _ => True⟩) : TupIt [.tup xs] P
theorem WI.enumT {ta : TA} {Θ : Src → Mem → Prop} (h : WA K E ta ρ M (fun ys M1 => TupIt ys fun s => Θ s M1) Ψ) : WI K E (iEnumT K ta) ρ M Θ Ψ := fun σ F H Mf R e s k q =>
  h σ F H Mf _ e s k fun vs ys F1 H1 M1 ht r1 s1 c1 => by
    cases ht with
    | mk h1 =>
      cases r1 with
      | cons r rr =>
        cases rr
        cases r with
        | tup hq rs =>
          rename_i xs a us
          refine ⟨a, us, rfl, sqt_mono c1.sub hq, q _ F1 H1 M1 _ h1 s1 c1 fun F' H' M' Mf' e' s' n => ?_⟩
          have hq' : SqT K H' a us := sqt_mono s'.sub (sqt_mono e' hq)
          have rs' := rs.mono e'
          refine ⟨fun i hi => ?_, fun i hi => ⟨us, hq', by rw [rs'.len]; rw [enumD_len] at hi; exact hi⟩, fun i y v H'' hy yl => ?_⟩
          · have hi : i < us.length := by rw [rs'.len]; rw [enumD_len] at hi; exact hi
            exact ⟨us, us[i], hq', List.getElem?_eq_getElem hi⟩
          · obtain ⟨T, z, rfl, hT, rfl, hz⟩ := yl
            obtain ⟨x2, hx2, rfl⟩ := enumD_get hy
            obtain ⟨u, hu, ru⟩ := rs'.get hx2
            rw [hz us hq'] at hu
            cases hu
            exact ⟨_, s'.sameF hT, s'.newF hT, .tup (.inl (.inl upd_same)) (.cons (.int _) (.cons (ru.mono (s'.sameF hT)) .nil))⟩
end
end L3

/-! zip of three rows, of a text and a row: the kit's zip over iterators of any kind (KE.GoesZip), over the hand layer. -/
namespace Z3
open PySem PySem.Spec PyProof.Rows L2
/-- what is walked: a list, a tuple, a text -/
inductive Sr where
  | lst (a : Addr) | tup (a : Addr) | txt (x : Str)
def signs (x : Str) : List V := x.cps.toList.map fun c => V.str ⟨#[c]⟩
def SrO (K : PySem.W.Frag) (H : Hp) : Sr → List V → Prop
  | .lst a, xs => SqL K H a xs
  | .tup a, xs => SqT K H a xs
  | .txt x, xs => xs = signs x
def SrI (h : Heap) (it : Addr) : Sr → Nat → Prop
  | .lst a, i => h.IsListIter it a i
  | .tup a, i => h.IsTupleIter it a i
  | .txt x, i => ∃ t, h.IsStrIter it (strIterType x) x t i
def fpI (it : Addr) : Sr → List Addr
  | .lst a => [it, a]
  | .tup a => [it, a]
  | .txt _ => [it]
/-- the source lies below -/
def SrB (n : Nat) : Sr → Prop
  | .lst a => a < n
  | .tup a => a < n
  | .txt _ => True
theorem SrI.at {h h' : Heap} {it : Addr} {c : Sr} {i : Nat} (p : SrI h it c i) (k : ∀ o, h.get? it = some o → h'.get? it = some o) : SrI h' it c i := by
  cases c with
  | lst a => exact Heap.IsListIter.at p k
  | tup a => exact Heap.IsTupleIter.at p k
  | txt x =>
    obtain ⟨t, o, e, r⟩ := p
    exact ⟨t, o, k o e, r⟩
theorem SrI.lt {h : Heap} {it : Addr} {c : Sr} {i : Nat} (p : SrI h it c i) : it < h.objs.size := by
  cases c with
  | lst a => obtain ⟨_, e, _⟩ := p; exact Heap.lt_size e
  | tup a => obtain ⟨_, e, _⟩ := p; exact Heap.lt_size e
  | txt x => obtain ⟨_, _, e, _⟩ := p; exact Heap.lt_size e
theorem SrI.obj {h : Heap} {it : Addr} {c : Sr} {i : Nat} (p : SrI h it c i) : ∃ o, h.get? it = some o ∧ ∀ v, o.data ≠ .cell v := by
  cases c with
  | lst a => obtain ⟨o, e, _, d⟩ := p; exact ⟨o, e, fun v q => by rw [d] at q; cases q⟩
  | tup a => obtain ⟨o, e, _, d⟩ := p; exact ⟨o, e, fun v q => by rw [d] at q; cases q⟩
  | txt x => obtain ⟨_, o, e, _, d⟩ := p; exact ⟨o, e, fun v q => by rw [d] at q; cases q⟩
theorem SrO.inj {X : Cx} {pins : List (Addr × Obj)} {σ : L2.St} {H : Hp} {s : Shared} {c : Sr} {xs ys : List V} (I : Inv X pins σ H s) (q : SrO X.K H c xs) (r : SrO X.K H c ys) : xs = ys := by
  cases c with
  | lst a => exact I.list_inj q r
  | tup a => exact I.tuple_inj q r
  | txt x => exact q.trans r.symm
theorem SrO.below {X : Cx} {pins : List (Addr × Obj)} {σ : L2.St} {H : Hp} {s : Shared} {c : Sr} {xs : List V} (I : Inv X pins σ H s) (q : SrO X.K H c xs) : SrB s.heap.objs.size c := by
  cases c with
  | lst a => obtain ⟨_, _, ⟨_, _, e, _⟩, _⟩ := I.list q; exact Heap.lt_size e
  | tup a => obtain ⟨_, _, ⟨_, e, _⟩, _⟩ := I.tuple q; exact Heap.lt_size e
  | txt x => exact True.intro
/-- the kit's drawing from a source as it stands -/
theorem draws_of {X : Cx} {pins : List (Addr × Obj)} {σ : L2.St} {H : Hp} {s : Shared} {c : Sr} {xs : List V} {A : Around} {it : Addr} {i : Nat} (hh : A.handled = none) (I : Inv X pins σ H s) (q : SrO X.K H c xs) (hi : SrI s.heap it c i) (ne : it ∉ (fpI it c).tail) :
    ∃ (P : Nat → Value → Prop) (St : Nat → Heap → Prop), Draws X.prog X.w A it (fpI it c) xs.length P St ∧ St i s.heap ∧ (∀ j h, St j h → SrI h it c j) ∧ ∀ j v, P j v → ∃ x, xs[j]? = some x ∧ RelV x v := by
  cases c with
  | lst a =>
    obtain ⟨its, r, p, _⟩ := I.list q
    have hne : a ≠ it := fun e => ne (by subst e; exact List.mem_cons_self)
    have hl : its.toArray.size = xs.length := by rw [r.length]; simp
    refine ⟨_, _, hl ▸ Draws.list hh it a hne its.toArray, ⟨hi, p.isList⟩, fun j h st => st.1, fun j v hv => ?_⟩
    have hj : j < xs.length := by
      rw [r.length]
      have := (Array.getElem?_eq_some_iff.mp hv).1
      simpa using this
    refine ⟨xs[j], List.getElem?_eq_getElem hj, ?_⟩
    obtain ⟨u, hu, ru⟩ := r.get (List.getElem?_eq_getElem hj)
    have : its[j]? = some v := by simpa using hv
    rw [hu] at this
    cases this
    exact ru
  | tup a =>
    obtain ⟨its, r, p, _⟩ := I.tuple q
    have hne : a ≠ it := fun e => ne (by subst e; exact List.mem_cons_self)
    have hl : its.toArray.size = xs.length := by rw [r.length]; simp
    refine ⟨_, _, hl ▸ Draws.tuple hh it a hne its.toArray, ⟨hi, p⟩, fun j h st => st.1, fun j v hv => ?_⟩
    have hj : j < xs.length := by
      rw [r.length]
      have := (Array.getElem?_eq_some_iff.mp hv).1
      simpa using this
    refine ⟨xs[j], List.getElem?_eq_getElem hj, ?_⟩
    obtain ⟨u, hu, ru⟩ := r.get (List.getElem?_eq_getElem hj)
    have : its[j]? = some v := by simpa using hv
    rw [hu] at this
    cases this
    exact ru
  | txt x =>
    obtain ⟨t, hi⟩ := hi
    have hl : x.cps.size = xs.length := by
      rw [show xs = signs x from q]
      unfold signs
      simp
    refine ⟨_, _, hl ▸ Draws.text hh it x t, hi, fun j h st => ⟨t, st⟩, fun j v hv => ?_⟩
    obtain ⟨c, u, hc, rfl⟩ := hv
    refine ⟨.str ⟨#[c]⟩, ?_, u, rfl⟩
    rw [show xs = signs x from q]
    unfold signs
    rw [List.getElem?_map, Array.getElem?_toList, hc]
    rfl
/-- how a source begins -/
theorem begins_of {X : Cx} {pins : List (Addr × Obj)} {σ : L2.St} {H : Hp} {s : Shared} {c : Sr} {xs : List V} {v : V} {u : Value} (I : Inv X pins σ H s) (q : SrO X.K H c xs) (r : RelV v u) (hv : match c with | .lst a => v = .ref a | .tup a => v = .ref a | .txt x => v = .str x) :
    ∃ (o : Obj) (Hs : Heap → Prop), Begins u o Hs ∧ Hs s.heap ∧ ∀ (h : Heap) (it : Addr), h.get? it = some o → SrI h it c 0 := by
  cases c with
  | lst a =>
    have hv : v = .ref a := hv
    subst hv
    cases r
    obtain ⟨its, r, p, _⟩ := I.list q
    exact ⟨_, _, begins_list a its.toArray, p.isList, fun h it e => ⟨_, e, rfl, rfl⟩⟩
  | tup a =>
    have hv : v = .ref a := hv
    subst hv
    cases r
    obtain ⟨its, r, p, _⟩ := I.tuple q
    exact ⟨_, _, begins_tuple a its.toArray, p, fun h it e => ⟨_, e, rfl, rfl⟩⟩
  | txt x =>
    have hv : v = .str x := hv
    subst hv
    obtain ⟨t, rfl⟩ := r
    exact ⟨_, _, begins_text x t, trivial, fun h it e => ⟨t, _, e, rfl, rfl⟩⟩
/-- .. where the source has ended: the same with no turn left -/
theorem draws_end {X : Cx} {pins : List (Addr × Obj)} {σ : L2.St} {H : Hp} {s : Shared} {c : Sr} {xs : List V} {A : Around} {it : Addr} {i : Nat} (hh : A.handled = none) (I : Inv X pins σ H s) (q : SrO X.K H c xs) (hi : SrI s.heap it c i) (hl : xs.length ≤ i) :
    ∃ (P : Nat → Value → Prop) (St : Nat → Heap → Prop), Draws X.prog X.w A it (fpI it c) i P St ∧ St i s.heap := by
  cases c with
  | lst a =>
    obtain ⟨its, r, p, _⟩ := I.list q
    have hn : its.toArray[i]? = none := by
      have := r.length
      simp
      omega
    refine ⟨fun _ _ => False, fun j h => j = i ∧ h.IsListIter it a i ∧ h.IsList a its.toArray, ⟨fun _ _ st => let ⟨o, ho, _⟩ := st.2.1; ⟨o, ho⟩, fun _ _ _ st hk => ⟨st.1, st.2.1.at fun o e => hk it (by simp [fpI]) o e, st.2.2.at fun o e => hk a (by simp [fpI]) o e⟩, fun j s Q E hj st => absurd st.1 (by omega), fun s Q E st hE => wpAny_nextOf_list_end hh st.2.1 st.2.2 hn hE⟩, rfl, hi, p.isList⟩
  | tup a =>
    obtain ⟨its, r, p, _⟩ := I.tuple q
    have hn : its.toArray[i]? = none := by
      have := r.length
      simp
      omega
    refine ⟨fun _ _ => False, fun j h => j = i ∧ h.IsTupleIter it a i ∧ h.IsTuple a its.toArray, ⟨fun _ _ st => let ⟨o, ho, _⟩ := st.2.1; ⟨o, ho⟩, fun _ _ _ st hk => ⟨st.1, st.2.1.at fun o e => hk it (by simp [fpI]) o e, st.2.2.at fun o e => hk a (by simp [fpI]) o e⟩, fun j s Q E hj st => absurd st.1 (by omega), fun s Q E st hE => wpAny_nextOf_tuple_end hh st.2.1 st.2.2 hn hE⟩, rfl, hi, p⟩
  | txt x =>
    obtain ⟨t, hi⟩ := hi
    have hn : x.cps[i]? = none := by
      rw [show xs = signs x from q] at hl
      unfold signs at hl
      simp at hl
      simp
      exact hl
    refine ⟨fun _ _ => False, fun j h => j = i ∧ h.IsStrIter it (strIterType x) x t i, ⟨fun _ _ st => let ⟨o, ho, _⟩ := st.2; ⟨o, ho⟩, fun _ _ _ st hk => ⟨st.1, let ⟨o, ho, r⟩ := st.2; ⟨o, hk it (by simp [fpI]) o ho, r⟩⟩, fun j s Q E hj st => absurd st.1 (by omega), fun s Q E st hE => ?_⟩, rfl, hi⟩
    have st := st.2
    unfold strIterType at st
    split at st
    · exact wpAny_nextOf_ascii_end hh st hn hE
    · exact wpAny_nextOf_wide_end hh st hn hE
/-- either way: at most as many turns as it has -/
theorem draws_any {X : Cx} {pins : List (Addr × Obj)} {σ : L2.St} {H : Hp} {s : Shared} {c : Sr} {xs : List V} {A : Around} {it : Addr} {i : Nat} (hh : A.handled = none) (I : Inv X pins σ H s) (q : SrO X.K H c xs) (hi : SrI s.heap it c i) (ne : it ∉ (fpI it c).tail) :
    ∃ (n : Nat) (P : Nat → Value → Prop) (St : Nat → Heap → Prop), Draws X.prog X.w A it (fpI it c) n P St ∧ St i s.heap ∧ i ≤ n ∧ (xs.length ≤ i → i = n) := by
  by_cases hl : xs.length ≤ i
  · obtain ⟨P, St, D, st⟩ := draws_end hh I q hi hl
    exact ⟨i, P, St, D, st, Nat.le_refl _, fun _ => rfl⟩
  · obtain ⟨P, St, D, st, _⟩ := draws_of hh I q hi ne
    exact ⟨_, P, St, D, st, by omega, fun z => absurd z hl⟩
theorem fp_low {n it b : Addr} {c : Sr} (hb : SrB n c) (h : b ∈ fpI it c) : b = it ∨ b < n := by
  cases c with
  | lst a =>
    rcases List.mem_cons.mp h with h | h
    · exact .inl h
    · obtain rfl := List.mem_singleton.mp h
      exact .inr hb
  | tup a =>
    rcases List.mem_cons.mp h with h | h
    · exact .inl h
    · obtain rfl := List.mem_singleton.mp h
      exact .inr hb
  | txt x => exact .inl (List.mem_singleton.mp h)
theorem tl_low {n it b : Addr} {c : Sr} (hb : SrB n c) (h : b ∈ (fpI it c).tail) : b < n := by
  cases c with
  | lst a =>
    obtain rfl := List.mem_singleton.mp h
    exact hb
  | tup a =>
    obtain rfl := List.mem_singleton.mp h
    exact hb
  | txt x => cases h
theorem fp_it {it : Addr} {c : Sr} : it ∈ fpI it c := by cases c <;> exact List.mem_cons_self
theorem neA {a b : Nat} (h : a ≠ b) : a ≠ b := h
theorem tl_no {I b : Nat} {it : Addr} {c : Sr} (h : SrB I c) (hb : I ≤ b) : b ∉ (fpI it c).tail := fun z => absurd (tl_low h z) (Nat.not_lt.mpr hb)
theorem sep2 {I : Nat} {c1 c2 : Sr} (b1 : SrB I c1) (b2 : SrB I c2) : ZipSep2 (I + 4) (I + 2) (I + 3) I (I + 1) (fpI I c1) (fpI (I + 1) c2) := by
  have hz : ∀ (k : Nat) (it : Addr) (c : Sr), SrB I c → it ≠ I + k → I + k ∉ fpI it c := fun k it c hb hne h => by
    rcases fp_low hb h with h | h
    · exact hne h.symm
    · exact absurd h (Nat.not_lt.mpr (Nat.le_add_right _ _))
  exact ⟨(by refine neA ?_; omega), (by refine neA ?_; omega), (by refine neA ?_; omega), (by refine neA ?_; omega), fp_it, hz 4 _ _ b1 (by refine neA ?_; omega), hz 3 _ _ b1 (by refine neA ?_; omega), (by refine neA ?_; omega), fp_it, hz 4 _ _ b2 (by refine neA ?_; omega), hz 3 _ _ b2 (by refine neA ?_; omega), hz 0 _ _ b2 (by refine neA ?_; omega), hz 1 _ _ b1 (by refine neA ?_; omega)⟩
def It2 (K : PySem.W.Frag) (c1 c2 : Sr) : It :=
  ⟨fun i H => ∃ xs1 xs2 : List V, SrO K H c1 xs1 ∧ SrO K H c2 xs2 ∧ i < xs1.length ∧ i < xs2.length,
    fun i H v H' => ∃ (T : Addr) (x1 x2 : V), v = .ref T ∧ H T = none ∧ H' = upd H T (.tup [x1, x2]) ∧ (∀ xs, SrO K H c1 xs → xs[i]? = some x1) ∧ (∀ xs, SrO K H c2 xs → xs[i]? = some x2),
    fun i H => ∃ xs1 xs2 : List V, SrO K H c1 xs1 ∧ SrO K H c2 xs2 ∧ (xs1.length ≤ i ∨ xs2.length ≤ i)⟩
theorem turn2 {P : Program} {w : World} {K : PySem.W.Frag} {elts : List Expr} {kk : Nat} {tpos : Pos} {I : Nat} {c1 c2 : Sr} (b1 : SrB I c1) (b2 : SrB I c2) :
    Turn P w K (.Tuple elts kk tpos) (It2 K c1 c2) [I + 4, I + 2, I + 3, I, (I + 1)] (I + 4) (fun i h => IsZip h (I + 4) (I + 2) (I + 3) .none ∧ IsTupOf2 h (I + 2) (.ref I) (.ref (I + 1)) ∧ (∃ a1 a2, IsTupOf2 h (I + 3) a1 a2) ∧ SrI h I c1 i ∧ SrI h (I + 1) c2 i) where
  mem := by simp
  obj := fun i h st c hc => by
    obtain ⟨hz, hTI, ⟨a1, a2, hTO⟩, h1, h2⟩ := st
    have e' : c = I + 4 ∨ c = I + 2 ∨ c = I + 3 ∨ c = I ∨ c = (I + 1) := by simpa using hc
    rcases e' with q | q | q | q | q
    · rw [q]; exact ⟨_, hz, fun v q => nomatch q⟩
    · rw [q]; exact ⟨_, hTI, fun v q => nomatch q⟩
    · rw [q]; exact ⟨_, hTO, fun v q => nomatch q⟩
    · rw [q]; exact h1.obj
    · rw [q]; exact h2.obj
  keep := fun i h h' st k => by
    obtain ⟨hz, hTI, ⟨a1, a2, hTO⟩, h1, h2⟩ := st
    exact ⟨k _ (by simp) _ hz, k _ (by simp) _ hTI, ⟨a1, a2, k _ (by simp) _ hTO⟩, h1.at fun o q => k _ (by simp) o q, h2.at fun o q => k _ (by simp) o q⟩
  item := by
    intro X hP hw hK hc i pins s σ H E I0 hf st hg
    subst hP hw hK
    obtain ⟨hz, hTI, ⟨a1, a2, hTO⟩, h1, h2⟩ := st
    obtain ⟨xs1, xs2, q1, q2, l1, l2⟩ := hg
    have hd := I0.ok.hd hc
    obtain ⟨P1, St1, D1, s1, e1, g1⟩ := draws_of (A := X.A.in1) (it := I) hd I0 q1 h1 (tl_no b1 (by first | exact Nat.le_refl _ | exact Nat.le_add_right _ _))
    obtain ⟨P2, St2, D2, s2, e2, g2⟩ := draws_of (A := X.A.in1) (it := (I + 1)) hd I0 q2 h2 (tl_no b2 (by first | exact Nat.le_refl _ | exact Nat.le_add_right _ _))
    have hzl : I + 4 < s.heap.objs.size := Heap.lt_size hz
    refine wpAny_pyNext_zipD2_item (sep2 b1 b2) D1 D2 hz hTI hTO s1 s2 l1 l2 fun u1 u2 h' tk p1 p2 z' TO' t1 t2 hT hsz hk => ?_
    refine ⟨_, rfl, wpAny_letOwnedTupleGo_zip (s := { s with heap := h', toks := tk }) z' fun h'' z'' sb => ?_⟩
    obtain ⟨v1, hv1, r1⟩ := g1 _ _ p1
    obtain ⟨v2, hv2, r2⟩ := g2 _ _ p2
    have hT2 : h''.get? s.heap.objs.size = some { cls := .type "tuple", data := .seq #[u1, u2] } := (sb.2 _ (Nat.ne_of_gt hzl)).trans hT
    have new : ObjOk X.prog X.w (upd H s.heap.objs.size (.tup [v1, v2])) h'' s.heap.objs.size (.tup [v1, v2]) := ⟨by show 2 ≤ sizeLine; decide, [u1, u2], (.cons r1 (.cons r2 .nil)), ⟨_, hT2, rfl, _, rfl⟩⟩
    have I1 : Inv X pins σ (upd H s.heap.objs.size (.tup [v1, v2])) { s with heap := h'', toks := tk } :=
      I0.turnedNew (t' := tk) (ch := [I + 4, I + 2, I + 3, I, (I + 1)]) (fun c o hb q => (sb.2 c (fun q' => hb (by simp [q']))).trans (hk c o (fun q' => hb (by simp [q'])) (fun q' => hb (by simp [q'])) (fun q' => hb (by simp [q'])) (fun q' => hb (by simp [q'])) q)) hf (Nat.le_refl _) new
    refine ⟨.ref s.heap.objs.size, _, I1, rfl, ⟨_, v1, v2, rfl, I0.hok.fresh (Nat.le_refl _), rfl, (fun l hl => (SrO.inj I0 hl q1) ▸ hv1), (fun l hl => (SrO.inj I0 hl q2) ▸ hv2)⟩, ⟨z'', ?_, ⟨u1, u2, ?_⟩, (e1 _ _ t1).at fun o q => (sb.2 _ (by refine neA ?_; omega)).trans q, (e2 _ _ t2).at fun o q => (sb.2 _ (by refine neA ?_; omega)).trans q⟩, fun c hcm => ?_⟩
    · exact (sb.2 _ (by refine neA ?_; omega)).trans (hk _ _ (by refine neA ?_; omega) (by refine neA ?_; omega) (by refine neA ?_; omega) (by refine neA ?_; omega) hTI)
    · exact (sb.2 _ (by refine neA ?_; omega)).trans TO'
    · have hlt : c < s.heap.objs.size := by
        have e' : c = I + 4 ∨ c = I + 2 ∨ c = I + 3 ∨ c = I ∨ c = (I + 1) := by simpa using hcm
        rcases e' with q | q | q | q | q <;> rw [q]
        · exact hzl
        · exact Heap.lt_size hTI
        · exact Heap.lt_size hTO
        · exact h1.lt
        · exact h2.lt
      rw [upd_ne (Nat.ne_of_lt hlt)]
      exact (hf c hcm).1
  done := by
    intro X hP hw hK hc i pins s σ H E I0 hf st hg
    subst hP hw hK
    obtain ⟨hz, hTI, ⟨a1, a2, hTO⟩, h1, h2⟩ := st
    obtain ⟨xs1, xs2, q1, q2, hend⟩ := hg
    have hd := I0.ok.hd hc
    obtain ⟨n1, P1, St1, D1, s1, e1, g1⟩ := draws_any (A := X.A.in1) (it := I) hd I0 q1 h1 (tl_no b1 (by first | exact Nat.le_refl _ | exact Nat.le_add_right _ _))
    obtain ⟨n2, P2, St2, D2, s2, e2, g2⟩ := draws_any (A := X.A.in1) (it := (I + 1)) hd I0 q2 h2 (tl_no b2 (by first | exact Nat.le_refl _ | exact Nat.le_add_right _ _))
    refine wpAny_pyNext_zipD2_end (sep2 b1 b2) D1 D2 hz hTI hTO s1 s2 e1 e2 ?_ fun h' tk hk => ⟨rfl, I0.turnedL (t' := tk) (ch := [I + 4, I + 2, I + 3, I, (I + 1)]) (fun c o hb q => hk c o (fun q' => hb (by simp [q'])) (fun q' => hb (by simp [q'])) (fun q' => hb (by simp [q'])) (fun q' => hb (by simp [q'])) q) hf⟩
    rcases hend with q | q
    · exact .inl (g1 q)
    · exact .inr (g2 q)
  self := fun A i s Q E st h => wpAny_pyIter_zip st.1 h
def svK : Sr → V
  | .lst a => .ref a
  | .tup a => .ref a
  | .txt x => .str x
def iZip2 (K : PySem.W.Frag) (ta : TA) : TI := fun σ H R => ta σ H fun vs H1 => ∃ (c1 c2 : Sr) (xs1 xs2 : List V), vs = [svK c1, svK c2] ∧ SrO K H1 c1 xs1 ∧ SrO K H1 c2 xs2 ∧ R (It2 K c1 c2) H1
theorem pi_zip2 {X : Cx} {e1 e2 : Expr} {ta : TA} {p pos tpos : Pos} {elts : List Expr} {kk : Nat} (hg : Gl X "zip") (hm : X.mg "zip" = none) (ha : PA X [e1, e2] ta)
    (hs : starEach [e1, e2] X.env = (false, eval e1 X.env) :: starEach [e2] X.env := by rfl) (hpl : (backTo pos (starEach [e2] X.env)).any (·.1) = false := by rfl) :
    PI X (.Tuple elts kk tpos) (.Call (.Name "zip" p) [e1, e2] [] pos) (iZip2 X.K ta) := by
  refine ⟨fun pins s σ H R I h => ?_⟩
  refine Call_ (ld_blt I hg hm PyProof.Rows.boot_zip (PyProof.Rows.callWith_type1 (thn (ha.run pos pins s σ H _ I h) fun us s1 ⟨vs, H1, I1, r1, q1⟩ => ?_) hs hpl))
  obtain ⟨c1, c2, xs1, xs2, ex, o1, o2, q⟩ := q1
  subst ex
  obtain _ | ⟨w1, rr1⟩ := r1
  obtain _ | ⟨w2, rr2⟩ := rr1
  cases rr2
  obtain ⟨m1, Hs1, B1, f1, j1⟩ := begins_of I1 o1 w1 (by cases c1 <;> rfl)
  obtain ⟨m2, Hs2, B2, f2, j2⟩ := begins_of I1 o2 w2 (by cases c2 <;> rfl)
  have fresh : ∀ c, c ∈ [s1.heap.objs.size + 4, s1.heap.objs.size + 2, s1.heap.objs.size + 3, s1.heap.objs.size, s1.heap.objs.size + 1] → FpOk X pins H1 c := fun c hcm => by
    have hle : s1.heap.objs.size ≤ c := by
      simp only [List.mem_cons, List.not_mem_nil, or_false] at hcm
      rcases hcm with z | z | z | z | z <;> rw [z] <;> first | exact Nat.le_refl _ | exact Nat.le_add_right _ _
    exact I1.fpOk hle (I1.hok.fresh hle)
  refine zip_begins2 B1 B2 f1 f2 fun h' hz hTI hTO y1 y2 hsz hk => wpAny_pyIter_zip hz ?_
  have I2 : Inv X pins σ H1 { s1 with heap := h' } := I1.kept (t' := s1.toks) hk
  exact ⟨s1.heap.objs.size + 4, [s1.heap.objs.size + 4, s1.heap.objs.size + 2, s1.heap.objs.size + 3, s1.heap.objs.size, s1.heap.objs.size + 1], _, _, H1, rfl, I2, turn2 (o1.below I1) (o2.below I1), ⟨hz, hTI, ⟨_, _, hTO⟩, j1 _ _ y1, j2 _ _ y2⟩, fresh, q⟩
theorem sep3 {I : Nat} {c1 c2 c3 : Sr} (b1 : SrB I c1) (b2 : SrB I c2) (b3 : SrB I c3) : ZipSep3 (I + 5) (I + 3) (I + 4) I (I + 1) (I + 2) (fpI I c1) (fpI (I + 1) c2) (fpI (I + 2) c3) := by
  have hz : ∀ (k : Nat) (it : Addr) (c : Sr), SrB I c → it ≠ I + k → I + k ∉ fpI it c := fun k it c hb hne h => by
    rcases fp_low hb h with h | h
    · exact hne h.symm
    · exact absurd h (Nat.not_lt.mpr (Nat.le_add_right _ _))
  exact ⟨(by refine neA ?_; omega), (by refine neA ?_; omega), (by refine neA ?_; omega), (by refine neA ?_; omega), fp_it, hz 5 _ _ b1 (by refine neA ?_; omega), hz 4 _ _ b1 (by refine neA ?_; omega), (by refine neA ?_; omega), fp_it, hz 5 _ _ b2 (by refine neA ?_; omega), hz 4 _ _ b2 (by refine neA ?_; omega), (by refine neA ?_; omega), fp_it, hz 5 _ _ b3 (by refine neA ?_; omega), hz 4 _ _ b3 (by refine neA ?_; omega), hz 0 _ _ b2 (by refine neA ?_; omega), hz 0 _ _ b3 (by refine neA ?_; omega), hz 1 _ _ b1 (by refine neA ?_; omega), hz 1 _ _ b3 (by refine neA ?_; omega), hz 2 _ _ b1 (by refine neA ?_; omega), hz 2 _ _ b2 (by refine neA ?_; omega)⟩
def It3 (K : PySem.W.Frag) (c1 c2 c3 : Sr) : It :=
  ⟨fun i H => ∃ xs1 xs2 xs3 : List V, SrO K H c1 xs1 ∧ SrO K H c2 xs2 ∧ SrO K H c3 xs3 ∧ i < xs1.length ∧ i < xs2.length ∧ i < xs3.length,
    fun i H v H' => ∃ (T : Addr) (x1 x2 x3 : V), v = .ref T ∧ H T = none ∧ H' = upd H T (.tup [x1, x2, x3]) ∧ (∀ xs, SrO K H c1 xs → xs[i]? = some x1) ∧ (∀ xs, SrO K H c2 xs → xs[i]? = some x2) ∧ (∀ xs, SrO K H c3 xs → xs[i]? = some x3),
    fun i H => ∃ xs1 xs2 xs3 : List V, SrO K H c1 xs1 ∧ SrO K H c2 xs2 ∧ SrO K H c3 xs3 ∧ (xs1.length ≤ i ∨ xs2.length ≤ i ∨ xs3.length ≤ i)⟩
theorem turn3 {P : Program} {w : World} {K : PySem.W.Frag} {elts : List Expr} {kk : Nat} {tpos : Pos} {I : Nat} {c1 c2 c3 : Sr} (b1 : SrB I c1) (b2 : SrB I c2) (b3 : SrB I c3) :
    Turn P w K (.Tuple elts kk tpos) (It3 K c1 c2 c3) [I + 5, I + 3, I + 4, I, (I + 1), (I + 2)] (I + 5) (fun i h => IsZip h (I + 5) (I + 3) (I + 4) .none ∧ IsTupOf3 h (I + 3) (.ref I) (.ref (I + 1)) (.ref (I + 2)) ∧ (∃ a1 a2 a3, IsTupOf3 h (I + 4) a1 a2 a3) ∧ SrI h I c1 i ∧ SrI h (I + 1) c2 i ∧ SrI h (I + 2) c3 i) where
  mem := by simp
  obj := fun i h st c hc => by
    obtain ⟨hz, hTI, ⟨a1, a2, a3, hTO⟩, h1, h2, h3⟩ := st
    have e' : c = I + 5 ∨ c = I + 3 ∨ c = I + 4 ∨ c = I ∨ c = (I + 1) ∨ c = (I + 2) := by simpa using hc
    rcases e' with q | q | q | q | q | q
    · rw [q]; exact ⟨_, hz, fun v q => nomatch q⟩
    · rw [q]; exact ⟨_, hTI, fun v q => nomatch q⟩
    · rw [q]; exact ⟨_, hTO, fun v q => nomatch q⟩
    · rw [q]; exact h1.obj
    · rw [q]; exact h2.obj
    · rw [q]; exact h3.obj
  keep := fun i h h' st k => by
    obtain ⟨hz, hTI, ⟨a1, a2, a3, hTO⟩, h1, h2, h3⟩ := st
    exact ⟨k _ (by simp) _ hz, k _ (by simp) _ hTI, ⟨a1, a2, a3, k _ (by simp) _ hTO⟩, h1.at fun o q => k _ (by simp) o q, h2.at fun o q => k _ (by simp) o q, h3.at fun o q => k _ (by simp) o q⟩
  item := by
    intro X hP hw hK hc i pins s σ H E I0 hf st hg
    subst hP hw hK
    obtain ⟨hz, hTI, ⟨a1, a2, a3, hTO⟩, h1, h2, h3⟩ := st
    obtain ⟨xs1, xs2, xs3, q1, q2, q3, l1, l2, l3⟩ := hg
    have hd := I0.ok.hd hc
    obtain ⟨P1, St1, D1, s1, e1, g1⟩ := draws_of (A := X.A.in1) (it := I) hd I0 q1 h1 (tl_no b1 (by first | exact Nat.le_refl _ | exact Nat.le_add_right _ _))
    obtain ⟨P2, St2, D2, s2, e2, g2⟩ := draws_of (A := X.A.in1) (it := (I + 1)) hd I0 q2 h2 (tl_no b2 (by first | exact Nat.le_refl _ | exact Nat.le_add_right _ _))
    obtain ⟨P3, St3, D3, s3, e3, g3⟩ := draws_of (A := X.A.in1) (it := (I + 2)) hd I0 q3 h3 (tl_no b3 (by first | exact Nat.le_refl _ | exact Nat.le_add_right _ _))
    have hzl : I + 5 < s.heap.objs.size := Heap.lt_size hz
    refine wpAny_pyNext_zipD3_item (sep3 b1 b2 b3) D1 D2 D3 hz hTI hTO s1 s2 s3 l1 l2 l3 fun u1 u2 u3 h' tk p1 p2 p3 z' TO' t1 t2 t3 hT hsz hk => ?_
    refine ⟨_, rfl, wpAny_letOwnedTupleGo_zip (s := { s with heap := h', toks := tk }) z' fun h'' z'' sb => ?_⟩
    obtain ⟨v1, hv1, r1⟩ := g1 _ _ p1
    obtain ⟨v2, hv2, r2⟩ := g2 _ _ p2
    obtain ⟨v3, hv3, r3⟩ := g3 _ _ p3
    have hT2 : h''.get? s.heap.objs.size = some { cls := .type "tuple", data := .seq #[u1, u2, u3] } := (sb.2 _ (Nat.ne_of_gt hzl)).trans hT
    have new : ObjOk X.prog X.w (upd H s.heap.objs.size (.tup [v1, v2, v3])) h'' s.heap.objs.size (.tup [v1, v2, v3]) := ⟨by show 3 ≤ sizeLine; decide, [u1, u2, u3], (.cons r1 (.cons r2 (.cons r3 .nil))), ⟨_, hT2, rfl, _, rfl⟩⟩
    have I1 : Inv X pins σ (upd H s.heap.objs.size (.tup [v1, v2, v3])) { s with heap := h'', toks := tk } :=
      I0.turnedNew (t' := tk) (ch := [I + 5, I + 3, I + 4, I, (I + 1), (I + 2)]) (fun c o hb q => (sb.2 c (fun q' => hb (by simp [q']))).trans (hk c o (fun q' => hb (by simp [q'])) (fun q' => hb (by simp [q'])) (fun q' => hb (by simp [q'])) (fun q' => hb (by simp [q'])) (fun q' => hb (by simp [q'])) q)) hf (Nat.le_refl _) new
    refine ⟨.ref s.heap.objs.size, _, I1, rfl, ⟨_, v1, v2, v3, rfl, I0.hok.fresh (Nat.le_refl _), rfl, (fun l hl => (SrO.inj I0 hl q1) ▸ hv1), (fun l hl => (SrO.inj I0 hl q2) ▸ hv2), (fun l hl => (SrO.inj I0 hl q3) ▸ hv3)⟩, ⟨z'', ?_, ⟨u1, u2, u3, ?_⟩, (e1 _ _ t1).at fun o q => (sb.2 _ (by refine neA ?_; omega)).trans q, (e2 _ _ t2).at fun o q => (sb.2 _ (by refine neA ?_; omega)).trans q, (e3 _ _ t3).at fun o q => (sb.2 _ (by refine neA ?_; omega)).trans q⟩, fun c hcm => ?_⟩
    · exact (sb.2 _ (by refine neA ?_; omega)).trans (hk _ _ (by refine neA ?_; omega) (by refine neA ?_; omega) (by refine neA ?_; omega) (by refine neA ?_; omega) (by refine neA ?_; omega) hTI)
    · exact (sb.2 _ (by refine neA ?_; omega)).trans TO'
    · have hlt : c < s.heap.objs.size := by
        have e' : c = I + 5 ∨ c = I + 3 ∨ c = I + 4 ∨ c = I ∨ c = (I + 1) ∨ c = (I + 2) := by simpa using hcm
        rcases e' with q | q | q | q | q | q <;> rw [q]
        · exact hzl
        · exact Heap.lt_size hTI
        · exact Heap.lt_size hTO
        · exact h1.lt
        · exact h2.lt
        · exact h3.lt
      rw [upd_ne (Nat.ne_of_lt hlt)]
      exact (hf c hcm).1
  done := by
    intro X hP hw hK hc i pins s σ H E I0 hf st hg
    subst hP hw hK
    obtain ⟨hz, hTI, ⟨a1, a2, a3, hTO⟩, h1, h2, h3⟩ := st
    obtain ⟨xs1, xs2, xs3, q1, q2, q3, hend⟩ := hg
    have hd := I0.ok.hd hc
    obtain ⟨n1, P1, St1, D1, s1, e1, g1⟩ := draws_any (A := X.A.in1) (it := I) hd I0 q1 h1 (tl_no b1 (by first | exact Nat.le_refl _ | exact Nat.le_add_right _ _))
    obtain ⟨n2, P2, St2, D2, s2, e2, g2⟩ := draws_any (A := X.A.in1) (it := (I + 1)) hd I0 q2 h2 (tl_no b2 (by first | exact Nat.le_refl _ | exact Nat.le_add_right _ _))
    obtain ⟨n3, P3, St3, D3, s3, e3, g3⟩ := draws_any (A := X.A.in1) (it := (I + 2)) hd I0 q3 h3 (tl_no b3 (by first | exact Nat.le_refl _ | exact Nat.le_add_right _ _))
    refine wpAny_pyNext_zipD3_end (sep3 b1 b2 b3) D1 D2 D3 hz hTI hTO s1 s2 s3 e1 e2 e3 ?_ fun h' tk hk => ⟨rfl, I0.turnedL (t' := tk) (ch := [I + 5, I + 3, I + 4, I, (I + 1), (I + 2)]) (fun c o hb q => hk c o (fun q' => hb (by simp [q'])) (fun q' => hb (by simp [q'])) (fun q' => hb (by simp [q'])) (fun q' => hb (by simp [q'])) (fun q' => hb (by simp [q'])) q) hf⟩
    rcases hend with q | q | q
    · exact .inl (g1 q)
    · exact .inr (.inl (g2 q))
    · exact .inr (.inr (g3 q))
  self := fun A i s Q E st h => wpAny_pyIter_zip st.1 h
def iZip3 (K : PySem.W.Frag) (ta : TA) : TI := fun σ H R => ta σ H fun vs H1 => ∃ (c1 c2 c3 : Sr) (xs1 xs2 xs3 : List V), vs = [svK c1, svK c2, svK c3] ∧ SrO K H1 c1 xs1 ∧ SrO K H1 c2 xs2 ∧ SrO K H1 c3 xs3 ∧ R (It3 K c1 c2 c3) H1
theorem pi_zip3 {X : Cx} {e1 e2 e3 : Expr} {ta : TA} {p pos tpos : Pos} {elts : List Expr} {kk : Nat} (hg : Gl X "zip") (hm : X.mg "zip" = none) (ha : PA X [e1, e2, e3] ta)
    (hs : starEach [e1, e2, e3] X.env = (false, eval e1 X.env) :: starEach [e2, e3] X.env := by rfl) (hpl : (backTo pos (starEach [e2, e3] X.env)).any (·.1) = false := by rfl) :
    PI X (.Tuple elts kk tpos) (.Call (.Name "zip" p) [e1, e2, e3] [] pos) (iZip3 X.K ta) := by
  refine ⟨fun pins s σ H R I h => ?_⟩
  refine Call_ (ld_blt I hg hm PyProof.Rows.boot_zip (PyProof.Rows.callWith_type1 (thn (ha.run pos pins s σ H _ I h) fun us s1 ⟨vs, H1, I1, r1, q1⟩ => ?_) hs hpl))
  obtain ⟨c1, c2, c3, xs1, xs2, xs3, ex, o1, o2, o3, q⟩ := q1
  subst ex
  obtain _ | ⟨w1, rr1⟩ := r1
  obtain _ | ⟨w2, rr2⟩ := rr1
  obtain _ | ⟨w3, rr3⟩ := rr2
  cases rr3
  obtain ⟨m1, Hs1, B1, f1, j1⟩ := begins_of I1 o1 w1 (by cases c1 <;> rfl)
  obtain ⟨m2, Hs2, B2, f2, j2⟩ := begins_of I1 o2 w2 (by cases c2 <;> rfl)
  obtain ⟨m3, Hs3, B3, f3, j3⟩ := begins_of I1 o3 w3 (by cases c3 <;> rfl)
  have fresh : ∀ c, c ∈ [s1.heap.objs.size + 5, s1.heap.objs.size + 3, s1.heap.objs.size + 4, s1.heap.objs.size, s1.heap.objs.size + 1, s1.heap.objs.size + 2] → FpOk X pins H1 c := fun c hcm => by
    have hle : s1.heap.objs.size ≤ c := by
      simp only [List.mem_cons, List.not_mem_nil, or_false] at hcm
      rcases hcm with z | z | z | z | z | z <;> rw [z] <;> first | exact Nat.le_refl _ | exact Nat.le_add_right _ _
    exact I1.fpOk hle (I1.hok.fresh hle)
  refine zip_begins3 B1 B2 B3 f1 f2 f3 fun h' hz hTI hTO y1 y2 y3 hsz hk => wpAny_pyIter_zip hz ?_
  have I2 : Inv X pins σ H1 { s1 with heap := h' } := I1.kept (t' := s1.toks) hk
  exact ⟨s1.heap.objs.size + 5, [s1.heap.objs.size + 5, s1.heap.objs.size + 3, s1.heap.objs.size + 4, s1.heap.objs.size, s1.heap.objs.size + 1, s1.heap.objs.size + 2], _, _, H1, rfl, I2, turn3 (o1.below I1) (o2.below I1) (o3.below I1), ⟨hz, hTI, ⟨_, _, _, hTO⟩, j1 _ _ y1, j2 _ _ y2, j3 _ _ y3⟩, fresh, q⟩
end Z3

/-! for the coder: tuples whose type is asked, f-strings, maps by texts, great products, zip of three, written dicts. -/
namespace L3
open PySem PySem.Spec PyProof.Rows L2
/-! ### a tuple of texts made here, whose methods are asked -/
def rCatK (K : PySem.W.Frag) : R2 := fun x y H Q => ∃ a b xs ys, x = .ref a ∧ y = .ref b ∧ SqT K H a xs ∧ SqT K H b ys ∧ xs ≠ [] ∧ ys ≠ [] ∧ xs.length + ys.length ≤ sizeLine ∧
  ∀ p o, H p = none → o.cls = .type "tuple" → o.dict = none → Q (.ref p) (upd H p (.frz o (.tup (xs ++ ys))))
def oAddK (K : PySem.W.Frag) : R2 := rOr (oAdd K) (rCatK K)
section
variable {X : Cx}
theorem op_catK : OpR X (binaryOp .Add) (rCatK X.K) := by
  intro pins s σ H x y v u Q I rx ry h
  obtain ⟨a, b, xs, ys, rfl, rfl, ha, hb, hx, hy, hz, q⟩ := h
  cases rx
  cases ry
  obtain ⟨its, r1, p1, _⟩ := I.tuple ha
  obtain ⟨its2, r2, p2, _⟩ := I.tuple hb
  refine HT.cat_tup p1 p2 (fun z => hx (r1.nil_iff.mp z)) (fun z => absurd (r2.nil_iff.mp z) hy) (fun z => ?_) (by rw [← r1.length, ← r2.length]; exact hz)
  refine ⟨.ref s.heap.objs.size, _, I.laid (t' := s.toks) (o := .frz { cls := .type "tuple", data := .seq (its ++ its2).toArray } (.tup (xs ++ ys))) (fun b ob q => Heap.get?_push_of_some _ q) (Nat.le_refl _) ?_, rfl, q _ _ (I.hok.fresh (Nat.le_refl _)) rfl rfl⟩
  exact ⟨Heap.get?_push_size _ rfl, by rw [List.length_append]; exact hz, _, r1.append r2, IsTup.new _ _⟩
theorem q_addK (K : PySem.W.Frag) (e : X.K = K := by rfl) : OpR X (binaryOp .Add) (oAddK K) := by subst e; exact opOr (q_add _) op_catK
/-- the type of a tuple, asked of its very object -/
def tyT (K : PySem.W.Frag) (x : V) (H : Hp) : Prop := ∃ p, x = .ref p ∧ ((∃ o u, H p = some (.frz o u) ∧ o.cls = .type "tuple" ∧ o.dict = none) ∨ ∃ o, K.lookup p = some o ∧ o.cls = .type "tuple" ∧ o.dict = none)
theorem tyT_is {pins : List (Addr × Obj)} {σ : L2.St} {H : Hp} {s : Shared} {x : V} {v : Value} (I : Inv X pins σ H s) (r : RelV x v) (ty : tyT X.K x H) :
    s.TypeIs v "tuple" ∧ ∀ a, v = .ref a → ∃ ob, s.heap.get? a = some ob ∧ ob.dict = none := by
  obtain ⟨p, rfl, h⟩ := ty
  cases r
  rcases h with ⟨o, u, h1, h2, h3⟩ | ⟨o, h1, h2, h3⟩
  · have e := (I.hok p _ h1).1
    exact ⟨⟨o, e, h2⟩, fun a ea => by cases ea; exact ⟨o, e, h3⟩⟩
  · have e := I.kIn p o h1
    exact ⟨⟨o, e, h2⟩, fun a ea => by cases ea; exact ⟨o, e, h3⟩⟩
def tBMK (K : PySem.W.Frag) (r : V → List V → Hp → VK → Prop) (to : TE) (t : TA) : TE := fun σ H Q => to σ H fun x H1 => tyT K x H1 ∧ t σ H1 fun xs H2 => r x xs H2 Q
theorem q_bmK (K : PySem.W.Frag) {o e : Expr} {es : List Expr} {to : TE} {t : TA} {name : Str} {apos cpos : Pos} {id : String} {r : V → List V → Hp → VK → Prop} (pa : PlainAttrs "tuple") (slot : Slot "tuple" name id) (hty : typeOf (.builtin id) = pure (.type "method_descriptor")) (hm : MtR X id r) (ho : PE X o to) (ha : PA X (e :: es) t)
    (eK : X.K = K := by rfl)
    (hbase : attributeBase o name X.env (eval o X.env) = eval o X.env := by rfl)
    (hfew : ((backTo cpos (starEach (e :: es) X.env)).all (fun x => !x.1) && (backToKw cpos (keywordEach [] X.env)).all (fun x => x.1.isSome)
      && decide ((e :: es).length + ([] : List Keyword).length + (if ([] : List Keyword).isEmpty then 0 else 1) < 30)) = true := by rfl)
    (hline : (apos.endLine == cpos.line) = true := by rfl) (hs : starEach (e :: es) X.env = (false, eval e X.env) :: starEach es X.env := by rfl) (hplain : (backTo cpos (starEach es X.env)).any (·.1) = false := by rfl) :
    PE X (.Call (.Attribute o name apos) (e :: es) [] cpos) (tBMK K r to t) := by
  subst eK
  refine ⟨fun pins s σ H Q I h => ?_⟩
  refine wpAny_Call_method_late hbase hfew hline rfl (thn (ho.run pins s σ H _ I h) fun v s1 ⟨x, H1, I1, r1, ty, q1⟩ => ?_)
  obtain ⟨h1, h2⟩ := tyT_is I1 r1 ty
  refine ⟨"tuple", id, pa, slot, hty, h1, h2, ?_⟩
  have hA := ha.run cpos pins s1 σ H1 _ I1 q1
  rw [hs] at hA ⊢
  refine Calls.callWith_builtin (by show (false || (backTo cpos (starEach es X.env)).any (·.1)) = false; rw [hplain] <;> rfl) (Calls.evalArgs_plain ?_)
  refine thn hA fun us s2 ⟨xs, H2, I2, r2, q2⟩ => ?_
  exact hm pins s2 σ H2 x xs v us Q I2 r1 r2 q2
end
section
variable {K : PySem.W.Frag} {E : WX} {Ψ : PX} {ρ : Env3} {M : Mem} {Φ : D → Mem → Prop}
/-- a tuple of texts that is known to the object: a cell of ours, or one of the text -/
inductive KTp (K : PySem.W.Frag) (M : Mem) : D → List Str → Prop
  | cell {p : Addr} {xs : List Str} (h : (p, O.ktp xs) ∈ M) : KTp K M (.ref p) xs
  | txt {p : Addr} {xs : List Str} (tk : ∃ o, K.lookup p = some o ∧ o.cls = PySem.Value.type "tuple" ∧ o.dict = none) (rd : ∀ F, RD K F (.ref p) (.tup (xs.map D.str))) : KTp K M (.ref p) xs
theorem KTp.v {F H : Hp} {Mf : Mem} {x : D} {xs : List Str} {v : V} (q : KTp K M x xs) (r : RD K F v x) (s : StC K F H (M ++ Mf)) : ∃ p, v = .ref p ∧ tyT K v H ∧ SqT K H p (xs.map V.str) := by
  cases q with
  | cell h =>
    cases r
    obtain ⟨_, ho, e, r⟩ := s.own _ _ (List.mem_append_left _ h)
    cases ho with
    | frz o u =>
      obtain ⟨h1, h2, rfl⟩ := r
      exact ⟨_, rfl, ⟨_, rfl, .inl ⟨o, _, e, h1, h2⟩⟩, .inl (.inr ⟨o, e⟩)⟩
    | _ => exact absurd r (by intro z; exact z)
  | txt tk rd =>
    cases r
    have := rd F
    cases this with
    | tup ht hs =>
      have ev := RDs.ofStrs hs
      subst ev
      exact ⟨_, rfl, ⟨_, rfl, .inr tk⟩, sqt_mono s.sub ht⟩
theorem OpD.addP {x y : D} (h : OpD K (oAdd K) x y M Φ) : OpD K (oAddK K) x y M Φ := fun F H Mf v u Q r1 r2 s k => .inl (h F H Mf v u Q r1 r2 s k)
theorem RDs.strs {F : Hp} : ∀ {xs : List Str}, RDs K F (xs.map V.str) (xs.map D.str)
  | [] => .nil
  | x :: _ => .cons (.str x) RDs.strs
/-- the sum as a cell -/
theorem OpD.addKc {xs ys : List Str} (hx : xs ≠ []) (hy : ys ≠ []) (hl : xs.length + ys.length ≤ 1000) (h : AllA fun p => Φ (.ref p) ((p, .ktp (xs ++ ys)) :: M)) : OpD K (oAddK K) (.tup (xs.map D.str)) (.tup (ys.map D.str)) M Φ := fun F H Mf v u Q r1 r2 s k => by
  cases r1 with
  | tup e1 q1 => cases r2 with
    | tup e2 q2 =>
      have ev := RDs.ofStrs q1
      subst ev
      have ev := RDs.ofStrs q2
      subst ev
      refine .inr ⟨_, _, _, _, rfl, rfl, sqt_mono s.sub e1, sqt_mono s.sub e2, by simpa using hx, by simpa using hy, by simp only [List.length_map]; exact Nat.le_trans hl (by decide), fun p o hp hc hd => ?_⟩
      refine k _ _ F _ _ (h p) (.ref p) (Same.refl _) (s.newO hp (show RO K F (.frz o _) (.ktp (xs ++ ys)) from ⟨hc, hd, by rw [List.map_append]⟩))
/-- nothing added: the very tuple -/
theorem OpD.addK0 {p : Addr} {xs : List Str} (hx : xs ≠ []) (hl : xs.length ≤ 1000) (rd : ∀ F, RD K F (.ref p) (.tup (xs.map D.str))) (h : Φ (.ref p) M) : OpD K (oAddK K) (.ref p) (.tup []) M Φ := fun F H Mf v u Q r1 r2 s k => by
  cases r1
  cases r2 with
  | tup e2 q2 =>
    cases q2
    have := rd F
    cases this with
    | tup ht hs =>
      have ev := RDs.ofStrs hs
      subst ev
      exact .inl (.inr (.inr (.inl ⟨_, _, _, _, rfl, rfl, sqt_mono s.sub ht, sqt_mono s.sub e2, by simpa using hx, by simp only [List.length_map, List.length_nil]; exact Nat.le_trans hl (by decide), fun _ => k _ _ F H M h (.ref p) (Same.refl _) s, fun z => absurd rfl z⟩)))
theorem W.cR {a : Addr} (h : Φ (.ref a) M) : W K E (tC (.ref a)) ρ M Φ Ψ := fun σ F H Mf Q e s k q => q _ _ F H M h (.ref a) (Same.refl _) s
theorem W.bmK {to : TE} {t : TA} (h : W K E to ρ M (fun x M1 => ∃ xs, KTp K M1 x xs ∧ WA K E t ρ M1 (fun ys M2 => ∃ z j, ys = [.str z] ∧ KTp K M2 x xs ∧ xs[j]? = some z ∧ (∀ m, m < j → xs[m]? ≠ some z) ∧ Φ (.int (j : Nat)) M2) Ψ) Ψ) : W K E (tBMK K (mTIndex K) to t) ρ M Φ Ψ := fun σ F H Mf Q a s k q =>
  h σ F H Mf _ a s k fun v x F1 H1 M1 ⟨xs, kt, h1⟩ r1 s1 c1 => by
    obtain ⟨p, rfl, ty, _⟩ := kt.v r1 c1
    refine ⟨ty, h1 σ F1 H1 Mf _ (a.mono s1) c1 (k.mono s1) fun us ys F2 H2 M2 ⟨z, j, ey, kt2, hj, hn, h2⟩ r2 s2 c2 => ?_⟩
    subst ey
    obtain ⟨p2, e2, _, hq⟩ := kt2.v (r1.mono s2) c2
    cases e2
    cases r2 with
    | cons r2 rs =>
      cases rs
      cases r2
      exact ⟨_, xs, z, j, rfl, rfl, hq, hj, hn, q _ _ F2 H2 M2 h2 (.int _) (s1.trans s2) c2⟩
theorem CbD.lenK {x : D} {xs : List Str} (q : KTp K M x xs) (h : Φ (.int xs.length) M) : CbD K (cLen K) [x] M Φ := fun F H Mf vs Q r s k => by
  cases r with
  | cons r rr =>
    cases rr
    obtain ⟨p, rfl, _, hq⟩ := q.v r s
    exact ⟨_, _, rfl, .inr ⟨_, hq, by rw [List.length_map]⟩, k _ _ F H M h (.int _) (Same.refl _) s⟩
theorem CbD.lenT {x : Str} (hl : x.length ≤ 1000) (h : Φ (.int x.length) M) : CbD K (cLen K) [.str x] M Φ := fun F H Mf vs Q r s k => by
  cases r with
  | cons r rr =>
    cases rr
    cases r
    exact ⟨_, _, rfl, ⟨Nat.le_trans hl (by decide), rfl⟩, k _ _ F H M h (.int _) (Same.refl _) s⟩
/-! ### f-strings -/
def WJ (K : PySem.W.Frag) (E : WX) : List TE → Str → Env3 → Mem → (Str → Mem → Prop) → PX → Prop
  | [], acc, _, M, Θ, _ => Θ acc M
  | t :: ts, acc, ρ, M, Θ, Ψ => W K E t ρ M (fun x M1 => ∃ y : Str, x = .str y ∧ (acc ++ y).length ≤ 100000 ∧ WJ K E ts (acc ++ y) ρ M1 Θ Ψ) Ψ
theorem WJ.run : ∀ {ts : List TE} {acc : Str} {ρ : Env3} {M : Mem} {Θ : Str → Mem → Prop} {σ : L2.St} {F H : Hp} {Mf : Mem} {Q : Str → Hp → Prop}, WJ K E ts acc ρ M Θ Ψ → EnvR K F σ ρ → StC K F H (M ++ Mf) → EK K F Mf Ψ E →
    (∀ out F' H' M', Θ out M' → Same F F' → StC K F' H' (M' ++ Mf) → Q out H') → tJs ts acc σ H Q
  | [], _, _, _, _, _, F, _, _, _, h, _, s, _, q => q _ F _ _ h (Same.refl _) s
  | t :: ts, acc, ρ, M, Θ, σ, F, H, Mf, Q, h, a, s, k, q => h σ F H Mf _ a s k fun v x F1 H1 M1 ⟨y, ex, hl, h1⟩ r1 s1 c1 => by
      subst ex
      cases r1
      exact ⟨y, rfl, Nat.le_trans hl (by decide), WJ.run h1 (a.mono s1) c1 (k.mono s1) fun out F' H' M' p s' c' => q out F' H' M' p (s1.trans s') c'⟩
theorem W.fs {ts : List TE} (h : WJ K E ts Str.empty ρ M (fun out M' => Φ (.str out) M') Ψ) : W K E (fun σ H Q => tJs ts Str.empty σ H fun out H1 => Q (.str out) H1) ρ M Φ Ψ := fun σ F H Mf Q a s k q =>
  h.run a s k fun out F' H' M' p s' c' => q _ _ F' H' M' p (.str out) s' c'
theorem WJ.nil {acc : Str} {Θ : Str → Mem → Prop} (h : Θ acc M) : WJ K E [] acc ρ M Θ Ψ := h
theorem WJ.cons {t : TE} {ts : List TE} {acc : Str} {Θ : Str → Mem → Prop} (h : W K E t ρ M (fun x M1 => ∃ y : Str, x = .str y ∧ (acc ++ y).length ≤ 100000 ∧ WJ K E ts (acc ++ y) ρ M1 Θ Ψ) Ψ) : WJ K E (t :: ts) acc ρ M Θ Ψ := h
theorem W.fmtS {te : TE} (h : W K E te ρ M (fun x M1 => ∃ y : Str, x = .str y ∧ y.length ≤ 100000 ∧ Φ (.str y) M1) Ψ) : W K E (tFmt te) ρ M Φ Ψ := fun σ F H Mf Q a s k q =>
  h σ F H Mf _ a s k fun v x F1 H1 M1 ⟨y, ex, hl, h1⟩ r1 s1 c1 => by
    subst ex
    cases r1
    exact .inl ⟨y, rfl, Nat.le_trans hl (by decide), q _ _ F1 H1 M1 h1 (.str y) s1 c1⟩
theorem W.fmtI {te : TE} (h : W K E te ρ M (fun x M1 => ∃ i : Int, x = .int i ∧ i.natAbs < 2 ^ 64 ∧ Φ (.str (toString i)) M1) Ψ) : W K E (tFmt te) ρ M Φ Ψ := fun σ F H Mf Q a s k q =>
  h σ F H Mf _ a s k fun v x F1 H1 M1 ⟨i, ex, hl, h1⟩ r1 s1 c1 => by
    subst ex
    cases r1
    exact .inr ⟨i, rfl, Nat.lt_of_lt_of_le (PySem.Flt.log2_lt_of (by decide) hl) (by decide), q _ _ F1 H1 M1 h1 (.str _) s1 c1⟩
/-! ### maps by texts and ints -/
theorem W.dnewK (h : AllA fun p => Φ (.ref p) ((p, .mpK (fun _ => none) 0) :: M)) : W K E tDNewK ρ M Φ Ψ := fun σ F H Mf Q a s k q p hp =>
  q _ _ F _ _ (h p) (.ref p) (Same.refl _) (s.newO hp (show RO K F (.dK []) (.mpK (fun _ => none) 0) from ⟨Nat.le_refl _, fun _ => rfl⟩))
theorem own_mpK {p : Addr} {f : Key → Option D} {n : Nat} {F H : Hp} {Mf : Mem} (s : StC K F H (M ++ Mf)) (h : (p, O.mpK f n) ∈ M) : ∃ kvs, H p = some (.dK kvs) ∧ RO K F (.dK kvs) (.mpK f n) := by
  obtain ⟨_, ho, e, r⟩ := s.own _ _ (List.mem_append_left _ h)
  cases ho with
  | dK kvs => exact ⟨kvs, e, r⟩
  | _ => exact absurd r (by intro z; exact z)
def DgeM (x y z : D) (M : Mem) (P : D → Prop) : Prop := ∃ p f n k, x = .ref p ∧ (p, O.mpK f n) ∈ M ∧ y = keyD k ∧ P ((f k).getD z)
def IsDM (x : D) (M : Mem) (P : Prop) : Prop := ∃ p f n, x = .ref p ∧ (p, O.mpK f n) ∈ M ∧ P
theorem IsDM.mk {p : Addr} {f : Key → Option D} {n : Nat} {P : Prop} (hm : (p, O.mpK f n) ∈ M) (h : P) : IsDM (.ref p) M P := ⟨p, f, n, rfl, hm, h⟩
theorem DgeM.str {p : Addr} {f : Key → Option D} {n : Nat} {x : Str} {z : D} {P : D → Prop} (hm : (p, O.mpK f n) ∈ M) (h : P ((f (.inr x)).getD z)) : DgeM (.ref p) (.str x) z M P := ⟨p, f, n, .inr x, rfl, hm, rfl, h⟩
theorem W.dgetM {td ty tx : TE} (h : W K E td ρ M (fun x M1 => IsDM x M1 (W K E ty ρ M1 (fun y M2 => W K E tx ρ M2 (fun z M3 => DgeM x y z M3 (fun w => Φ w M3)) Ψ) Ψ)) Ψ) : W K E (tDGet2 td ty tx) ρ M Φ Ψ := fun σ F H Mf Q a s k q =>
  h σ F H Mf _ a s k fun v x F1 H1 M1 h1 r1 s1 c1 => by
    obtain ⟨p0, f0, n0, ex, hm0, h1⟩ := h1
    subst ex
    cases r1
    obtain ⟨kvs0, e0, _⟩ := own_mpK c1 hm0
    refine ⟨p0, rfl, .inl ⟨kvs0, .inl e0⟩, ?_⟩
    exact h1 σ F1 H1 Mf _ (a.mono s1) c1 (k.mono s1) fun u y F2 H2 M2 h2 r2 s2 c2 => h2 σ F2 H2 Mf _ (a.mono (s1.trans s2)) c2 (k.mono (s1.trans s2)) fun u3 z F3 H3 M3 ⟨p, f, n, kk, ex, hm, ey, h3⟩ r3 s3 c3 => by
      cases ex
      subst ey
      obtain ⟨kvs, e, ro⟩ := own_mpK c3 hm
      have er : H3 p0 = some (.dK kvs) := e
      have key := keyD_v r2
      have hk := ro.2 kk
      cases eg : f kk with
      | none =>
        rw [eg] at h3 hk
        refine ⟨none, ?_, q _ _ F3 H3 M3 h3 r3 ((s1.trans s2).trans s3) c3⟩
        rw [key, ← hk]
        exact DGet.k e
      | some x =>
        rw [eg] at h3 hk
        obtain ⟨w, ew, rw'⟩ := hk
        refine ⟨some w, ?_, q _ _ F3 H3 M3 h3 (rw'.mono (Same.refl _)) ((s1.trans s2).trans s3) c3⟩
        rw [key, ← ew]
        exact DGet.k e
def updK (f : Key → Option D) (k : Key) (z : D) : Key → Option D := fun j => if j = k then some z else f j
def DptM (x y z : D) (M : Mem) (P : Mem → Prop) : Prop := ∃ p f n k g, x = .ref p ∧ Sp p (O.mpK f n) M g ∧ y = keyD k ∧ n < 100000 ∧ P (g (.mpK (updK f k z) (n + 1)))
theorem DptM.str {p : Addr} {f : Key → Option D} {n : Nat} {x : Str} {z : D} {g : O → Mem} {P : Mem → Prop} (hm : Sp p (O.mpK f n) M g) (hl : n < 100000) (h : P (g (.mpK (updK f (.inr x) z) (n + 1)))) : DptM (.ref p) (.str x) z M P := ⟨p, f, n, .inr x, g, rfl, hm, rfl, hl, h⟩
variable {N B C : Env3 → Mem → Prop} {R : D → Mem → Prop}
theorem S.dputM {td ty tv : TE} (h : W K E tv ρ M (fun z M1 => W K E td ρ M1 (fun x M2 => W K E ty ρ M2 (fun y M3 => DptM x y z M3 (N ρ)) Ψ) Ψ) Ψ) : WS K E (sDPut td ty tv) ρ M ⟨N, R, B, C⟩ Ψ := fun σ F H Mf e a s k q =>
  h σ F H Mf _ a s k fun v0 z F0 H0 M0 h0 r0 s0 c0 => h0 σ F0 H0 Mf _ (a.mono s0) c0 (k.mono s0) fun v x F1 H1 M1 h1 r1 s1 c1 => h1 σ F1 H1 Mf _ (a.mono (s0.trans s1)) c1 (k.mono (s0.trans s1)) fun u y F2 H2 M2 ⟨p, f, n, kk, g, ex, hm, ey, hn, hp⟩ r2 s2 c2 => by
    subst ex
    subst ey
    cases r1
    obtain ⟨kvs, e', ro⟩ := own_mpK c2 hm.mem
    have key := keyD_v r2
    have s03 := (s0.trans s1).trans s2
    have hlen : (putK kvs kk v0).length ≤ n + 1 := by
      unfold putK
      split
      · rw [List.length_map]; exact Nat.le_succ_of_le ro.1
      · rw [List.length_append]; exact Nat.succ_le_succ ro.1
    refine ⟨p, _, rfl, key ▸ DPut.k e' (Nat.lt_of_le_of_lt ro.1 (line_lt hn)), q.nx σ ρ _ _ _ hp (a.mono s03) s03 (hm.put c2 (show RO K _ (.dK _) (.mpK _ _) from ⟨hlen, fun j => ?_⟩))⟩
    unfold updK
    have hj := ro.2 j
    rw [valV_put]
    by_cases c : j = kk
    · rw [if_pos c, if_pos c]
      exact ⟨v0, rfl, r0.mono ((s1.trans s2))⟩
    · rw [if_neg c, if_neg c]
      exact hj
/-! ### great products -/
def oIMulW : R2 := rOr oIMul (rI CMulW fun i j => .int (i * j))
end
section
variable {X : Cx} {K : PySem.W.Frag} {M : Mem} {Φ : D → Mem → Prop}
theorem q_imulW : OpR X (inplaceOp .Mult) oIMulW := opOr q_imul (opI fun _ _ _ _ _ _ _ hc q => imul_int q hc.ok)
theorem OpD.imulW {i j : Int} (hc : CMulW i j) (h : Φ (.int (i * j)) M) : OpD K oIMulW (.int i) (.int j) M Φ := fun F H Mf v u Q r1 r2 s k => by
  cases r1; cases r2
  exact .inr ⟨i, j, rfl, rfl, hc, k _ _ F H M h (.int _) (Same.refl _) s⟩
/-! ### a written dict of texts -/
theorem q_ixD (K : PySem.W.Frag) (w : World) (e : X.K = K := by rfl) (ew : X.w = w := by rfl) : IxR X (rIxD K w) := by subst e ew; exact ix_kdict
theorem OpD.ixKd {w : World} {p : Addr} {z y : Str} (h : KDct K w p z (.str y)) (k : Φ (.str y) M) : OpD K (rIxD K w) (.ref p) (.str z) M Φ := fun F H Mf v u Q r1 r2 s kk => by
  cases r1; cases r2
  exact ⟨p, z, _, rfl, rfl, h, kk _ _ F H M k (.str y) (Same.refl _) s⟩
end
end L3

/-! zip of three rows; of a text and a row; by data. -/
namespace L3
open PySem PySem.Spec PyProof.Rows L2
section
variable {K : PySem.W.Frag} {E : WX} {Ψ : PX} {ρ : Env3} {M : Mem}
def srcOf (b : Bool) (a : Addr) : Z3.Sr := match b with
  | true => .lst a
  | false => .tup a
theorem Seq.vS {F F0 H : Hp} {Mf : Mem} {v : V} {x : D} {xs : List D} (q : Seq M x xs) (r : RD K F0 v x) (e : Same F0 F) (s : StC K F H (M ++ Mf)) : ∃ a vs, v = .ref a ∧ Z3.SrO K H (srcOf (isL x) a) vs ∧ RDs K F vs xs := by
  obtain ⟨a, vs, h1, h2, h3⟩ := q.vB r e s
  refine ⟨a, vs, h1, ?_, h3⟩
  cases hb : isL x <;> rw [hb] at h2 <;> exact h2
theorem svK_src {b : Bool} {a : Addr} : Z3.svK (srcOf b a) = .ref a := by cases b <;> rfl
def zip3D (xs ys zs : List D) : List D := (List.range (min (min xs.length ys.length) zs.length)).map fun i => .tup [xs.getD i .non, ys.getD i .non, zs.getD i .non]
theorem zip3D_len {xs ys zs : List D} : (zip3D xs ys zs).length = min (min xs.length ys.length) zs.length := by simp [zip3D]
theorem zip3D_get {xs ys zs : List D} {i : Nat} {w : D} (h : (zip3D xs ys zs)[i]? = some w) : ∃ x y z, xs[i]? = some x ∧ ys[i]? = some y ∧ zs[i]? = some z ∧ w = .tup [x, y, z] := by
  have hi : i < min (min xs.length ys.length) zs.length := by
    have := (List.getElem?_eq_some_iff.mp h).1
    simpa [zip3D] using this
  simp only [zip3D, List.getElem?_map, List.getElem?_range hi, Option.map_some, Option.some.injEq] at h
  subst h
  refine ⟨xs[i], ys[i], zs[i], List.getElem?_eq_getElem (by omega), List.getElem?_eq_getElem (by omega), List.getElem?_eq_getElem (by omega), ?_⟩
  simp [List.getD_eq_getElem?_getD, List.getElem?_eq_getElem (show i < xs.length by omega), List.getElem?_eq_getElem (show i < ys.length by omega), List.getElem?_eq_getElem (show i < zs.length by omega)]
theorem WI.zip3 {ta : TA} {Θ : Src → Mem → Prop} (h : WA K E ta ρ M (fun ws M1 => ∃ x y z xs ys zs, ws = [x, y, z] ∧ Seq M1 x xs ∧ Seq M1 y ys ∧ Seq M1 z zs ∧ Θ ⟨zip3D xs ys zs, fun M => Seq M x xs ∧ Seq M y ys ∧ Seq M z zs⟩ M1) Ψ) : WI K E (Z3.iZip3 K ta) ρ M Θ Ψ := fun σ F H Mf R e s k q =>
  h σ F H Mf _ e s k fun vs ws F1 H1 M1 ⟨x, y, z, xs, ys, zs, ey, hx, hy, hz, h1⟩ r1 s1 c1 => by
    subst ey
    obtain _ | ⟨rx, rr⟩ := r1
    obtain _ | ⟨ry, rr⟩ := rr
    obtain _ | ⟨rz, rr⟩ := rr
    cases rr
    obtain ⟨a, vx, rfl, hl, rs⟩ := hx.vS rx (Same.refl _) c1
    obtain ⟨b, vy, rfl, hl2, rs2⟩ := hy.vS ry (Same.refl _) c1
    obtain ⟨c, vz, rfl, hl3, rs3⟩ := hz.vS rz (Same.refl _) c1
    refine ⟨srcOf (isL x) a, srcOf (isL y) b, srcOf (isL z) c, vx, vy, vz, by rw [svK_src, svK_src, svK_src], hl, hl2, hl3, q _ F1 H1 M1 _ h1 s1 c1 fun F' H' M' Mf' e' s' n => ?_⟩
    obtain ⟨a', vx', e1, hl', rs'⟩ := Seq.vS n.1 rx e' s'
    cases e1
    obtain ⟨b', vy', e1, hl2', rs2'⟩ := Seq.vS n.2.1 ry e' s'
    cases e1
    obtain ⟨c', vz', e1, hl3', rs3'⟩ := Seq.vS n.2.2 rz e' s'
    cases e1
    have q1 := rs'.len
    have q2 := rs2'.len
    have q3 := rs3'.len
    refine ⟨fun i hi => ?_, fun i hi => ⟨vx', vy', vz', hl', hl2', hl3', ?_⟩, fun i z v H'' hz yl => ?_⟩
    · rw [zip3D_len] at hi
      exact ⟨vx', vy', vz', hl', hl2', hl3', by omega, by omega, by omega⟩
    · rw [zip3D_len] at hi
      omega
    · obtain ⟨T, z1, z2, z3, rfl, hT, rfl, hz1, hz2, hz3⟩ := yl
      obtain ⟨x2, y2, w2, hx2, hy2, hw2, rfl⟩ := zip3D_get hz
      obtain ⟨u, hu, ru⟩ := rs'.get hx2
      rw [hz1 vx' hl'] at hu
      cases hu
      obtain ⟨u, hu, ru2⟩ := rs2'.get hy2
      rw [hz2 vy' hl2'] at hu
      cases hu
      obtain ⟨u, hu, ru3⟩ := rs3'.get hw2
      rw [hz3 vz' hl3'] at hu
      cases hu
      exact ⟨_, s'.sameF hT, s'.newF hT, .tup (.inl (.inl upd_same)) (.cons (ru.mono (s'.sameF hT)) (.cons (ru2.mono (s'.sameF hT)) (.cons (ru3.mono (s'.sameF hT)) .nil)))⟩
def signsD (x : Str) : List D := x.cps.toList.map fun c => D.str ⟨#[c]⟩
theorem signs_rd {F : Hp} {x : Str} : RDs K F (Z3.signs x) (signsD x) := by
  unfold Z3.signs signsD
  generalize x.cps.toList = l
  induction l with
  | nil => exact .nil
  | cons c l ih => exact .cons (.str _) ih
theorem WI.zipS {ta : TA} {Θ : Src → Mem → Prop} (h : WA K E ta ρ M (fun ws M1 => ∃ (x : Str) (y : D) (ys : List D), ws = [.str x, y] ∧ Seq M1 y ys ∧ Θ ⟨zipD (signsD x) ys, fun M => Seq M y ys⟩ M1) Ψ) : WI K E (Z3.iZip2 K ta) ρ M Θ Ψ := fun σ F H Mf R e s k q =>
  h σ F H Mf _ e s k fun vs ws F1 H1 M1 ⟨x, y, ys, ey, hy, h1⟩ r1 s1 c1 => by
    subst ey
    obtain _ | ⟨rx, rr⟩ := r1
    obtain _ | ⟨ry, rr⟩ := rr
    cases rr
    cases rx
    obtain ⟨b, vy, rfl, hl2, rs2⟩ := hy.vS ry (Same.refl _) c1
    refine ⟨.txt x, srcOf (isL y) b, Z3.signs x, vy, by rw [svK_src]; rfl, rfl, hl2, q _ F1 H1 M1 _ h1 s1 c1 fun F' H' M' Mf' e' s' n => ?_⟩
    obtain ⟨b', vy', e1, hl2', rs2'⟩ := Seq.vS n ry e' s'
    cases e1
    have q1 := (signs_rd (K := K) (F := F') (x := x)).len
    have q2 := rs2'.len
    refine ⟨fun i hi => ?_, fun i hi => ⟨Z3.signs x, vy', rfl, hl2', ?_⟩, fun i z v H'' hz yl => ?_⟩
    · rw [zipD_len] at hi
      exact ⟨Z3.signs x, vy', rfl, hl2', by omega, by omega⟩
    · rw [zipD_len] at hi
      omega
    · obtain ⟨T, z1, z2, rfl, hT, rfl, hz1, hz2⟩ := yl
      obtain ⟨x2, y2, hx2, hy2, rfl⟩ := zipD_get hz
      obtain ⟨u, hu, ru⟩ := (signs_rd (K := K) (F := F') (x := x)).get hx2
      rw [hz1 _ rfl] at hu
      cases hu
      obtain ⟨u, hu, ru2⟩ := rs2'.get hy2
      rw [hz2 vy' hl2'] at hu
      cases hu
      exact ⟨_, s'.sameF hT, s'.newF hT, .tup (.inl (.inl upd_same)) (.cons (ru.mono (s'.sameF hT)) (.cons (ru2.mono (s'.sameF hT)) .nil))⟩
end
section
variable {X : Cx} (K : PySem.W.Frag)
theorem q_zip3 {e1 e2 e3 : Expr} {ta : TA} {p pos tpos : Pos} {elts : List Expr} {kk : Nat} (hg : Gl X "zip") (hm : X.mg "zip" = none) (ha : PA X [e1, e2, e3] ta)
    (hs : starEach [e1, e2, e3] X.env = (false, eval e1 X.env) :: starEach [e2, e3] X.env := by rfl) (hpl : (backTo pos (starEach [e2, e3] X.env)).any (·.1) = false := by rfl) (eK : X.K = K := by rfl) :
    PI X (.Tuple elts kk tpos) (.Call (.Name "zip" p) [e1, e2, e3] [] pos) (Z3.iZip3 K ta) := by subst eK; exact Z3.pi_zip3 hg hm ha hs hpl
theorem q_zipS {e1 e2 : Expr} {ta : TA} {p pos tpos : Pos} {elts : List Expr} {kk : Nat} (hg : Gl X "zip") (hm : X.mg "zip" = none) (ha : PA X [e1, e2] ta)
    (hs : starEach [e1, e2] X.env = (false, eval e1 X.env) :: starEach [e2] X.env := by rfl) (hpl : (backTo pos (starEach [e2] X.env)).any (·.1) = false := by rfl) (eK : X.K = K := by rfl) :
    PI X (.Tuple elts kk tpos) (.Call (.Name "zip" p) [e1, e2] [] pos) (Z3.iZip2 K ta) := by subst eK; exact Z3.pi_zip2 hg hm ha hs hpl
end
theorem zip3_i {M : Mem} {x y z : D} {xs ys zs : List D} {P : D → D → D → List D → List D → List D → Prop} (hx : Seq M x xs) (hy : Seq M y ys) (hz : Seq M z zs) (h : P x y z xs ys zs) : ∃ x' y' z' xs ys zs, [x, y, z] = [x', y', z'] ∧ Seq M x' xs ∧ Seq M y' ys ∧ Seq M z' zs ∧ P x' y' z' xs ys zs := ⟨x, y, z, xs, ys, zs, rfl, hx, hy, hz, h⟩
theorem zipS_i {M : Mem} {x : Str} {y : D} {ys : List D} {P : Str → D → List D → Prop} (hy : Seq M y ys) (h : P x y ys) : ∃ (x' : Str) (y' : D) (ys : List D), [.str x, y] = [.str x', y'] ∧ Seq M y' ys ∧ P x' y' ys := ⟨x, y, ys, rfl, hy, h⟩
/-! f-strings, step by step -/
section
variable {K : PySem.W.Frag} {E : WX} {Ψ : PX} {ρ : Env3} {M : Mem} {Φ : D → Mem → Prop}
theorem W.fmt {te : TE} (h : W K E te ρ M (fun x M1 => (∃ y : Str, x = .str y ∧ y.length ≤ 100000 ∧ Φ (.str y) M1) ∨ ∃ i : Int, x = .int i ∧ i.natAbs < 2 ^ 64 ∧ Φ (.str (toString i)) M1) Ψ) : W K E (tFmt te) ρ M Φ Ψ := fun σ F H Mf Q a s k q =>
  h σ F H Mf _ a s k fun v x F1 H1 M1 h1 r1 s1 c1 => by
    rcases h1 with ⟨y, ex, hl, h1⟩ | ⟨i, ex, hl, h1⟩
    · subst ex
      cases r1
      exact .inl ⟨y, rfl, Nat.le_trans hl (by decide), q _ _ F1 H1 M1 h1 (.str y) s1 c1⟩
    · subst ex
      cases r1
      exact .inr ⟨i, rfl, Nat.lt_of_lt_of_le (PySem.Flt.log2_lt_of (by decide) hl) (by decide), q _ _ F1 H1 M1 h1 (.str _) s1 c1⟩
theorem fmt_s {y : Str} {P : Str → Prop} {Q : Int → Prop} (hl : y.length ≤ 100000) (h : P y) : (∃ y' : Str, D.str y = .str y' ∧ y'.length ≤ 100000 ∧ P y') ∨ ∃ i : Int, D.str y = .int i ∧ i.natAbs < 2 ^ 64 ∧ Q i := .inl ⟨y, rfl, hl, h⟩
theorem fmt_i {i : Int} {P : Str → Prop} {Q : Int → Prop} (hl : i.natAbs < 2 ^ 64) (h : Q i) : (∃ y' : Str, D.int i = .str y' ∧ y'.length ≤ 100000 ∧ P y') ∨ ∃ i' : Int, D.int i = .int i' ∧ i'.natAbs < 2 ^ 64 ∧ Q i' := .inr ⟨i, rfl, hl, h⟩
theorem wj_i {acc y : Str} {P : Str → Prop} (hl : (acc ++ y).length ≤ 100000) (h : P y) : ∃ y' : Str, D.str y = .str y' ∧ (acc ++ y').length ≤ 100000 ∧ P y' := ⟨y, rfl, hl, h⟩
end
/-! slices of tuples, the whole one too -/
def sSeqA (K : PySem.W.Frag) : V → Option Int → Option Int → Hp → VK → Prop := lOr (sSeq K) (rSlA K)
theorem q_slA (K : PySem.W.Frag) {X : Cx} (e : X.K = K := by rfl) : SlR X (sSeqA K) := by subst e; exact SlR.or (q_sl _) sl_tupA
section
variable {K : PySem.W.Frag} {M : Mem} {Φ : D → Mem → Prop}
theorem SlD.addP {x : D} {lo hi : Option Int} (h : SlD K (sSeq K) x lo hi M Φ) : SlD K (sSeqA K) x lo hi M Φ := fun F H Mf v Q r s k => .inl (h F H Mf v Q r s k)
theorem SlD.tupW {xs : List D} {lo hi : Option Int} {n : Nat} (hl : xs.length = n) (hw : HT.sIx n 0 lo = 0 ∧ HT.sIx n n hi = n) (h : Φ (.tup xs) M) : SlD K (sSeqA K) (.tup xs) lo hi M Φ := fun F H Mf v Q r s k => by
  subst hl
  cases r with
  | tup e rs => exact .inr ⟨_, _, rfl, sqt_mono s.sub e, fun _ => k _ _ F H M h (.tup e rs) (Same.refl _) s, fun z => absurd (by rw [rs.len]; exact hw) z⟩
end
/-! str of a whole number -/
def cStr : List V → Hp → VK → Prop := fun xs H Q => ∃ i : Int, xs = [.int i] ∧ i.natAbs.log2 < 1920 ∧ Q (.str (toString i)) H
theorem q_str {X : Cx} : CallR X (.type "str") cStr := call_str_int
theorem CbD.strI {K : PySem.W.Frag} {M : Mem} {Φ : D → Mem → Prop} {i : Int} (hl : i.natAbs < 2 ^ 64) (h : Φ (.str (toString i)) M) : CbD K cStr [.int i] M Φ := fun F H Mf vs Q r s k => by
  cases r with
  | cons r rr =>
    cases rr
    cases r
    exact ⟨i, rfl, Nat.lt_of_lt_of_le (PySem.Flt.log2_lt_of (by decide) hl) (by decide), k _ _ F H M h (.str _) (Same.refl _) s⟩
/-- never reached: nothing is told -/
theorem ps_nevr {X : Cx} {s : Stmt} : PS X s (fun _ _ _ => False) := ⟨fun pins st σ H D I h => h.elim⟩
theorem pe_nevr {X : Cx} {e : Expr} : PE X e (fun _ _ _ => False) := ⟨fun pins st σ H Q I h => h.elim⟩
end L3

/-! the rules as instances: a goal P is led back to Q by one look-up (Red1 mo P Q); m = false: not past the end of a statement -/
namespace L3
open PySem PySem.Spec L2
structure Sd (C Q : Prop) : Prop where
  c : C
  q : Q
class Red1 (mo : Bool) (P : Prop) (Q : outParam Prop) : Prop where prf : Q → P
class Red (mo : Bool) (P : Prop) (Q : outParam Prop) : Prop where prf : Q → P
instance (priority := 10) red_id {mo : Bool} {P : Prop} : Red mo P P := ⟨id⟩
instance red_1 {mo : Bool} {P Q : Prop} [r : Red1 mo P Q] : Red mo P Q := ⟨r.prf⟩
theorem Red1.go (mo : Bool) {P Q : Prop} [r : Red1 mo P Q] (h : Q) : P := r.prf h
class EnvAt (ρ : Env3) (i : Nat) (x : outParam D) : Prop where prf : ρ[i]? = some (some x)
instance envAt_0 {ρ : Env3} {x : D} : EnvAt (some x :: ρ) 0 x := ⟨rfl⟩
instance envAt_s {ρ : Env3} {y : Option D} {i : Nat} {x : D} [h : EnvAt ρ i x] : EnvAt (y :: ρ) (i + 1) x := ⟨h.prf⟩
class EnvSet (ρ : Env3) (i : Nat) (x : Option D) (ρ' : outParam Env3) : Prop where prf : ρ.set i x = ρ'
instance envSet_0 {ρ : Env3} {x y : Option D} : EnvSet (y :: ρ) 0 x (x :: ρ) := ⟨rfl⟩
instance envSet_s {ρ ρ' : Env3} {x y : Option D} {i : Nat} [h : EnvSet ρ i x ρ'] : EnvSet (y :: ρ) (i + 1) x (y :: ρ') := ⟨congrArg (y :: ·) h.prf⟩
class CellAt (M : Mem) (p : Addr) (o : outParam O) : Prop where prf : (p, o) ∈ M
instance cellAt_0 {M : Mem} {p : Addr} {o : O} : CellAt ((p, o) :: M) p o := ⟨.head _⟩
instance (priority := 900) cellAt_s {M : Mem} {p : Addr} {o : O} {c : Addr × O} [h : CellAt M p o] : CellAt (c :: M) p o := ⟨.tail _ h.prf⟩
class RmI (p : Addr) (o : outParam O) (M : Mem) (M' : outParam Mem) : Prop where prf : Rm p o M M'
instance rmI_0 {M : Mem} {p : Addr} {o : O} : RmI p o ((p, o) :: M) M := ⟨.here⟩
instance (priority := 900) rmI_s {M M' : Mem} {p : Addr} {o : O} {c : Addr × O} [h : RmI p o M M'] : RmI p o (c :: M) (c :: M') := ⟨.there h.prf⟩
class SpI (p : Addr) (o : outParam O) (M : Mem) (g : outParam (O → Mem)) : Prop where prf : Sp p o M g
instance spI_0 {M : Mem} {p : Addr} {o : O} : SpI p o ((p, o) :: M) (fun u => (p, u) :: M) := ⟨.here⟩
instance (priority := 900) spI_s {M : Mem} {g : O → Mem} {p : Addr} {o : O} {c : Addr × O} [h : SpI p o M g] : SpI p o (c :: M) (fun u => c :: g u) := ⟨.there h.prf⟩
class SeqI (M : Mem) (x : D) (xs : outParam (List D)) : Prop where prf : Seq M x xs
instance seqI_lst {M : Mem} {xs : List D} : SeqI M (.lst xs) xs := ⟨.lst _⟩
instance seqI_tup {M : Mem} {xs : List D} : SeqI M (.tup xs) xs := ⟨.tup _⟩
instance seqI_scr {M : Mem} {ns : List Int} : SeqI M (.scr ns) (ns.map .int) := ⟨.scr _⟩
instance seqI_own {M : Mem} {p : Addr} {xs : List D} [h : CellAt M p (.lst xs)] : SeqI M (.ref p) xs := ⟨.own h.prf⟩
class LenE (xs : List D) (n : Nat) : Prop where prf : xs.length = n
instance lenE_0 : LenE [] 0 := ⟨rfl⟩
instance lenE_s {x : D} {xs : List D} {n : Nat} [h : LenE xs n] : LenE (x :: xs) (n + 1) := ⟨congrArg (· + 1) h.prf⟩
class Lit (xs : List D) (n : Nat) : Prop where prf : xs.length ≤ n
instance lit_0 {n : Nat} : Lit [] n := ⟨Nat.zero_le _⟩
instance lit_s {x : D} {xs : List D} {n : Nat} [h : Lit xs n] : Lit (x :: xs) (n + 1) := ⟨Nat.succ_le_succ h.prf⟩
instance lenOk_t {mo : Bool} {xs : List D} {P Q : Prop} [h : Lit xs 100] [r : Red mo P Q] : Red1 mo (xs.length ≤ sizeLine ∧ P) Q := ⟨fun q => lenOk (Nat.le_trans h.prf (by decide)) (r.prf q)⟩
class Short (n : Nat) : Prop where prf : n ≤ 100
class LitF (xs : List (Str × D)) (n : Nat) : Prop where prf : xs.length ≤ n
instance litF_0 {n : Nat} : LitF [] n := ⟨Nat.zero_le _⟩
instance litF_s {x : Str × D} {xs : List (Str × D)} {n : Nat} [h : LitF xs n] : LitF (x :: xs) (n + 1) := ⟨Nat.succ_le_succ h.prf⟩
instance short_f {xs : List (Str × D)} [h : LitF xs 100] : Short xs.length := ⟨h.prf⟩
class IsLI (x : D) : Prop where prf : isL x = true
instance isLI_l {xs : List D} : IsLI (.lst xs) := ⟨rfl⟩
instance isLI_r {p : Addr} : IsLI (.ref p) := ⟨rfl⟩
class ToN (i : Int) (n : outParam Nat) : Prop where prf : i.toNat = n
instance toN_c {n : Nat} : ToN (n : Int) n := ⟨Int.toNat_natCast n⟩
instance toN_l {n : Nat} : ToN (no_index (OfNat.ofNat n)) (@OfNat.ofNat Nat n (instOfNatNat n)) := ⟨rfl⟩
instance (priority := 10) toN_i {i : Int} : ToN i i.toNat := ⟨rfl⟩
class StrNe (a b : Str) : Prop where prf : (a == b) = false
class InsI (M : Mem) (x : D) (c : outParam Addr) (gs : outParam (List (Str × D))) : Prop where prf : InsM M x c gs
instance insI_ob {M : Mem} {c : Addr} {gs : List (Str × D)} : InsI M (.ob c gs) c gs := ⟨.ob⟩
instance insI_own {M : Mem} {p c dx : Addr} {gs : List (Str × D)} [h : CellAt M p (.ins c dx gs)] : InsI M (.ref p) c gs := ⟨.own h.prf⟩
class LookI (gs : List (Str × D)) (f : Str) (y : outParam D) : Prop where prf : gs.lookup f = some y
instance lookI_0 {gs : List (Str × D)} {f : Str} {y : D} : LookI ((f, y) :: gs) f y := ⟨by rw [List.lookup_cons, beq_self_eq_true]⟩
instance (priority := 900) lookI_s {gs : List (Str × D)} {f g : Str} {x y : D} [n : StrNe f g] [h : LookI gs f y] : LookI ((g, x) :: gs) f y := ⟨by rw [List.lookup_cons, n.prf]; exact h.prf⟩
class LookN (gs : List (Str × D)) (f : Str) : Prop where prf : gs.lookup f = none
instance lookN_0 {f : Str} : LookN [] f := ⟨rfl⟩
instance lookN_s {gs : List (Str × D)} {f g : Str} {x : D} [n : StrNe f g] [h : LookN gs f] : LookN ((g, x) :: gs) f := ⟨by rw [List.lookup_cons, n.prf]; exact h.prf⟩
class PutI (f : Str) (y : D) (gs : List (Str × D)) (gs' : outParam (List (Str × D))) : Prop where prf : putD f y gs = gs'
instance putI_n {f : Str} {y : D} : PutI f y [] [(f, y)] := ⟨rfl⟩
instance putI_0 {f : Str} {y x : D} {gs : List (Str × D)} : PutI f y ((f, x) :: gs) ((f, y) :: gs) := ⟨if_pos rfl⟩
instance (priority := 900) putI_s {f g : Str} {y x : D} {gs gs' : List (Str × D)} [n : StrNe f g] [h : PutI f y gs gs'] : PutI f y ((g, x) :: gs) ((g, x) :: gs') := ⟨(if_neg (fun e => by have := n.prf; rw [← e, beq_self_eq_true] at this; cases this)).trans (congrArg ((g, x) :: ·) h.prf)⟩
class TyI (M : Mem) (T : String) (x : D) : Prop where prf : TyM M T x
instance tyI_own {M : Mem} {p : Addr} {xs : List D} [h : CellAt M p (.lst xs)] : TyI M "list" (.ref p) := ⟨.own h.prf⟩
instance tyI_lst {M : Mem} {xs : List D} : TyI M "list" (.lst xs) := ⟨.lst⟩
instance tyI_str {M : Mem} {x : Str} : TyI M "str" (.str x) := ⟨.str⟩
instance tyI_int {M : Mem} {x : Int} : TyI M "int" (.int x) := ⟨.int⟩
instance tyI_dct {M : Mem} {p : Addr} {ks : List (Key × D)} [h : CellAt M p (.dct ks)] : TyI M "dict" (.ref p) := ⟨.dct h.prf⟩
instance tyAnd_t {mo : Bool} {M : Mem} {T : String} {x : D} {P Q : Prop} [h : TyI M T x] [r : Red mo P Q] : Red1 mo (TyM M T x ∧ P) Q := ⟨fun q => ⟨h.prf, r.prf q⟩⟩
instance itT_t {mo : Bool} {A B Q : Prop} [r : Red mo A Q] : Red1 mo ((true = true → A) ∧ (true = false → B)) Q := ⟨fun q => itT rfl (r.prf q)⟩
instance itF_t {mo : Bool} {A B Q : Prop} [r : Red mo B Q] : Red1 mo ((false = true → A) ∧ (false = false → B)) Q := ⟨fun q => itF rfl (r.prf q)⟩
instance itNT_t {mo : Bool} {A B Q : Prop} [r : Red mo B Q] : Red1 mo (((!true) = true → A) ∧ ((!true) = false → B)) Q := ⟨fun q => itF rfl (r.prf q)⟩
instance itNF_t {mo : Bool} {A B Q : Prop} [r : Red mo A Q] : Red1 mo (((!false) = true → A) ∧ ((!false) = false → B)) Q := ⟨fun q => itT rfl (r.prf q)⟩
class BEv (b : Bool) (r : outParam Bool) : Prop where prf : b = r
instance bev_any {b : Bool} : BEv b b := ⟨rfl⟩
class LitP (i : Int) : Prop where
  p : 0 < i
  q : i < 2 ^ 64
instance litP_l {n : Nat} [h : BEv (Nat.ble 1 n) true] [g : BEv (Nat.ble n 18446744073709551615) true] : LitP (no_index (OfNat.ofNat n)) := ⟨by have := Nat.le_of_ble_eq_true h.prf; show (0 : Int) < (n : Int); omega, by have := Nat.le_of_ble_eq_true g.prf; show (n : Int) < 2 ^ 64; omega⟩
class Pos0 (i : Int) : Prop where prf : 0 ≤ i
instance pos0_c {n : Nat} : Pos0 (n : Int) := ⟨Int.natCast_nonneg n⟩
instance pos0_l {n : Nat} : Pos0 (no_index (OfNat.ofNat n)) := ⟨Int.natCast_nonneg n⟩
class NthI (xs : List D) (i : Nat) (y : outParam D) : Prop where prf : xs[i]? = some y
instance nthI_0 {xs : List D} {y : D} : NthI (y :: xs) 0 y := ⟨rfl⟩
instance nthI_s {xs : List D} {x y : D} {i : Nat} [h : NthI xs i y] : NthI (x :: xs) (i + 1) y := ⟨h.prf⟩
section
variable {K : PySem.W.Frag} {E : WX} {Ψ : PX} {ρ : Env3} {M : Mem} {N B C : Env3 → Mem → Prop} {R : D → Mem → Prop} {Φ : D → Mem → Prop} {mo : Bool} {c : Addr}
instance (priority := 1200) ixN_t {x y : D} {xs : List D} {i : Int} {n : Nat} {Q : Prop} [sq : SeqI M x xs] [tn : ToN i n] [nt : NthI xs n y] [p0 : Pos0 i] [rr : Red mo (Φ y M) Q] : Red1 mo (OpD K (oIx K) x (.int i) M Φ) Q := ⟨fun zz => OpD.ixN sq.prf p0.prf (by rw [tn.prf]; exact nt.prf) (rr.prf zz)⟩
instance mulD_t {i j : Int} {QQ : Prop} [lt : LitP j] [rr : Red mo (Φ (.int (i * j)) M) QQ] : Red1 mo (OpD K (oMul K) (.int i) (.int j) M Φ) QQ := ⟨fun zz => OpD.mul (.inl (.inr ⟨by have := lt.p; omega, lt.q⟩)) (rr.prf zz)⟩
instance mulE_t {i j : Int} {QQ : Prop} [lt : LitP i] [rr : Red mo (Φ (.int (i * j)) M) QQ] : Red1 mo (OpD K (oMul K) (.int i) (.int j) M Φ) QQ := ⟨fun zz => OpD.mul (.inl (.inl ⟨by have := lt.p; omega, lt.q⟩)) (rr.prf zz)⟩
instance fdivD_t {i j : Int} {QQ : Prop} [lt : LitP j] [rr : Red mo (Φ (.int (i / j)) M) QQ] : Red1 mo (OpD K oFdiv (.int i) (.int j) M Φ) QQ := ⟨fun zz => OpD.fdiv (cdivw lt.p (by have := lt.q; omega)) (rr.prf zz)⟩
instance modD_t {i j : Int} {QQ : Prop} [lt : LitP j] [rr : Red mo (Φ (.int (i % j)) M) QQ] : Red1 mo (OpD K oMod (.int i) (.int j) M Φ) QQ := ⟨fun zz => OpD.mod lt.p (rr.prf zz)⟩
instance S_seq_t1 {t u : TS} {QQ : Prop} [rr : Red true (WS K E t ρ M ⟨fun ρ1 M1 => WS K E u ρ1 M1 ⟨N, R, B, C⟩ Ψ, R, B, C⟩ Ψ) QQ] : Red1 true (WS K E (tSeq t u) ρ M ⟨N, R, B, C⟩ Ψ) (QQ) := ⟨fun zz => S.seq (h := (rr.prf zz))⟩
instance S_asg_t2 {te : TE} {g : TG} {QQ : Prop} [rr : Red mo (W K E te ρ M (fun x M1 => WG K E g x ρ M1 N Ψ) Ψ) QQ] : Red1 mo (WS K E (tAsg te g) ρ M ⟨N, R, B, C⟩ Ψ) (QQ) := ⟨fun zz => S.asg (h := (rr.prf zz))⟩
instance S_drop_t3 {te : TE} {QQ : Prop} [rr : Red mo (W K E te ρ M (fun _ M1 => N ρ M1) Ψ) QQ] : Red1 mo (WS K E (tDrop te) ρ M ⟨N, R, B, C⟩ Ψ) (QQ) := ⟨fun zz => S.drop (h := (rr.prf zz))⟩
instance S_next_t4 {QQ : Prop} [rr : Red mo (N ρ M) QQ] : Red1 mo (WS K E tNext ρ M ⟨N, R, B, C⟩ Ψ) (QQ) := ⟨fun zz => S.next (h := (rr.prf zz))⟩
instance S_retN_t5 {QQ : Prop} [rr : Red mo (R .non M) QQ] : Red1 mo (WS K E tRetN ρ M ⟨N, R, B, C⟩ Ψ) (QQ) := ⟨fun zz => S.retN (h := (rr.prf zz))⟩
instance S_raise_t6 {A : Addr} {QQ : Prop} [rr : Red mo (Ψ ⟨.ref A, none⟩ ρ M) QQ] : Red1 mo (WS K E (tRaise0 A E) ρ M ⟨N, R, B, C⟩ Ψ) (QQ) := ⟨fun zz => S.raise (h := (rr.prf zz))⟩
instance S_par_t7 {i j : Nat} {ta : TA} {QQ : Prop} [rr : Red mo (WA K E ta ρ M (fun xs M1 => ∃ x y, xs = [x, y] ∧ WG K E (gName i) x ρ M1 (fun ρ2 M2 => WG K E (gName j) y ρ2 M2 N Ψ) Ψ) Ψ) QQ] : Red1 mo (WS K E (tPar i j ta) ρ M ⟨N, R, B, C⟩ Ψ) (QQ) := ⟨fun zz => S.par (h := (rr.prf zz))⟩
instance S_par3_t8 {i j l : Nat} {ta : TA} {QQ : Prop} [rr : Red mo (WA K E ta ρ M (fun xs M1 => ∃ x y z, xs = [x, y, z] ∧ WG K E (gName i) x ρ M1 (fun ρ2 M2 => WG K E (gName j) y ρ2 M2 (fun ρ3 M3 => WG K E (gName l) z ρ3 M3 N Ψ) Ψ) Ψ) Ψ) QQ] : Red1 mo (WS K E (tPar3 i j l ta) ρ M ⟨N, R, B, C⟩ Ψ) (QQ) := ⟨fun zz => S.par3 (h := (rr.prf zz))⟩
instance S_brk_t9 {QQ : Prop} [rr : Red mo (B ρ M) QQ] : Red1 mo (WS K E tBreak ρ M ⟨N, R, B, C⟩ Ψ) (QQ) := ⟨fun zz => S.brk (h := (rr.prf zz))⟩
instance S_cnt_t10 {QQ : Prop} [rr : Red mo (C ρ M) QQ] : Red1 mo (WS K E tCont ρ M ⟨N, R, B, C⟩ Ψ) (QQ) := ⟨fun zz => S.cnt (h := (rr.prf zz))⟩
instance S_fldD_t11 {c : Addr} {ta tv : TE} {f : Str} {QQ : Prop} [rr : Red mo (W K E tv ρ M (fun y M1 => W K E ta ρ M1 (fun x M2 => FldD c f y x M2 (N ρ)) Ψ) Ψ) QQ] : Red1 mo (WS K E (sFldK c ta tv f) ρ M ⟨N, R, B, C⟩ Ψ) (QQ) := ⟨fun zz => S.fldD (h := (rr.prf zz))⟩
instance S_fldAugD_t12 {c : Addr} {ta tv : TE} {f : Str} {rd : R2} {QQ : Prop} [rr : Red mo (W K E ta ρ M (fun x M1 => FgtD c f x M1 (fun y => W K E tv ρ M1 (fun u M2 => OpD K rd y u M2 (fun r M3 => FldD c f r x M3 (N ρ))) Ψ)) Ψ) QQ] : Red1 mo (WS K E (sFldAugK c ta tv rd f) ρ M ⟨N, R, B, C⟩ Ψ) (QQ) := ⟨fun zz => S.fldAugD (h := (rr.prf zz))⟩
instance S_ite_t13 {c : TT} {t u : TS} {QQ : Prop} [rr : Red mo (WT K E c ρ M (fun b M1 => (b = true → WS K E t ρ M1 ⟨N, R, B, C⟩ Ψ) ∧ (b = false → WS K E u ρ M1 ⟨N, R, B, C⟩ Ψ)) Ψ) QQ] : Red1 mo (WS K E (tIfS c t u) ρ M ⟨N, R, B, C⟩ Ψ) (QQ) := ⟨fun zz => S.ite (h := (rr.prf zz))⟩
instance (priority := 900) S_retW_t14 {te : TE} {QQ : Prop} [rr : Red mo (W K E te ρ M (fun x M1 => Wk R x M1) Ψ) QQ] : Red1 mo (WS K E (tRet te) ρ M ⟨N, R, B, C⟩ Ψ) (QQ) := ⟨fun zz => S.retW (h := (rr.prf zz))⟩
instance (priority := 1100) W_isT_t15 {te : TE} {ta : TA} {QQ : Prop} [rr : Red mo (W K E te ρ M (fun x M1 => WA K E ta ρ M1 (fun cs M2 => cs.length ≤ sizeLine ∧ ∃ (ns : List String), ∃ n b, cs = ns.map D.ty ∧ TnM M2 x n ∧ isAny n ns = some b ∧ Φ (.bl b) M2) Ψ) Ψ) QQ] : Red1 mo (W K E (tCB (cIsi K) (tCons te (tCons (tTup ta) tNil))) ρ M Φ Ψ) (QQ) := ⟨fun zz => W.isT (h := (rr.prf zz))⟩
instance W_bmlist_t16 {r : V → List V → Hp → VK → Prop} {to : TE} {t : TA} {QQ : Prop} [rr : Red mo (W K E to ρ M (fun x M1 => TyM M1 "list" x ∧ WA K E t ρ M1 (fun xs M2 => MtD K r x xs M2 Φ) Ψ) Ψ) QQ] : Red1 mo (W K E (tBM K "list" r to t) ρ M Φ Ψ) (QQ) := ⟨fun zz => W.bm (h := (rr.prf zz))⟩
instance W_bm0list_t17 {r : V → List V → Hp → VK → Prop} {to : TE} {QQ : Prop} [rr : Red mo (W K E to ρ M (fun x M1 => TyM M1 "list" x ∧ MtD K r x [] M1 Φ) Ψ) QQ] : Red1 mo (W K E (tBM0 K "list" r to) ρ M Φ Ψ) (QQ) := ⟨fun zz => W.bm0 (h := (rr.prf zz))⟩
instance W_bmdict_t18 {r : V → List V → Hp → VK → Prop} {to : TE} {t : TA} {QQ : Prop} [rr : Red mo (W K E to ρ M (fun x M1 => TyM M1 "dict" x ∧ WA K E t ρ M1 (fun xs M2 => MtD K r x xs M2 Φ) Ψ) Ψ) QQ] : Red1 mo (W K E (tBM K "dict" r to t) ρ M Φ Ψ) (QQ) := ⟨fun zz => W.bm (h := (rr.prf zz))⟩
instance W_bm0dict_t19 {r : V → List V → Hp → VK → Prop} {to : TE} {QQ : Prop} [rr : Red mo (W K E to ρ M (fun x M1 => TyM M1 "dict" x ∧ MtD K r x [] M1 Φ) Ψ) QQ] : Red1 mo (W K E (tBM0 K "dict" r to) ρ M Φ Ψ) (QQ) := ⟨fun zz => W.bm0 (h := (rr.prf zz))⟩
instance W_bmstr_t20 {r : V → List V → Hp → VK → Prop} {to : TE} {t : TA} {QQ : Prop} [rr : Red mo (W K E to ρ M (fun x M1 => TyM M1 "str" x ∧ WA K E t ρ M1 (fun xs M2 => MtD K r x xs M2 Φ) Ψ) Ψ) QQ] : Red1 mo (W K E (tBM K "str" r to t) ρ M Φ Ψ) (QQ) := ⟨fun zz => W.bm (h := (rr.prf zz))⟩
instance W_bm0str_t21 {r : V → List V → Hp → VK → Prop} {to : TE} {QQ : Prop} [rr : Red mo (W K E to ρ M (fun x M1 => TyM M1 "str" x ∧ MtD K r x [] M1 Φ) Ψ) QQ] : Red1 mo (W K E (tBM0 K "str" r to) ρ M Φ Ψ) (QQ) := ⟨fun zz => W.bm0 (h := (rr.prf zz))⟩
instance W_bmint_t22 {r : V → List V → Hp → VK → Prop} {to : TE} {t : TA} {QQ : Prop} [rr : Red mo (W K E to ρ M (fun x M1 => TyM M1 "int" x ∧ WA K E t ρ M1 (fun xs M2 => MtD K r x xs M2 Φ) Ψ) Ψ) QQ] : Red1 mo (W K E (tBM K "int" r to t) ρ M Φ Ψ) (QQ) := ⟨fun zz => W.bm (h := (rr.prf zz))⟩
instance W_bm0int_t23 {r : V → List V → Hp → VK → Prop} {to : TE} {QQ : Prop} [rr : Red mo (W K E to ρ M (fun x M1 => TyM M1 "int" x ∧ MtD K r x [] M1 Φ) Ψ) QQ] : Red1 mo (W K E (tBM0 K "int" r to) ρ M Φ Ψ) (QQ) := ⟨fun zz => W.bm0 (h := (rr.prf zz))⟩
instance (priority := 1100) S_retF_t24 {i : Nat} {p : Addr} {xs : List D} {M' : Mem} {QQ : Prop} [e1 : EnvAt ρ i (.ref p)] [e2 : RmI p (.lst xs) M M'] [rr : Red mo (R (.lst xs) M') QQ] : Red1 mo (WS K E (tRet (tVar i)) ρ M ⟨N, R, B, C⟩ Ψ) (QQ) := ⟨fun zz => S.retF (h := e1.prf) (hm := e2.prf) (q := (rr.prf zz))⟩
instance S_aug_t25 {i : Nat} {te : TE} {ti : TIp} {x : D} {QQ : Prop} [e1 : EnvAt ρ i x] [rr : Red mo (W K E te ρ M (fun y M1 => OpD K ti x y M1 (fun z M2 => WG K E (gName i) z ρ M2 N Ψ)) Ψ) QQ] : Red1 mo (WS K E (tAug i te ti) ρ M ⟨N, R, B, C⟩ Ψ) (QQ) := ⟨fun zz => S.aug (h0 := e1.prf) (h := (rr.prf zz))⟩
instance W_var_t26 {i : Nat} {x : D} {QQ : Prop} [e1 : EnvAt ρ i x] [rr : Red mo (Φ x M) QQ] : Red1 mo (W K E (tVar i) ρ M Φ Ψ) (QQ) := ⟨fun zz => W.var (h := e1.prf) (q := (rr.prf zz))⟩
instance W_int_t27 {i : Int} {QQ : Prop} [rr : Red mo (Φ (.int i) M) QQ] : Red1 mo (W K E (tC (.int i)) ρ M Φ Ψ) (QQ) := ⟨fun zz => W.int (q := (rr.prf zz))⟩
instance W_str_t28 {i : Str} {QQ : Prop} [rr : Red mo (Φ (.str i) M) QQ] : Red1 mo (W K E (tC (.str i)) ρ M Φ Ψ) (QQ) := ⟨fun zz => W.str (q := (rr.prf zz))⟩
instance W_bl_t29 {i : Bool} {QQ : Prop} [rr : Red mo (Φ (.bl i) M) QQ] : Red1 mo (W K E (tC (.bl i)) ρ M Φ Ψ) (QQ) := ⟨fun zz => W.bl (q := (rr.prf zz))⟩
instance W_non_t30 {QQ : Prop} [rr : Red mo (Φ .non M) QQ] : Red1 mo (W K E (tC .non) ρ M Φ Ψ) (QQ) := ⟨fun zz => W.non (q := (rr.prf zz))⟩
instance W_ty_t31 {i : String} {QQ : Prop} [rr : Red mo (Φ (.ty i) M) QQ] : Red1 mo (W K E (tC (.ty i)) ρ M Φ Ψ) (QQ) := ⟨fun zz => W.ty (q := (rr.prf zz))⟩
instance W_op_t32 {r : R2} {ta tb : TE} {QQ : Prop} [rr : Red mo (W K E ta ρ M (fun x M1 => W K E tb ρ M1 (fun y M2 => OpD K r x y M2 Φ) Ψ) Ψ) QQ] : Red1 mo (W K E (tOp r ta tb) ρ M Φ Ψ) (QQ) := ⟨fun zz => W.op (h := (rr.prf zz))⟩
instance W_un_t33 {r : V → Hp → VK → Prop} {ta : TE} {QQ : Prop} [rr : Red mo (W K E ta ρ M (fun x M1 => UnD K r x M1 Φ) Ψ) QQ] : Red1 mo (W K E (tUn r ta) ρ M Φ Ψ) (QQ) := ⟨fun zz => W.un (h := (rr.prf zz))⟩
instance W_cb_t34 {r : List V → Hp → VK → Prop} {t : TA} {QQ : Prop} [rr : Red mo (WA K E t ρ M (fun xs M1 => CbD K r xs M1 Φ) Ψ) QQ] : Red1 mo (W K E (tCB r t) ρ M Φ Ψ) (QQ) := ⟨fun zz => W.cb (h := (rr.prf zz))⟩
instance WA_cons_t35 {ta : TE} {tr : TA} {Φ : List D → Mem → Prop} {QQ : Prop} [rr : Red mo (W K E ta ρ M (fun x M1 => WA K E tr ρ M1 (fun xs M2 => Φ (x :: xs) M2) Ψ) Ψ) QQ] : Red1 mo (WA K E (tCons ta tr) ρ M Φ Ψ) (QQ) := ⟨fun zz => WA.cons (h := (rr.prf zz))⟩
instance WA_nil_t36 {Φ : List D → Mem → Prop} {QQ : Prop} [rr : Red mo (Φ [] M) QQ] : Red1 mo (WA K E tNil ρ M Φ Ψ) (QQ) := ⟨fun zz => WA.nil (h := (rr.prf zz))⟩
instance W_callI_t37 {sp : SpD} {t : TA} {QQ : Prop} [rr : Red mo (WA K E t ρ M (fun xs M1 => Cal sp xs M1 Φ (fun x M2 => Ψ x ρ M2)) Ψ) QQ] : Red1 mo (W K E (tCallSD (lift K sp) [] (WE E) t) ρ M Φ Ψ) (QQ) := ⟨fun zz => W.callI (h := (rr.prf zz))⟩
instance W_tup_t38 {t : TA} {QQ : Prop} [rr : Red mo (WA K E t ρ M (fun xs M1 => xs.length ≤ sizeLine ∧ Φ (.tup xs) M1) Ψ) QQ] : Red1 mo (W K E (tTup t) ρ M Φ Ψ) (QQ) := ⟨fun zz => W.tup (h := (rr.prf zz))⟩
instance W_lst_t39 {t : TA} {QQ : Prop} [rr : Red mo (WA K E t ρ M (fun xs M1 => xs.length ≤ sizeLine ∧ Φ (.lst xs) M1) Ψ) QQ] : Red1 mo (W K E (tLst t) ρ M Φ Ψ) (QQ) := ⟨fun zz => W.lst (h := (rr.prf zz))⟩
instance W_lstO_t40 {t : TA} {QQ : Prop} [rr : Red mo (WA K E t ρ M (fun xs M1 => xs.length ≤ sizeLine ∧ AllA fun p => Φ (.ref p) ((p, .lst xs) :: M1)) Ψ) QQ] : Red1 mo (W K E (tLstO t) ρ M Φ Ψ) (QQ) := ⟨fun zz => W.lstO (h := (rr.prf zz))⟩
instance WT_test_t41 {t : TE} {Θ : Bool → Mem → Prop} {QQ : Prop} [rr : Red mo (W K E t ρ M (fun x M1 => ∃ b, x = .bl b ∧ Θ b M1) Ψ) QQ] : Red1 mo (WT K E (tTest t) ρ M Θ Ψ) (QQ) := ⟨fun zz => WT.test (h := (rr.prf zz))⟩
instance WT_tB_t42 {t : TE} {Θ : Bool → Mem → Prop} {QQ : Prop} [rr : Red mo (W K E t ρ M (fun x M1 => ∃ b, x = .bl b ∧ Θ b M1) Ψ) QQ] : Red1 mo (WT K E (tB t) ρ M Θ Ψ) (QQ) := ⟨fun zz => WT.tB (h := (rr.prf zz))⟩
instance WT_and_t43 {t u : TT} {Θ : Bool → Mem → Prop} {QQ : Prop} [rr : Red mo (WT K E t ρ M (fun b M1 => (b = true → WT K E u ρ M1 Θ Ψ) ∧ (b = false → Θ false M1)) Ψ) QQ] : Red1 mo (WT K E (tAnd t u) ρ M Θ Ψ) (QQ) := ⟨fun zz => WT.and (h := (rr.prf zz))⟩
instance WT_or_t44 {t u : TT} {Θ : Bool → Mem → Prop} {QQ : Prop} [rr : Red mo (WT K E t ρ M (fun b M1 => (b = true → Θ true M1) ∧ (b = false → WT K E u ρ M1 Θ Ψ)) Ψ) QQ] : Red1 mo (WT K E (tOr t u) ρ M Θ Ψ) (QQ) := ⟨fun zz => WT.or (h := (rr.prf zz))⟩
instance WT_not_t45 {t : TT} {Θ : Bool → Mem → Prop} {QQ : Prop} [rr : Red mo (WT K E t ρ M (fun b M1 => Θ (!b) M1) Ψ) QQ] : Red1 mo (WT K E (tNot t) ρ M Θ Ψ) (QQ) := ⟨fun zz => WT.not (h := (rr.prf zz))⟩
instance W_andV_t46 {ta tb : TE} {QQ : Prop} [rr : Red mo (W K E ta ρ M (fun x M1 => ∃ b, x = .bl b ∧ (b = true → W K E tb ρ M1 Φ Ψ) ∧ (b = false → Φ (.bl false) M1)) Ψ) QQ] : Red1 mo (W K E (tAndV ta tb) ρ M Φ Ψ) (QQ) := ⟨fun zz => W.andV (h := (rr.prf zz))⟩
instance W_orV_t47 {ta tb : TE} {QQ : Prop} [rr : Red mo (W K E ta ρ M (fun x M1 => ∃ b, x = .bl b ∧ (b = true → Φ (.bl true) M1) ∧ (b = false → W K E tb ρ M1 Φ Ψ)) Ψ) QQ] : Red1 mo (W K E (tOrV ta tb) ρ M Φ Ψ) (QQ) := ⟨fun zz => W.orV (h := (rr.prf zz))⟩
instance W_notV_t48 {ta : TE} {QQ : Prop} [rr : Red mo (W K E ta ρ M (fun x M1 => ∃ b, x = .bl b ∧ Φ (.bl (!b)) M1) Ψ) QQ] : Red1 mo (W K E (tNotV ta) ρ M Φ Ψ) (QQ) := ⟨fun zz => W.notV (h := (rr.prf zz))⟩
instance WGs_cons_t49 {g : TG} {u : TGs} {x : D} {xs : List D} {Θ : Env3 → Mem → Prop} {QQ : Prop} [rr : Red mo (WG K E g x ρ M (fun ρ1 M1 => WGs K E u xs ρ1 M1 Θ Ψ) Ψ) QQ] : Red1 mo (WGs K E (gCons g u) (x :: xs) ρ M Θ Ψ) (QQ) := ⟨fun zz => WGs.cons (h := (rr.prf zz))⟩
instance WGs_nil_t50 {Θ : Env3 → Mem → Prop} {QQ : Prop} [rr : Red mo (Θ ρ M) QQ] : Red1 mo (WGs K E gNil [] ρ M Θ Ψ) (QQ) := ⟨fun zz => WGs.nil (h := (rr.prf zz))⟩
instance W_sl_t51 {r : V → Option Int → Option Int → Hp → VK → Prop} {te : TE} {tl th : TO} {QQ : Prop} [rr : Red mo (W K E te ρ M (fun x M1 => WO K E tl ρ M1 (fun lo M2 => WO K E th ρ M2 (fun hi M3 => SlD K r x lo hi M3 Φ) Ψ) Ψ) Ψ) QQ] : Red1 mo (W K E (tSl r te tl th) ρ M Φ Ψ) (QQ) := ⟨fun zz => W.sl (h := (rr.prf zz))⟩
instance WO_no_t52 {Θ : Option Int → Mem → Prop} {QQ : Prop} [rr : Red mo (Θ Option.none M) QQ] : Red1 mo (WO K E tNoPart ρ M Θ Ψ) (QQ) := ⟨fun zz => WO.no (h := (rr.prf zz))⟩
instance WO_so_t53 {te : TE} {Θ : Option Int → Mem → Prop} {QQ : Prop} [rr : Red mo (W K E te ρ M (fun x M1 => ∃ i, x = .int i ∧ Θ (some i) M1) Ψ) QQ] : Red1 mo (WO K E (tPart te) ρ M Θ Ψ) (QQ) := ⟨fun zz => WO.so (h := (rr.prf zz))⟩
instance W_slS_t54 {te : TE} {tl th ts : TO} {QQ : Prop} [rr : Red mo (W K E te ρ M (fun x M1 => WO K E tl ρ M1 (fun lo M2 => WO K E th ρ M2 (fun hi M3 => WO K E ts ρ M3 (fun st M4 => ∃ xs, Seq M4 x xs ∧ isL x = true ∧ st ≠ some 0 ∧ (pickX xs lo hi st).length ≤ sizeLine ∧ Φ (.lst (pickX xs lo hi st)) M4) Ψ) Ψ) Ψ) Ψ) QQ] : Red1 mo (W K E (tSlS K te tl th ts) ρ M Φ Ψ) (QQ) := ⟨fun zz => W.slS (h := (rr.prf zz))⟩
instance W_chain_t55 {r r' : R2} {ta tb tc : TE} {QQ : Prop} [rr : Red mo (W K E ta ρ M (fun x M1 => W K E tb ρ M1 (fun y M2 => OpD K r x y M2 (fun z M3 => ∃ b, z = .bl b ∧ (b = true → W K E tc ρ M3 (fun w M4 => OpD K r' y w M4 Φ) Ψ) ∧ (b = false → Φ (.bl false) M3))) Ψ) Ψ) QQ] : Red1 mo (W K E (tChain r r' ta tb tc) ρ M Φ Ψ) (QQ) := ⟨fun zz => W.chain (h := (rr.prf zz))⟩
instance W_fldK_t56 {ta : TE} {f : Str} {QQ : Prop} [rr : Red mo (W K E ta ρ M (fun x M1 => ∃ gs y, InsM M1 x c gs ∧ gs.lookup f = some y ∧ Φ y M1) Ψ) QQ] : Red1 mo (W K E (tFldK c ta f) ρ M Φ Ψ) (QQ) := ⟨fun zz => W.fldK (h := (rr.prf zz))⟩
instance W_meth_t57 {sp : SpD} {ta : TE} {t : TA} {m : Str} {QQ : Prop} [rr : Red mo (W K E ta ρ M (fun x M1 => ∃ gs, InsM M1 x c gs ∧ gs.lookup m = none ∧ WA K E t ρ M1 (fun xs M2 => Cal sp (x :: xs) M2 Φ (fun y M3 => Ψ y ρ M3)) Ψ) Ψ) QQ] : Red1 mo (W K E (tMethSD c m (lift K sp) [] (WE E) ta t) ρ M Φ Ψ) (QQ) := ⟨fun zz => W.meth (h := (rr.prf zz))⟩
instance W_make_t58 {sp : SpD} {t : TA} {QQ : Prop} [rr : Red mo (WA K E t ρ M (fun xs M1 => AllA2 fun x dx => Cal sp (.ref x :: xs) ((x, .ins c dx []) :: M1) (fun v M2 => v = .non ∧ Φ (.ref x) M2) (fun y M3 => Ψ y ρ M3)) Ψ) QQ] : Red1 mo (W K E (tMakeSD c (lift K sp) [] (WE E) t) ρ M Φ Ψ) (QQ) := ⟨fun zz => W.make (h := (rr.prf zz))⟩
instance W_makeF_t59 {sp : SpD} {t : TA} {QQ : Prop} [rr : Red mo (WA K E t ρ M (fun xs M1 => AllA2 fun x dx => Cal sp (.ref x :: xs) ((x, .ins c dx []) :: M1) (fun v M2 => v = .non ∧ ∃ gs M3, Rm x (.ins c dx gs) M2 M3 ∧ Φ (.ob c gs) M3) (fun y M3 => Ψ y ρ M3)) Ψ) QQ] : Red1 mo (W K E (tMakeF c (lift K sp) [] (WE E) t) ρ M Φ Ψ) (QQ) := ⟨fun zz => W.makeF (h := (rr.prf zz))⟩
instance WI_seq_t60 {tl : TE} {Θ : Src → Mem → Prop} {QQ : Prop} [rr : Red mo (W K E tl ρ M (fun x M1 => ∃ xs, Seq M1 x xs ∧ Θ ⟨xs, fun M => Seq M x xs⟩ M1) Ψ) QQ] : Red1 mo (WI K E (iSeq K tl) ρ M Θ Ψ) (QQ) := ⟨fun zz => WI.seq (h := (rr.prf zz))⟩
instance WI_rn_t61 {ta : TA} {Θ : Src → Mem → Prop} {QQ : Prop} [rr : Red mo (WA K E ta ρ M (fun xs M1 => ∃ (j : Int) (n : Nat), xs = [.int j] ∧ j.toNat = n ∧ -1000 ≤ j ∧ n < 2 ^ 60 ∧ Θ (rn n) M1) Ψ) QQ] : Red1 mo (WI K E (iRng1 ta) ρ M Θ Ψ) (QQ) := ⟨fun zz => WI.rn (h := (rr.prf zz))⟩
instance WI_rn2_t62 {ta : TA} {Θ : Src → Mem → Prop} {QQ : Prop} [rr : Red mo (WA K E ta ρ M (fun xs M1 => ∃ (i j : Int), xs = [.int i, .int j] ∧ (-(2 ^ 62) ≤ i ∧ i < 2 ^ 62 ∧ -(2 ^ 62) ≤ j ∧ j < 2 ^ 62) ∧ Θ (ran i (j - i).toNat) M1) Ψ) QQ] : Red1 mo (WI K E (iRng2 ta) ρ M Θ Ψ) (QQ) := ⟨fun zz => WI.rn2 (h := (rr.prf zz))⟩
instance WI_rng3_t63 {ta : TA} {Θ : Src → Mem → Prop} {QQ : Prop} [rr : Red mo (WA K E ta ρ M (fun xs M1 => ∃ (i j c : Int), ∃ n : Nat, xs = [.int i, .int j, .int c] ∧ RgC i j c n ∧ Θ (ranc i c n) M1) Ψ) QQ] : Red1 mo (WI K E (iRng3 ta) ρ M Θ Ψ) (QQ) := ⟨fun zz => WI.rng3 (h := (rr.prf zz))⟩
instance WI_enumL_t64 {ta : TA} {Θ : Src → Mem → Prop} {QQ : Prop} [rr : Red mo (WA K E ta ρ M (fun ys M1 => ∃ x xs, ys = [x] ∧ Seq M1 x xs ∧ isL x = true ∧ Θ ⟨enumD xs, fun M => Seq M x xs⟩ M1) Ψ) QQ] : Red1 mo (WI K E (iEnum K ta) ρ M Θ Ψ) (QQ) := ⟨fun zz => WI.enumL (h := (rr.prf zz))⟩
instance WI_enumT_t65 {ta : TA} {Θ : Src → Mem → Prop} {QQ : Prop} [rr : Red mo (WA K E ta ρ M (fun ys M1 => TupIt ys fun s => Θ s M1) Ψ) QQ] : Red1 mo (WI K E (iEnumT K ta) ρ M Θ Ψ) (QQ) := ⟨fun zz => WI.enumT (h := (rr.prf zz))⟩
instance WI_zipM_t66 {ta : TA} {Θ : Src → Mem → Prop} {QQ : Prop} [rr : Red mo (WA K E ta ρ M (fun zs M1 => ∃ x y xs ys, zs = [x, y] ∧ Seq M1 x xs ∧ Seq M1 y ys ∧ Θ ⟨zipD xs ys, fun M => Seq M x xs ∧ Seq M y ys⟩ M1) Ψ) QQ] : Red1 mo (WI K E (ZM.iZip K ta) ρ M Θ Ψ) (QQ) := ⟨fun zz => WI.zipM (h := (rr.prf zz))⟩
instance WI_rev_t67 {ta : TE} {Θ : Src → Mem → Prop} {QQ : Prop} [rr : Red mo (W K E ta ρ M (fun x M1 => ∃ n : Nat, x = .int n ∧ n < 2 ^ 60 ∧ Θ (rev n) M1) Ψ) QQ] : Red1 mo (WI K E (iRev ta) ρ M Θ Ψ) (QQ) := ⟨fun zz => WI.rev (h := (rr.prf zz))⟩
instance W_dF_t68 {QQ : Prop} [rr : Red mo (Φ (.dic []) M) QQ] : Red1 mo (W K E (tDF tDNewK) ρ M Φ Ψ) (QQ) := ⟨fun zz => W.dF (h := (rr.prf zz))⟩
instance W_slB_t69 {te : TE} {ts : TO} {QQ : Prop} [rr : Red mo (W K E te ρ M (fun x M1 => WO K E ts ρ M1 (fun st M4 => st = some (-1) ∧ BackD x M4 Φ) Ψ) Ψ) QQ] : Red1 mo (W K E (tSlB K te ts) ρ M Φ Ψ) (QQ) := ⟨fun zz => W.slB (h := (rr.prf zz))⟩
instance W_dnewT_t70 {QQ : Prop} [rr : Red mo (AllA fun p => Φ (.ref p) ((p, .mpT (fun _ => none) 0) :: M)) QQ] : Red1 mo (W K E tDNewT ρ M Φ Ψ) (QQ) := ⟨fun zz => W.dnewT (h := (rr.prf zz))⟩
instance WJ_cons_t71 {t : TE} {ts : List TE} {acc : Str} {Θ : Str → Mem → Prop} {QQ : Prop} [rr : Red mo (W K E t ρ M (fun x M1 => ∃ y : Str, x = .str y ∧ (acc ++ y).length ≤ 100000 ∧ WJ K E ts (acc ++ y) ρ M1 Θ Ψ) Ψ) QQ] : Red1 mo (WJ K E (t :: ts) acc ρ M Θ Ψ) (QQ) := ⟨fun zz => WJ.cons (h := (rr.prf zz))⟩
instance WJ_nil_t72 {acc : Str} {Θ : Str → Mem → Prop} {QQ : Prop} [rr : Red mo (Θ acc M) QQ] : Red1 mo (WJ K E [] acc ρ M Θ Ψ) (QQ) := ⟨fun zz => WJ.nil (h := (rr.prf zz))⟩
instance W_fmt_t73 {te : TE} {QQ : Prop} [rr : Red mo (W K E te ρ M (fun x M1 => (∃ y : Str, x = .str y ∧ y.length ≤ 100000 ∧ Φ (.str y) M1) ∨ ∃ i : Int, x = .int i ∧ i.natAbs < 2 ^ 64 ∧ Φ (.str (toString i)) M1) Ψ) QQ] : Red1 mo (W K E (tFmt te) ρ M Φ Ψ) (QQ) := ⟨fun zz => W.fmt (h := (rr.prf zz))⟩
instance WI_zip3_t74 {ta : TA} {Θ : Src → Mem → Prop} {QQ : Prop} [rr : Red mo (WA K E ta ρ M (fun ws M1 => ∃ x y z xs ys zs, ws = [x, y, z] ∧ Seq M1 x xs ∧ Seq M1 y ys ∧ Seq M1 z zs ∧ Θ ⟨zip3D xs ys zs, fun M => Seq M x xs ∧ Seq M y ys ∧ Seq M z zs⟩ M1) Ψ) QQ] : Red1 mo (WI K E (Z3.iZip3 K ta) ρ M Θ Ψ) (QQ) := ⟨fun zz => WI.zip3 (h := (rr.prf zz))⟩
instance WI_zipS_t75 {ta : TA} {Θ : Src → Mem → Prop} {QQ : Prop} [rr : Red mo (WA K E ta ρ M (fun ws M1 => ∃ (x : Str) (y : D) (ys : List D), ws = [.str x, y] ∧ Seq M1 y ys ∧ Θ ⟨zipD (signsD x) ys, fun M => Seq M y ys⟩ M1) Ψ) QQ] : Red1 mo (WI K E (Z3.iZip2 K ta) ρ M Θ Ψ) (QQ) := ⟨fun zz => WI.zipS (h := (rr.prf zz))⟩
instance WG_slc_t76 {to : TE} {tl th : TO} {x : D} {Θ : Env3 → Mem → Prop} {QQ : Prop} [rr : Red mo (W K E to ρ M (fun o M1 => WO K E tl ρ M1 (fun lo M2 => WO K E th ρ M2 (fun hi M3 => SlcD K o lo hi x M3 (Θ ρ)) Ψ) Ψ) Ψ) QQ] : Red1 mo (WG K E (gSlc K to tl th) x ρ M Θ Ψ) (QQ) := ⟨fun zz => WG.slc (h := (rr.prf zz))⟩
instance WG_sub_t77 {to ti : TE} {x : D} {Θ : Env3 → Mem → Prop} {QQ : Prop} [rr : Red mo (W K E to ρ M (fun o M1 => W K E ti ρ M1 (fun i M2 => StD K o i x M2 (Θ ρ)) Ψ) Ψ) QQ] : Red1 mo (WG K E (gSub to ti rSetL) x ρ M Θ Ψ) (QQ) := ⟨fun zz => WG.sub (h := (rr.prf zz))⟩
instance S_dputT_t78 {td tv : TE} {ty : TA} {QQ : Prop} [rr : Red mo (W K E tv ρ M (fun z M1 => W K E td ρ M1 (fun x M2 => WA K E ty ρ M2 (fun ys M3 => ys.length ≤ sizeLine ∧ ∃ p f n ks g, x = .ref p ∧ Sp p (O.mpT f n) M3 g ∧ ys = ks.map keyD ∧ n < 100000 ∧ N ρ (g (.mpT (updT f ks z) (n + 1)))) Ψ) Ψ) Ψ) QQ] : Red1 mo (WS K E (sDPut td (tTup ty) tv) ρ M ⟨N, R, B, C⟩ Ψ) (QQ) := ⟨fun zz => S.dputT (h := (rr.prf zz))⟩
instance G_name_t79 {i : Nat} {x : D} {ρ' : Env3} {Θ : Env3 → Mem → Prop} {QQ : Prop} [e1 : EnvSet ρ i (some x) ρ'] [rr : Red mo (Θ ρ' M) QQ] : Red1 mo (WG K E (gName i) x ρ M Θ Ψ) (QQ) := ⟨fun zz => G.name (e := e1.prf) (h := (rr.prf zz))⟩
instance WG_seq_t80 {n : Nat} {t : TGs} {x : D} {xs : List D} {Θ : Env3 → Mem → Prop} {QQ : Prop} [sq : SeqI M x xs] [ln : LenE xs n] [rr : Red mo (WGs K E t xs ρ M Θ Ψ) QQ] : Red1 mo (WG K E (gSeq K n t) x ρ M Θ Ψ) (QQ) := ⟨fun zz => WG.seq (hs := sq.prf) (hl := ln.prf) (h := (rr.prf zz))⟩
instance WG_star_t81 {t : TGs} {x : D} {xs : List D} {Θ : Env3 → Mem → Prop} {QQ : Prop} [rr : Red mo (WGs K E t [x, .lst xs] ρ M Θ Ψ) QQ] : Red1 mo (WG K E (gStar K t) (.tup (x :: xs)) ρ M Θ Ψ) (Sd (xs.length ≤ 16000) (QQ)) := ⟨fun zz => WG.star (hl := zz.c) (h := (rr.prf zz.q))⟩
instance OpD_add_int_t82 {i j : Int} {QQ : Prop} [rr : Red mo (Φ (.int (i + j)) M) QQ] : Red1 mo (OpD K (oAdd K) (.int i) (.int j) M Φ) (QQ) := ⟨fun zz => OpD.add_int (h := (rr.prf zz))⟩
instance OpD_sub_t83 {i j : Int} {QQ : Prop} [rr : Red mo (Φ (.int (i - j)) M) QQ] : Red1 mo (OpD K oSub (.int i) (.int j) M Φ) (QQ) := ⟨fun zz => OpD.sub (h := (rr.prf zz))⟩
instance OpD_lt_t84 {i j : Int} {QQ : Prop} [rr : Red mo (Φ (.bl (decide (i < j))) M) QQ] : Red1 mo (OpD K oLt (.int i) (.int j) M Φ) (QQ) := ⟨fun zz => OpD.lt (h := (rr.prf zz))⟩
instance OpD_le_t85 {i j : Int} {QQ : Prop} [rr : Red mo (Φ (.bl (decide (i ≤ j))) M) QQ] : Red1 mo (OpD K oLe (.int i) (.int j) M Φ) (QQ) := ⟨fun zz => OpD.le (h := (rr.prf zz))⟩
instance OpD_gt_t86 {i j : Int} {QQ : Prop} [rr : Red mo (Φ (.bl (decide (j < i))) M) QQ] : Red1 mo (OpD K oGt (.int i) (.int j) M Φ) (QQ) := ⟨fun zz => OpD.gt (h := (rr.prf zz))⟩
instance OpD_ge_t87 {i j : Int} {QQ : Prop} [rr : Red mo (Φ (.bl (decide (j ≤ i))) M) QQ] : Red1 mo (OpD K oGe (.int i) (.int j) M Φ) (QQ) := ⟨fun zz => OpD.ge (h := (rr.prf zz))⟩
instance OpD_eq_int_t88 {i j : Int} {QQ : Prop} [rr : Red mo (Φ (.bl (decide (i = j))) M) QQ] : Red1 mo (OpD K (oEq K) (.int i) (.int j) M Φ) (QQ) := ⟨fun zz => OpD.eq_int (h := (rr.prf zz))⟩
instance OpD_ne_int_t89 {i j : Int} {QQ : Prop} [rr : Red mo (Φ (.bl (!decide (i = j))) M) QQ] : Red1 mo (OpD K (oNe K) (.int i) (.int j) M Φ) (QQ) := ⟨fun zz => OpD.ne_int (h := (rr.prf zz))⟩
instance OpD_iadd_t90 {i j : Int} {QQ : Prop} [rr : Red mo (Φ (.int (i + j)) M) QQ] : Red1 mo (OpD K oIAdd (.int i) (.int j) M Φ) (QQ) := ⟨fun zz => OpD.iadd (h := (rr.prf zz))⟩
instance OpD_isub_t91 {i j : Int} {QQ : Prop} [rr : Red mo (Φ (.int (i - j)) M) QQ] : Red1 mo (OpD K oISub (.int i) (.int j) M Φ) (QQ) := ⟨fun zz => OpD.isub (h := (rr.prf zz))⟩
instance OpD_xor_t92 {i j : Int} {QQ : Prop} [rr : Red mo (Φ (.int (Builtin.bitXor i j)) M) QQ] : Red1 mo (OpD K oXor (.int i) (.int j) M Φ) (QQ) := ⟨fun zz => OpD.xor (h := (rr.prf zz))⟩
instance OpD_and_t93 {i j : Int} {QQ : Prop} [rr : Red mo (Φ (.int (Builtin.bitAnd i j)) M) QQ] : Red1 mo (OpD K oAnd (.int i) (.int j) M Φ) (QQ) := ⟨fun zz => OpD.and (h := (rr.prf zz))⟩
instance OpD_or_t94 {i j : Int} {QQ : Prop} [rr : Red mo (Φ (.int (Builtin.bitOr i j)) M) QQ] : Red1 mo (OpD K oOr (.int i) (.int j) M Φ) (QQ) := ⟨fun zz => OpD.or (h := (rr.prf zz))⟩
instance OpD_isB_t95 {K : PySem.W.Frag} {M : Mem} {Φ : D → Mem → Prop} {a b : Bool} {QQ : Prop} [rr : Red mo (Φ (.bl (a == b)) M) QQ] : Red1 mo (OpD K rIsB (.bl a) (.bl b) M Φ) (QQ) := ⟨fun zz => OpD.isB (h := (rr.prf zz))⟩
instance OpD_isnotB_t96 {K : PySem.W.Frag} {M : Mem} {Φ : D → Mem → Prop} {a b : Bool} {QQ : Prop} [rr : Red mo (Φ (.bl (!(a == b))) M) QQ] : Red1 mo (OpD K rNotB (.bl a) (.bl b) M Φ) (QQ) := ⟨fun zz => OpD.isnotB (h := (rr.prf zz))⟩
instance OpD_eqT_t97 {xs : List D} {QQ : Prop} [rr : Red mo (Φ (.bl (decide (xs = []))) M) QQ] : Red1 mo (OpD K (oEqT K) (.tup xs) (.tup []) M Φ) (QQ) := ⟨fun zz => OpD.eqT (h := (rr.prf zz))⟩
instance OpD_neT_t98 {xs : List D} {QQ : Prop} [rr : Red mo (Φ (.bl (!decide (xs = []))) M) QQ] : Red1 mo (OpD K (oNeT K) (.tup xs) (.tup []) M Φ) (QQ) := ⟨fun zz => OpD.neT (h := (rr.prf zz))⟩
instance UnD_neg_t99 {i : Int} {QQ : Prop} [rr : Red mo (Φ (.int (-i)) M) QQ] : Red1 mo (UnD K uNeg (.int i) M Φ) (QQ) := ⟨fun zz => UnD.neg (h := (rr.prf zz))⟩
instance CbD_abs_t100 {i : Int} {QQ : Prop} [rr : Red mo (Φ (.int (if i < 0 then -i else i)) M) QQ] : Red1 mo (CbD K cAbs [.int i] M Φ) (QQ) := ⟨fun zz => CbD.abs (h := (rr.prf zz))⟩
instance CbD_int_t101 {i : Int} {QQ : Prop} [rr : Red mo (Φ (.int i) M) QQ] : Red1 mo (CbD K cInt [.int i] M Φ) (QQ) := ⟨fun zz => CbD.int (h := (rr.prf zz))⟩
instance CbD_intB_t102 {b : Bool} {QQ : Prop} [rr : Red mo (Φ (.int (if b then 1 else 0)) M) QQ] : Red1 mo (CbD K cInt [.bl b] M Φ) (QQ) := ⟨fun zz => CbD.intB (h := (rr.prf zz))⟩
instance CbD_maxp_t103 {i j : Int} {QQ : Prop} [rr : Red mo (Φ (.int (max i j)) M) QQ] : Red1 mo (CbD K (cMax K) [.int i, .int j] M Φ) (QQ) := ⟨fun zz => CbD.max' (h := (rr.prf zz))⟩
instance CbD_minp_t104 {i j : Int} {QQ : Prop} [rr : Red mo (Φ (.int (min i j)) M) QQ] : Red1 mo (CbD K (cMin K) [.int i, .int j] M Φ) (QQ) := ⟨fun zz => CbD.min' (h := (rr.prf zz))⟩
instance CbD_min2L_t105 {i j : Int} {QQ : Prop} [rr : Red mo (Φ (.int (min i j)) M) QQ] : Red1 mo (CbD K (cMin K) [.lst [.int i, .int j]] M Φ) (QQ) := ⟨fun zz => CbD.min2L (h := (rr.prf zz))⟩
instance CbD_max2L_t106 {i j : Int} {QQ : Prop} [rr : Red mo (Φ (.int (max i j)) M) QQ] : Red1 mo (CbD K (cMax K) [.lst [.int i, .int j]] M Φ) (QQ) := ⟨fun zz => CbD.max2L (h := (rr.prf zz))⟩
instance OpD_is_t107 {x : D} {QQ : Prop} [rr : Red mo (Φ (.bl x.isN) M) QQ] : Red1 mo (OpD K oIs x .non M Φ) (QQ) := ⟨fun zz => OpD.is (h := (rr.prf zz))⟩
instance OpD_isnot_t108 {x : D} {QQ : Prop} [rr : Red mo (Φ (.bl (!x.isN)) M) QQ] : Red1 mo (OpD K oIsNot x .non M Φ) (QQ) := ⟨fun zz => OpD.isnot (h := (rr.prf zz))⟩
instance CbD_sum_t109 {ns : List Int} {QQ : Prop} [rr : Red mo (Φ (.int ns.sum) M) QQ] : Red1 mo (CbD K (cSum K) [.lst (ns.map D.int)] M Φ) (QQ) := ⟨fun zz => CbD.sum (h := (rr.prf zz))⟩
instance CbD_sumM_t110 {α : Type} {as : List α} {p : α → Int} {QQ : Prop} [rr : Red mo (Φ (.int (as.map p).sum) M) QQ] : Red1 mo (CbD K (cSum K) [.lst (as.map fun a => D.int (p a))] M Φ) (QQ) := ⟨fun zz => CbD.sumM (h := (rr.prf zz))⟩
instance CbD_allM_t111 {α : Type} {as : List α} {p : α → Bool} {QQ : Prop} [rr : Red mo (Φ (.bl (as.all p)) M) QQ] : Red1 mo (CbD K (cAll K) [.lst (as.map fun a => D.bl (p a))] M Φ) (QQ) := ⟨fun zz => CbD.allM (h := (rr.prf zz))⟩
instance CbD_anyM_t112 {α : Type} {as : List α} {p : α → Bool} {QQ : Prop} [rr : Red mo (Φ (.bl (as.any p)) M) QQ] : Red1 mo (CbD K (cAny K) [.lst (as.map fun a => D.bl (p a))] M Φ) (QQ) := ⟨fun zz => CbD.anyM (h := (rr.prf zz))⟩
instance CbD_tuple_t113 {x : D} {xs : List D} {QQ : Prop} [sq : SeqI M x (xs)] [rr : Red mo (Φ (.tup xs) M) QQ] : Red1 mo (CbD K (cTuple K) [x] M Φ) (QQ) := ⟨fun zz => CbD.tuple (q := sq.prf) (h := (rr.prf zz))⟩
instance CbD_list_t114 {x : D} {xs : List D} {QQ : Prop} [sq : SeqI M x (xs)] [rr : Red mo (Φ (.lst xs) M) QQ] : Red1 mo (CbD K (cList K) [x] M Φ) (QQ) := ⟨fun zz => CbD.list (q := sq.prf) (h := (rr.prf zz))⟩
instance CbD_listO_t115 {x : D} {xs : List D} {QQ : Prop} [sq : SeqI M x (xs)] [rr : Red mo (AllA fun p => Φ (.ref p) ((p, .lst xs) :: M)) QQ] : Red1 mo (CbD K (cListO K) [x] M Φ) (QQ) := ⟨fun zz => CbD.listO (q := sq.prf) (h := (rr.prf zz))⟩
instance (priority := 900) CbD_len_t116 {x : D} {xs : List D} {QQ : Prop} [sq : SeqI M x (xs)] [rr : Red mo (Φ (.int xs.length) M) QQ] : Red1 mo (CbD K (cLen K) [x] M Φ) (QQ) := ⟨fun zz => CbD.len (q := sq.prf) (h := (rr.prf zz))⟩
instance (priority := 1000) CbD_lenM_t117 {α : Type} {f : α → D} {as : List α} {x : D} {QQ : Prop} [sq : SeqI M x (as.map f)] [rr : Red mo (Φ (.int as.length) M) QQ] : Red1 mo (CbD K (cLen K) [x] M Φ) (QQ) := ⟨fun zz => CbD.lenM (q := sq.prf) (h := (rr.prf zz))⟩
instance (priority := 1100) CbD_lenR_t118 {f : Nat → D} {n : Nat} {x : D} {QQ : Prop} [sq : SeqI M x ((List.range n).map f)] [rr : Red mo (Φ (.int n) M) QQ] : Red1 mo (CbD K (cLen K) [x] M Φ) (QQ) := ⟨fun zz => CbD.lenR (q := sq.prf) (h := (rr.prf zz))⟩
instance (priority := 1200) CbD_lenR2_t119 {α : Type} {f : α → D} {b : Nat → α} {n : Nat} {x : D} {QQ : Prop} [sq : SeqI M x (((List.range n).map b).map f)] [rr : Red mo (Φ (.int n) M) QQ] : Red1 mo (CbD K (cLen K) [x] M Φ) (QQ) := ⟨fun zz => CbD.lenR2 (q := sq.prf) (h := (rr.prf zz))⟩
instance OpD_eqE_t120 {K : PySem.W.Frag} {M : Mem} {Φ : D → Mem → Prop} {x : D} {xs : List D} {QQ : Prop} [sq : SeqI M x xs] [il : IsLI x] [rr : Red mo (Φ (.bl (decide (xs = []))) M) QQ] : Red1 mo (OpD K (oEqE K) x (.lst []) M Φ) (QQ) := ⟨fun zz => OpD.eqE (q := sq.prf) (hl := il.prf) (h := (rr.prf zz))⟩
instance OpD_neE_t121 {x : D} {xs : List D} {QQ : Prop} [sq : SeqI M x xs] [il : IsLI x] [rr : Red mo (Φ (.bl (!decide (xs = []))) M) QQ] : Red1 mo (OpD K (oNeE K) x (.lst []) M Φ) (QQ) := ⟨fun zz => OpD.neE (q := sq.prf) (hl := il.prf) (h := (rr.prf zz))⟩
instance bl_intro_t122 {b : Bool} {Θ : Bool → Prop} {QQ : Prop} [rr : Red mo (Θ b) QQ] : Red1 mo (∃ c, D.bl b = .bl c ∧ Θ c) (QQ) := ⟨fun zz => bl_intro (h := (rr.prf zz))⟩
instance par2_t123 {P : D → D → Prop} {a b : D} {QQ : Prop} [rr : Red mo (P a b) QQ] : Red1 mo (∃ x y, [a, b] = [x, y] ∧ P x y) (QQ) := ⟨fun zz => par2 (h := (rr.prf zz))⟩
instance par3_t124 {P : D → D → D → Prop} {a b c : D} {QQ : Prop} [rr : Red mo (P a b c) QQ] : Red1 mo (∃ x y z, [a, b, c] = [x, y, z] ∧ P x y z) (QQ) := ⟨fun zz => par3 (h := (rr.prf zz))⟩
instance so_i_t125 {P : Int → Prop} {i : Int} {QQ : Prop} [rr : Red mo (P i) QQ] : Red1 mo (∃ j, D.int i = D.int j ∧ P j) (QQ) := ⟨fun zz => so_i (h := (rr.prf zz))⟩
instance seq_i_t126 {x : D} {xs : List D} {P : List D → Prop} {QQ : Prop} [sq : SeqI M x (xs)] [rr : Red mo (P xs) QQ] : Red1 mo (∃ xs, Seq M x xs ∧ P xs) (QQ) := ⟨fun zz => seq_i (q := sq.prf) (h := (rr.prf zz))⟩
instance rn_i_t127 {n : Nat} {j : Int} {P : Nat → Prop} {QQ : Prop} [tn : ToN j n] [rr : Red mo (P n) QQ] : Red1 mo (∃ (i : Int) (n : Nat), [D.int j] = [D.int i] ∧ i.toNat = n ∧ -1000 ≤ i ∧ n < 2 ^ 60 ∧ P n) (Sd (-1000 ≤ j) (Sd (n < 2 ^ 60) (QQ))) := ⟨fun zz => rn_i (e := tn.prf) (h0 := zz.c) (h1 := zz.q.c) (h := (rr.prf zz.q.q))⟩
instance rn2_i_t128 {i j : Int} {P : Int → Int → Prop} {QQ : Prop} [rr : Red mo (P i j) QQ] : Red1 mo (∃ (i' j' : Int), [D.int i, D.int j] = [D.int i', D.int j'] ∧ (-(2 ^ 62) ≤ i' ∧ i' < 2 ^ 62 ∧ -(2 ^ 62) ≤ j' ∧ j' < 2 ^ 62) ∧ P i' j') (Sd (-(2 ^ 62) ≤ i ∧ i < 2 ^ 62 ∧ -(2 ^ 62) ≤ j ∧ j < 2 ^ 62) (QQ)) := ⟨fun zz => rn2_i (h0 := zz.c) (h := (rr.prf zz.q))⟩
instance enum_i_t129 {x : D} {xs : List D} {P : List D → Prop} {QQ : Prop} [sq : SeqI M x xs] [il : IsLI x] [rr : Red mo (P xs) QQ] : Red1 mo (∃ y xs, [x] = [y] ∧ Seq M y xs ∧ isL y = true ∧ P xs) (QQ) := ⟨fun zz => enum_i (q := sq.prf) (hl := il.prf) (h := (rr.prf zz))⟩
instance zipM_i_t130 {M : Mem} {x y : D} {xs ys : List D} {P : D → D → List D → List D → Prop} {QQ : Prop} [sq : SeqI M x xs] [sy : SeqI M y ys] [rr : Red mo (P x y xs ys) QQ] : Red1 mo (∃ x' y' xs ys, [x, y] = [x', y'] ∧ Seq M x' xs ∧ Seq M y' ys ∧ P x' y' xs ys) (QQ) := ⟨fun zz => zipM_i (hx := sq.prf) (hy := sy.prf) (h := (rr.prf zz))⟩
instance zip3_i_t131 {M : Mem} {x y z : D} {xs ys zs : List D} {P : D → D → D → List D → List D → List D → Prop} {QQ : Prop} [sq : SeqI M x xs] [sy : SeqI M y ys] [sz : SeqI M z zs] [rr : Red mo (P x y z xs ys zs) QQ] : Red1 mo (∃ x' y' z' xs ys zs, [x, y, z] = [x', y', z'] ∧ Seq M x' xs ∧ Seq M y' ys ∧ Seq M z' zs ∧ P x' y' z' xs ys zs) (QQ) := ⟨fun zz => zip3_i (hx := sq.prf) (hy := sy.prf) (hz := sz.prf) (h := (rr.prf zz))⟩
instance zipS_i_t132 {M : Mem} {x : Str} {y : D} {ys : List D} {P : Str → D → List D → Prop} {QQ : Prop} [sy : SeqI M y ys] [rr : Red mo (P x y ys) QQ] : Red1 mo (∃ (x' : Str) (y' : D) (ys : List D), [.str x, y] = [.str x', y'] ∧ Seq M y' ys ∧ P x' y' ys) (QQ) := ⟨fun zz => zipS_i (hy := sy.prf) (h := (rr.prf zz))⟩
instance CbD_strI_t133 {K : PySem.W.Frag} {M : Mem} {Φ : D → Mem → Prop} {i : Int} {QQ : Prop} [rr : Red mo (Φ (.str (toString i)) M) QQ] : Red1 mo (CbD K cStr [.int i] M Φ) (Sd (i.natAbs < 2 ^ 64) (QQ)) := ⟨fun zz => CbD.strI (hl := zz.c) (h := (rr.prf zz.q))⟩
instance fmt_s_t134 {y : Str} {P : Str → Prop} {Q : Int → Prop} {QQ : Prop} [rr : Red mo (P y) QQ] : Red1 mo ((∃ y' : Str, D.str y = .str y' ∧ y'.length ≤ 100000 ∧ P y') ∨ ∃ i : Int, D.str y = .int i ∧ i.natAbs < 2 ^ 64 ∧ Q i) (Sd (y.length ≤ 100000) (QQ)) := ⟨fun zz => fmt_s (hl := zz.c) (h := (rr.prf zz.q))⟩
instance fmt_i_t135 {i : Int} {P : Str → Prop} {Q : Int → Prop} {QQ : Prop} [rr : Red mo (Q i) QQ] : Red1 mo ((∃ y' : Str, D.int i = .str y' ∧ y'.length ≤ 100000 ∧ P y') ∨ ∃ i' : Int, D.int i = .int i' ∧ i'.natAbs < 2 ^ 64 ∧ Q i') (Sd (i.natAbs < 2 ^ 64) (QQ)) := ⟨fun zz => fmt_i (hl := zz.c) (h := (rr.prf zz.q))⟩
instance wj_i_t136 {acc y : Str} {P : Str → Prop} {QQ : Prop} [rr : Red mo (P y) QQ] : Red1 mo (∃ y' : Str, D.str y = .str y' ∧ (acc ++ y').length ≤ 100000 ∧ P y') (Sd ((acc ++ y).length ≤ 100000) (QQ)) := ⟨fun zz => wj_i (hl := zz.c) (h := (rr.prf zz.q))⟩
instance made_i_t137 {x : Addr} {dx : Addr} {gs : List (Str × D)} {M M' : Mem} {P : List (Str × D) → Mem → Prop} {QQ : Prop} [rm : RmI x (.ins c dx gs) M M'] [rr : Red mo (P gs M') QQ] : Red1 mo ((D.non : D) = .non ∧ ∃ gs M3, Rm x (.ins c dx gs) M M3 ∧ P gs M3) (QQ) := ⟨fun zz => made_i (hm := rm.prf) (h := (rr.prf zz))⟩
instance made_m_t138 {P : Prop} {QQ : Prop} [rr : Red mo (P) QQ] : Red1 mo ((D.non : D) = .non ∧ P) (QQ) := ⟨fun zz => made_m (h := (rr.prf zz))⟩
instance fld_i_t139 {x : D} {f : Str} {y : D} {gs : List (Str × D)} {P : D → Prop} {QQ : Prop} [ii : InsI M x c gs] [lk : LookI gs f y] [rr : Red mo (P y) QQ] : Red1 mo (∃ gs y, InsM M x c gs ∧ gs.lookup f = some y ∧ P y) (QQ) := ⟨fun zz => fld_i (hi := ii.prf) (hl := lk.prf) (h := (rr.prf zz))⟩
instance meth_i_t140 {x : D} {m : Str} {gs : List (Str × D)} {P : Prop} {QQ : Prop} [ii : InsI M x c gs] [lk : LookN gs m] [rr : Red mo (P) QQ] : Red1 mo (∃ gs, InsM M x c gs ∧ gs.lookup m = none ∧ P) (QQ) := ⟨fun zz => meth_i (hi := ii.prf) (hl := lk.prf) (h := (rr.prf zz))⟩
instance FldD_mk_t141 {c p dx : Addr} {gs gs' : List (Str × D)} {g : O → Mem} {f : Str} {y : D} {P : Mem → Prop} {QQ : Prop} [sp : SpI p (.ins c dx gs) M g] [sh : Short gs.length] [pt : PutI f y gs gs'] [rr : Red mo (P (g (.ins c dx gs'))) QQ] : Red1 mo (FldD c f y (.ref p) M P) (QQ) := ⟨fun zz => FldD.mk (hm := sp.prf) (hl := Nat.lt_of_lt_of_le (Nat.lt_succ_of_le sh.prf) (by decide)) (e := pt.prf) (h := (rr.prf zz))⟩
instance FgtD_mk_t142 {c p dx : Addr} {gs : List (Str × D)} {f : Str} {y : D} {P : D → Prop} {QQ : Prop} [ce : CellAt M p (.ins c dx gs)] [lk : LookI gs f y] [rr : Red mo (P y) QQ] : Red1 mo (FgtD c f (.ref p) M P) (QQ) := ⟨fun zz => FgtD.mk (hm := ce.prf) (hl := lk.prf) (h := (rr.prf zz))⟩
instance (priority := 1100) W_mv_t143 {i : Nat} {p : Addr} {xs : List D} {M' : Mem} {QQ : Prop} [e1 : EnvAt ρ i (.ref p)] [e2 : RmI p (.lst xs) M M'] [rr : Red mo (Φ (.lst xs) M') QQ] : Red1 mo (W K E (tMv (tVar i)) ρ M Φ Ψ) (QQ) := ⟨fun zz => W.mv (h := e1.prf) (hm := e2.prf) (q := (rr.prf zz))⟩
instance (priority := 900) W_mvN_t144 {i : Nat} {x : D} {QQ : Prop} [e1 : EnvAt ρ i x] [rr : Red mo (Φ x M) QQ] : Red1 mo (W K E (tMv (tVar i)) ρ M Φ Ψ) (QQ) := ⟨fun zz => W.mvN (h := e1.prf) (q := (rr.prf zz))⟩
instance MtD_clear_t145 {p : Addr} {xs : List D} {f : O → Mem} {QQ : Prop} [sp : SpI p (.lst xs) M f] [rr : Red mo (Φ .non (f (.lst []))) QQ] : Red1 mo (MtD K mClear (.ref p) [] M Φ) (QQ) := ⟨fun zz => MtD.clear (hm := sp.prf) (h := (rr.prf zz))⟩
instance (priority := 1100) LcK_int_t146 {α : Type} {as : List α} {g : α → Int} {QQ : Prop} [rr : Red mo (Φ (lI (as.map g)) M) QQ] : Red1 mo (LcK Φ M (as.map fun a => D.int (g a))) (QQ) := ⟨fun zz => LcK.int (h := (rr.prf zz))⟩
instance (priority := 1100) LcK_tI_t147 {α : Type} {as : List α} {g : α → List Int} {QQ : Prop} [rr : Red mo (Φ (lT (as.map g)) M) QQ] : Red1 mo (LcK Φ M (as.map fun a => tI (g a))) (QQ) := ⟨fun zz => LcK.tI (h := (rr.prf zz))⟩
instance (priority := 1100) LcK_lI_t148 {α : Type} {as : List α} {g : α → List Int} {QQ : Prop} [rr : Red mo (Φ (lL (as.map g)) M) QQ] : Red1 mo (LcK Φ M (as.map fun a => L3.lI (g a))) (QQ) := ⟨fun zz => LcK.lI (h := (rr.prf zz))⟩
instance (priority := 1100) LcK_fmD_t149 {α : Type} {as : List α} {bs : α → List Int} {QQ : Prop} [rr : Red mo (Φ (lI (as.flatMap bs)) M) QQ] : Red1 mo (LcK Φ M (as.flatMap fun a => (bs a).map D.int)) (QQ) := ⟨fun zz => LcK.fmD (h := (rr.prf zz))⟩
instance (priority := 1100) LcK_fmI_t150 {α β : Type} {as : List α} {bs : α → List β} {g : α → β → Int} {QQ : Prop} [rr : Red mo (Φ (lI (as.flatMap fun a => (bs a).map (g a))) M) QQ] : Red1 mo (LcK Φ M (as.flatMap fun a => (bs a).map fun b => D.int (g a b))) (QQ) := ⟨fun zz => LcK.fmI (h := (rr.prf zz))⟩
instance (priority := 900) LcK_any_t151 {xs : List D} {QQ : Prop} [rr : Red mo (Φ (.lst xs) M) QQ] : Red1 mo (LcK Φ M xs) (QQ) := ⟨fun zz => LcK.any (h := (rr.prf zz))⟩
instance (priority := 1100) LcKO_int_t152 {α : Type} {as : List α} {g : α → Int} {QQ : Prop} [rr : Red mo (AllA fun p => Φ (.ref p) ((p, .lst ((as.map g).map D.int)) :: M)) QQ] : Red1 mo (LcKO Φ M (as.map fun a => D.int (g a))) (QQ) := ⟨fun zz => LcKO.int (h := (rr.prf zz))⟩
instance (priority := 1100) LcKO_tI_t153 {α : Type} {as : List α} {g : α → List Int} {QQ : Prop} [rr : Red mo (AllA fun p => Φ (.ref p) ((p, .lst ((as.map g).map L3.tI)) :: M)) QQ] : Red1 mo (LcKO Φ M (as.map fun a => L3.tI (g a))) (QQ) := ⟨fun zz => LcKO.tI (h := (rr.prf zz))⟩
instance (priority := 900) LcKO_any_t154 {xs : List D} {QQ : Prop} [rr : Red mo (AllA fun p => Φ (.ref p) ((p, .lst xs) :: M)) QQ] : Red1 mo (LcKO Φ M xs) (QQ) := ⟨fun zz => LcKO.any (h := (rr.prf zz))⟩
instance (priority := 1100) OpD_ixBm_t155 {α : Type} {x : D} {f : α → D} {as : List α} {a : α} {QQ : Prop} [sq : SeqI M x (((as ++ [a]).map f))] [rr : Red mo (Φ (f a) M) QQ] : Red1 mo (OpD K (oIx K) x (.int (-1)) M Φ) (QQ) := ⟨fun zz => OpD.ixBm (q := sq.prf) (h := (rr.prf zz))⟩
instance OpD_ixB1_t156 {x a : D} {QQ : Prop} [sq : SeqI M x ([a])] [rr : Red mo (Φ a M) QQ] : Red1 mo (OpD K (oIx K) x (.int (-1)) M Φ) (QQ) := ⟨fun zz => OpD.ixB1 (q := sq.prf) (h := (rr.prf zz))⟩
instance OpD_ixB3_t157 {x a b c : D} {QQ : Prop} [sq : SeqI M x ([a, b, c])] [rr : Red mo (Φ c M) QQ] : Red1 mo (OpD K (oIx K) x (.int (-1)) M Φ) (QQ) := ⟨fun zz => OpD.ixB3 (q := sq.prf) (h := (rr.prf zz))⟩
instance OpD_ixB2_t158 {x a b : D} {QQ : Prop} [sq : SeqI M x ([a, b])] [rr : Red mo (Φ b M) QQ] : Red1 mo (OpD K (oIx K) x (.int (-1)) M Φ) (QQ) := ⟨fun zz => OpD.ixB2 (q := sq.prf) (h := (rr.prf zz))⟩
instance OpD_ixB4_t159 {x a b c d : D} {QQ : Prop} [sq : SeqI M x ([a, b, c, d])] [rr : Red mo (Φ d M) QQ] : Red1 mo (OpD K (oIx K) x (.int (-1)) M Φ) (QQ) := ⟨fun zz => OpD.ixB4 (q := sq.prf) (h := (rr.prf zz))⟩
instance (priority := 900) OpD_ixS_t160 {x : D} {xs : List D} {i : Int} {QQ : Prop} [sq : SeqI M x (xs)] [rr : Red mo (IxS M Φ xs i) QQ] : Red1 mo (OpD K (oIx K) x (.int i) M Φ) (QQ) := ⟨fun zz => OpD.ixS (q := sq.prf) (h := (rr.prf zz))⟩
end
end L3

/-! repr of data: only in the law's own frame (there the guards are known) -/
namespace L3
open PySem PySem.Spec PyProof.Rows L2
theorem guards_deeper {A : Around} {env : Env} (h : A.guards = some []) : (A.deeper env).guards = some [] := by first | exact h | (show Around.guards _ = _; simp [Around.deeper, h]) | simp [Around.deeper, h]
/-- the law's def, called from outside -/
structure LawOk (P : Program) (w : World) (K : PySem.W.Frag) (mg : Str → Option Value) (base : Heap) (CX : CXT) (f : Addr) (fd : FuncData) (ps : List Str) (sp : L2.Sp) : Prop where
  run : ∀ (s : Shared) (H : Hp) (args : Args) (us : List Value) (vs : List V) (Q : VK) (E : XK), Env0 P w K mg base callerA [] s H → BindsTo s fd args (ps.zip us) → Vals vs us → sp vs H Q E →
    codeAny (model P w) callerA (.call (.ref f) args) (CR CX [] P w H s Q E) s
theorem law_okA {P : Program} {w : World} {mg : Str → Option Value} {base : Heap} {K : PySem.W.Frag} {x qual : Str} {st : Stmt} {f : Addr} {fd : FuncData} {N ps : List Str} {k : Nat} {sp : SpD} (Fn : Fun K x qual st f fd) (S : FnScope N ps (defScope st)) (hl : SpLen sp ps.length)
    (hr : Room (k + 1) callerA)
    (hb : ∀ (cdv : Value) (A : Around) (outer : List Env) (s : Shared) (H : Hp) (E : XK), A.guards = some [] → Room k (A.deeper (envOfC qual (defScope st) s.heap.objs.size f cdv)) →
      ∃ t, PSs (cxOf (L2.CX P w) P w K mg base N qual (defScope st) f cdv A outer s H E) (defBody st) t ∧ ∀ xs M Φ Ψ, sp xs M Φ Ψ → WS K (fun cls d _ H => E cls d H) t (xs.map some ++ List.replicate (N.length - xs.length) none) M ⟨fun _ M' => Φ .non M', Φ, fun _ _ => False, fun _ _ => False⟩ (fun x _ M' => Ψ x M')) :
    LawOk P w K mg base (L2.CX P w) f fd ps (lift K sp) := by
  obtain ⟨oc, od, kV, doc, pm, an, cdv, ct, osl, rfl, lk, hcd⟩ := Fn.ex
  refine ⟨fun s H args us vs Q E st0 bnd rv want => ?_⟩
  have hlen : vs.length = ps.length := by
    obtain ⟨xs, F, M, Mf, Φ, Ψ, r, _, h, _⟩ := want
    exact r.len.trans (hl _ _ _ _ h)
  have kin : K.In s.heap := st0.mod.kin.keeps fun b o e => (st0.bs b o e).1
  have nolim : s.heap.NoLimit := st0.mod.nolimit.keeps fun b o e => (st0.bs b o e).1
  have kinds : ∀ y ∈ ps.zip us, (defScope st).names.lookup y.1 = some .local ∨ ((defScope st).names.lookup y.1 = some .cell ∧ ((cellsFrom (s.heap.objs.size + 1) (defScope st).names []).lookup y.1).isSome = true) := by
    rintro ⟨n, v⟩ hy
    exact (S.par n (List.of_mem_zip hy).1).elim .inl fun q => .inr ⟨q, PySem.W.cellsFrom_some _ _ _ (.inl q)⟩
  refine codeAny_call_function hr.depth (kin _ _ lk) rfl S.co S.gen rfl (PySem.W.codeRec_of kin hcd) (bnd _ _ _ _ ?_)
  refine wpAny_newFunctionEnv_cells S.kind kinds ?_
  intro env he s1 x
  subst he
  refine ⟨nolim.keeps x.toInCall.keep, codeAny_func ?_⟩
  obtain ⟨t, ht, hw⟩ := hb cdv callerA [] s H E rfl (hr.deeper _)
  have I := inv_start (CX := L2.CX P w) (N := N) (f := f) (qual := qual) (E := E) S hr.hd st0 hlen rv x
  have hq : t { nx := fun _ H' => Q .non H', rt := Q } (L2.start N vs) H := by
    obtain ⟨xs, F, M, Mf, Φ, Ψ, r, c, h, kn, ke⟩ := want
    exact hw xs M Φ Ψ h (L2.start N vs) F H Mf _ (start_env r) c (fun x ρ M' F' H' σ cls d p _ s' c' er => ke x M' F' H' cls d p s' c' er)
      ⟨fun σ ρ F' H' M' p _ s' c' => kn _ _ F' H' M' p .non s' c', fun v x F' H' M' p r' s' c' => kn v x F' H' M' p r' s' c', fun _ _ _ _ _ p => p.elim, fun _ _ _ _ _ p => p.elim⟩
  refine wpAny_mono (ht.run [] s1 _ H _ I hq) ?_ fun e s' hs => hs
  rintro (_ | u | _ | _) s' hs
  · obtain ⟨σ', H', J, q⟩ := hs
    exact ⟨V.non, H', J.os, J.bare, J.base, J.hok, rfl, q⟩
  · first
    | (obtain ⟨v, σ', H', J, rw_, q⟩ := hs; exact ⟨v, H', J.os, J.bare, J.base, J.hok, rw_, q⟩)
    | (obtain ⟨_, _, _, q⟩ := hs; exact False.elim q)
  · first
    | (obtain ⟨v, σ', H', J, rw_, q⟩ := hs; exact ⟨v, H', J.os, J.bare, J.base, J.hok, rw_, q⟩)
    | (obtain ⟨_, _, _, q⟩ := hs; exact False.elim q)
  · first
    | (obtain ⟨v, σ', H', J, rw_, q⟩ := hs; exact ⟨v, H', J.os, J.bare, J.base, J.hok, rw_, q⟩)
    | (obtain ⟨_, _, _, q⟩ := hs; exact False.elim q)
/-- the end, from the run at the call from outside -/
theorem law_callG {P : Program} {w : World} {K : PySem.W.Frag} {mg mb : Str → Option Value} {CX : CXT} {fa a : Addr} {fd : FuncData} {x : Str} {sp : L2.Sp} {s₁ : Shared} {vs : List Value} {ns : List Int}
    (inK : K.In s₁.heap) (nsG : s₁.heap.Ns mainGlobals mg) (nsB : s₁.heap.Ns builtinsNs mb) (boot : ∀ x : Str, x ≠ "__name__" → mb x = bootBuiltins x) (nolim : s₁.heap.NoLimit) (gens0 : s₁.gens = #[])
    (obj : s₁.heap.get? a = some { cls := .type "list", data := .seq vs.toArray }) (are : IntsAre vs ns) (short : ns.length ≤ sizeLine)
    (mods : ∃ mm, s₁.heap.Ns sysModules mm) (G : ∀ base : Heap, K.In base → base.Ns mainGlobals mg → (∃ mm, base.Ns sysModules mm) → LawOk P w K mg base CX fa fd [x] sp) (bnd : ∀ (s : Shared) (u : Value), BindsTo s fd ⟨[u], []⟩ [(x, u)])
    (want : ∀ H : Hp, Only H → SqL K H a (ns.map V.int) → sp [.ref a] H (fun v _ => v = .bl true) fun _ _ _ => False)
    (noX : ∀ H e s', CX [] H s₁ (fun _ _ _ => False) e s' → False) :
    codeAny (model P w) callerA (.call (.ref fa) ⟨[.ref a], []⟩) (fun r s' => r = .ok (.ret (.bool true)) ∧ OldK s₁.heap s'.heap ∧ s'.os = s₁.os ∧ AllBare s'.gens) s₁ := by
  have main : ∀ H : Hp, Only H → SqL K H a (ns.map V.int) → HOk P w H s₁.heap → (∀ b, H b ≠ none → b = a) → (H a ≠ none → K.lookup a = none) →
      codeAny (model P w) callerA (.call (.ref fa) ⟨[.ref a], []⟩) (fun r s' => r = .ok (.ret (.bool true)) ∧ OldK s₁.heap s'.heap ∧ s'.os = s₁.os ∧ AllBare s'.gens) s₁ := by
    intro H only sq hok justA justK
    have dicts : ∀ {b : Addr} {o : Obj} {es : Array DictEntry} {ep : Nat}, s₁.heap.get? b = some o → o.data = .dict es ep → H b = none := by
      intro b o es ep e d
      refine Classical.byContradiction fun n => ?_
      obtain rfl := justA b n
      rw [obj] at e
      cases e
      have d' : Data.seq vs.toArray _ = Data.dict es ep := d
      cases d'
    have nsK : ∀ {b : Addr} {m : Str → Option Value}, s₁.heap.Ns b m → (hidT s₁.heap H).Ns b m := by
      rintro b m ⟨o, es, ep, e, d, r⟩
      exact ⟨o, es, ep, hidT_get e (dicts e d), d, r⟩
    have inB : K.In (hidT s₁.heap H) := by
      intro b o e
      refine hidT_get (inK b o e) (Classical.byContradiction fun n => ?_)
      obtain rfl := justA b n
      rw [justK n] at e
      cases e
    have md : L2.Mod K mg (hidT s₁.heap H) := ⟨inB, nsK nsG, ⟨mb, nsK nsB, boot⟩, let ⟨mc, h1, h2⟩ := nolim; ⟨mc, nsK h1, h2⟩⟩
    have st0 : Env0 P w K mg (hidT s₁.heap H) callerA [] s₁ H := by
      refine ⟨rfl, md, fun b o e => of_hidT e, Nat.le_of_eq (hidT_size _ _), trivial, ?_, hok, .of_eq gens0⟩
      intro b hb
      cases hb
    refine codeAny_mono ((G _ inB (nsK nsG) (let ⟨mm, h⟩ := mods; ⟨mm, nsK h⟩)).run s₁ H ⟨[.ref a], []⟩ [.ref a] [.ref a] _ _ st0 (bnd s₁ (.ref a)) (.cons rfl .nil) (want H only sq)) ?_
    intro r s' h
    cases r with
    | error e => exact (noX H e s' h).elim
    | ok fl =>
      cases fl with
      | next => exact False.elim h
      | brk => exact False.elim h
      | cont => exact False.elim h
      | ret u =>
        obtain ⟨v, H', os, bare, un, hok', r', q⟩ := h
        have q' : v = .bl true := q
        subst q'
        obtain rfl : u = Value.bool true := r'
        refine ⟨rfl, OldK.of_keep fun b o e => ?_, os, bare⟩
        cases q : H b with
        | none => exact un.keep b o e q (by intro z; cases z) (by simp)
        | some u =>
          rcases only b with z | ⟨ob, xs, z⟩
          · rw [q] at z; cases z
          · obtain ⟨e1, _⟩ := hok b _ z
            obtain ⟨e2, _⟩ := hok' b _ (un.frzs b ob _ z)
            rw [e] at e1
            cases e1
            exact e2
  have vals := vals_ints are
  have same := are.length
  cases hk : K.lookup a with
  | some o =>
    have e := inK a o hk
    rw [obj] at e
    cases e
    exact main (fun _ => none) (fun _ => .inl rfl) (.inr ⟨_, vs.toArray, _, hk, rfl, rfl, rfl, by rw [List.size_toArray, same]; exact short, by simpa using vals⟩) (fun b u z => nomatch (show (none : Option HO) = some u from z)) (fun b z => absurd rfl z) fun z => absurd rfl z
  | none =>
    have here : ∀ b : Addr, (if b = a then some (HO.frz { cls := .type "list", data := .seq vs.toArray } (.lst (ns.map V.int))) else none) ≠ none → b = a := fun b n => Classical.byContradiction fun z => n (if_neg z)
    refine main (fun b => if b = a then some (.frz { cls := .type "list", data := .seq vs.toArray } (.lst (ns.map V.int))) else none) (fun b => ?_) (.inl (.inr ⟨{ cls := .type "list", data := .seq vs.toArray }, if_pos rfl⟩)) (fun b u z => ?_) here fun _ => hk
    · by_cases hb : b = a
      · exact .inr ⟨_, _, if_pos hb⟩
      · exact .inl (if_neg hb)
    · obtain rfl := here b (fun n => by have z2 := n.symm.trans z; cases z2)
      have z' := (if_pos rfl).symm.trans z
      cases z'
      exact ⟨obj, by rw [List.length_map]; exact short, vs, _, vals, obj⟩
theorem walk_ofG {l : PySem.W.OpenLaw} {n : Nat} {q : Program} {loose : List Str} {XP : (Str → Option Value) → Heap → Prop} {YP : World → Heap → Prop} {d : DefRec} {K : Params → PySem.W.Frag} {CX : World → CXT} {sp : World → L2.Sp} {x : Str}
    (hn : l.most = some n) (hn2 : n ≤ sizeLine) (hdf : d.params.defaults = []) (hi : importsNone q = true)
    (hY : ∀ (w : World) (h : Heap), YP w h → (K w.params).In h)
    (F : ∀ (w : World) (mg : Str → Option Value) (fa : Addr) (h : Heap), (K w.params).In h → h.Ns mainGlobals mg → mg d.name = some (.ref fa) →
      ∃ fd : FuncData, (∀ (s : Shared) (u : Value), BindsTo s fd ⟨[u], []⟩ [(x, u)]) ∧ ∀ base : Heap, (K w.params).In base → base.Ns mainGlobals mg → (∃ mm, base.Ns sysModules mm) → LawOk l.prog w (K w.params) mg base (CX w) fa fd [x] (sp w))
    (want : ∀ (w : World) (H : Hp) (a : Addr) (ns : List Int), ns.length ≤ n → (∀ z ∈ ns, Builtin.Int.intBits z ≤ 1048576) → Only H → SqL (K w.params) H a (ns.map V.int) → sp w [.ref a] H (fun v _ => v = .bl true) fun _ _ _ => False)
    (noX : ∀ (w : World) (H : Hp) (s : Shared) (e : Value) (s' : Shared), CX w [] H s (fun _ _ _ => False) e s' → False) :
    PySem.W.WalkO q loose XP YP l.row.toRowW d [] (fun f vs => PySem.call f vs) :=
  Att.attach_callB hn hdf fun w s₀ s₁ mg mb fa o pm cd doc a vs ns G Y ho hd hcd hmg hobj hints hlen hbits hg => by
    obtain ⟨fd, hb, hF⟩ := F w mg fa _ (hY w _ Y) G.T.g hmg
    exact law_callG (hY w _ Y) G.T.g G.T.b G.T.builtins G.T.nolimit hg hobj hints (Nat.le_trans hlen hn2) ⟨_, (G.T.seer hi).mods.choose_spec.1⟩ hF hb (fun H hO hS => want w H a ns hlen hbits hO hS) fun H e s' => noX w H s₁ e s'

/-! ### what is shown -/
mutual
inductive DpR (H : Hp) (K : PySem.W.Frag) : V → PyData → Prop
  | non : DpR H K .non .none
  | bl (b : Bool) : DpR H K (.bl b) (.bool b)
  | int (i : Int) : DpR H K (.int i) (.int i)
  | str (x : Str) : DpR H K (.str x) (.str x)
  | lst {a : Addr} {xs : List V} {ds : List PyData} : SqL K H a xs → DpRs H K xs ds → DpR H K (.ref a) (.list ds)
  | tup {a : Addr} {xs : List V} {ds : List PyData} : SqT K H a xs → DpRs H K xs ds → DpR H K (.ref a) (.tuple ds)
  | dic {a : Addr} : H a = some (.dK []) → DpR H K (.ref a) (.dict [])
inductive DpRs (H : Hp) (K : PySem.W.Frag) : List V → List PyData → Prop
  | nil : DpRs H K [] []
  | cons {v : V} {vs : List V} {d : PyData} {ds : List PyData} : DpR H K v d → DpRs H K vs ds → DpRs H K (v :: vs) (d :: ds)
end
section
variable {X : Cx} {pins : List (Addr × Obj)} {σ : L2.St} {H : Hp} {s : Shared}
theorem DpR.notMods {mm : Str → Option Value} {a : Addr} {o : Obj} {vs : Array Value} {n : Nat} (I : Inv X pins σ H s) (hm : X.base.Ns sysModules mm) (e : s.heap.get? a = some o) (d : o.data = .seq vs n) : sysModules ≠ a := by
  rintro rfl
  obtain ⟨o', es, ep, e', d', _⟩ := hm
  have e2 := (I.bs _ _ e').1
  rw [e] at e2
  cases e2
  rw [d] at d'
  cases d'
mutual
theorem DpR.reads {mm : Str → Option Value} (I : Inv X pins σ H s) (hm : X.base.Ns sysModules mm) : ∀ (d : PyData) (v : V) (u : Value), DpR H X.K v d → RelV v u → ∃ as, Reads s.heap u d as ∧ sysModules ∉ as
  | .none, _, _, h, r => by
    cases h
    cases r
    exact ⟨_, .none, by simp⟩
  | .bool b, _, _, h, r => by
    cases h
    cases r
    exact ⟨_, .bool b, by simp⟩
  | .int i, _, _, h, r => by
    cases h
    obtain ⟨t, rfl⟩ := r
    exact ⟨_, .int i t, by simp⟩
  | .str x, _, _, h, r => by
    cases h
    obtain ⟨t, rfl⟩ := r
    exact ⟨_, .str x t, by simp⟩
  | .list ds, _, _, h, r => by
    cases h with
    | lst hs ha =>
      cases r
      obtain ⟨its, rv, ⟨o, n, ho, hc, _, hd⟩, _⟩ := I.list hs
      obtain ⟨as, hr, hn⟩ := DpR.readsAll I hm ds _ its ha rv
      exact ⟨_, Reads.list ho hc hd hr, by
        rw [List.mem_cons, not_or]
        exact ⟨DpR.notMods I hm ho hd, hn⟩⟩
  | .tuple ds, _, _, h, r => by
    cases h with
    | tup hs ha =>
      cases r
      obtain ⟨its, rv, ⟨o, ho, hc, n, hd⟩, _⟩ := I.tuple hs
      obtain ⟨as, hr, hn⟩ := DpR.readsAll I hm ds _ its ha rv
      exact ⟨_, Reads.tuple ho hc hd hr, hn⟩
  | .dict kvs, _, _, h, r => by
    cases h with
    | dic e =>
      cases r
      obtain ⟨_, ne, vs, kv, o, es, ep, ho, hx, hd, _, hp, _⟩ := I.hok _ _ e
      cases kv
      cases hes : es.toList with
      | cons a l => rw [hes] at hp; cases hp
      | nil =>
        refine ⟨_, Reads.dict (kvs := []) ho hx.1 hd (as := []) (bs := []) (by rw [hes]; exact .nil) (by rw [hes]; exact .nil), ?_⟩
        have ne' := beq_eq_false_iff_ne.mp ne
        simpa using Ne.symm ne'
theorem DpR.readsAll {mm : Str → Option Value} (I : Inv X pins σ H s) (hm : X.base.Ns sysModules mm) : ∀ (ds : List PyData) (vs : List V) (us : List Value), DpRs H X.K vs ds → Vals vs us → ∃ as, ReadsAll s.heap us ds as ∧ sysModules ∉ as
  | [], _, _, h, r => by
    cases h
    cases r
    exact ⟨_, .nil, by simp⟩
  | d :: ds, _, _, h, r => by
    cases h with
    | cons h1 h2 =>
      cases r with
      | cons r1 r2 =>
        obtain ⟨as, q1, n1⟩ := DpR.reads I hm d _ _ h1 r1
        obtain ⟨bs, q2, n2⟩ := DpR.readsAll I hm ds _ _ h2 r2
        exact ⟨_, .cons q1 q2, by rw [List.mem_append, not_or]; exact ⟨n1, n2⟩⟩
end
end
def cRepr (K : PySem.W.Frag) : List V → Hp → VK → Prop := fun xs H Q => (∃ b : Bool, xs = [.bl b] ∧ Q (.str (if b then "True" else "False")) H) ∨
  ∃ a d, xs = [.ref a] ∧ DpR H K (.ref a) d ∧ d.showable = true ∧ d.depth ≤ 60 ∧ d.shown.length ≤ sizeLine ∧ Q (.str d.shown) H
theorem q_repr {X : Cx} (K : PySem.W.Frag) (hg : X.A.guards = some []) (hm : ∃ mm, X.base.Ns sysModules mm) (hu : X.A.units + 64 < cLine) (e : X.K = K := by rfl) : CallR X (.builtin "repr") (cRepr K) := by
  subst e
  obtain ⟨mm, hm⟩ := hm
  intro pins s σ H vs us Q I r h
  rcases h with ⟨b, rfl, q⟩ | ⟨a, d, rfl, hd, h1, h2, h3, q⟩
  · obtain ⟨u, rfl, t⟩ := vals1 r
    obtain rfl : u = Value.bool b := t
    exact PySem.P.repr_of_bool ⟨.str _, H, I.tok _, ⟨_, rfl⟩, q⟩
  · rw [Vals.ref1 r]
    obtain ⟨as, hr, hn⟩ := DpR.reads I hm d _ _ hd rfl
    exact repr_of_reads' hr h1 (fun _ => hn) hg (by omega) (fun b o e => e) (fun h' u tk hk => ⟨.str _, H, I.kept (t' := tk) hk, ⟨_, rfl⟩, q⟩) h3

/-! by data -/
mutual
def D.ry : D → PyData
  | .non => .none
  | .bl b => .bool b
  | .int i => .int i
  | .str x => .str x
  | .lst xs => .list (D.rys xs)
  | .tup xs => .tuple (D.rys xs)
  | .dic _ => .dict []
  | _ => .none
def D.rys : List D → List PyData
  | [] => []
  | x :: xs => D.ry x :: D.rys xs
end
mutual
/-- how many signs it takes at most -/
def szD : D → Nat
  | .non => 4
  | .bl _ => 5
  | .int i => (toString i : Str).length
  | .str x => (reprText x).length
  | .lst xs => szDs xs + 3
  | .tup xs => szDs xs + 3
  | .dic _ => 4
  | _ => 0
def szDs : List D → Nat
  | [] => 0
  | x :: xs => szD x + 2 + szDs xs
end
mutual
/-- how deep -/
def dpD : D → Nat
  | .lst xs => dpDs xs + 1
  | .tup xs => dpDs xs + 1
  | .dic _ => 1
  | _ => 0
def dpDs : List D → Nat
  | [] => 0
  | x :: xs => max (dpD x) (dpDs xs)
end
mutual
/-- it can be shown -/
def okD : D → Prop
  | .non => True
  | .bl _ => True
  | .str _ => True
  | .int i => i.natAbs.log2 < 1920
  | .lst xs => okDs xs
  | .tup xs => okDs xs
  | .dic kvs => kvs = []
  | _ => False
def okDs : List D → Prop
  | [] => True
  | x :: xs => okD x ∧ okDs xs
end
theorem rys_len : ∀ xs : List D, (D.rys xs).length = xs.length
  | [] => by simp only [D.rys, List.length_nil]
  | _ :: xs => by simp only [D.rys, List.length_cons, rys_len xs]
mutual
theorem ry_shows : ∀ x : D, okD x → (D.ry x).showable = true ∧ (D.ry x).depth ≤ dpD x ∧ (D.ry x).shown.length ≤ szD x
  | .non, _ => by simp only [D.ry, PyData.showable, PyData.depth, PyData.shown, dpD, szD]; decide
  | .bl b, _ => by simp only [D.ry, PyData.showable, PyData.depth, PyData.shown, dpD, szD]; cases b <;> decide
  | .int i, h => by
    simp only [okD] at h
    simp only [D.ry, PyData.showable, PyData.depth, PyData.shown, dpD, szD]
    exact ⟨by simpa using h, Nat.le_refl _, Nat.le_refl _⟩
  | .str x, _ => by
    simp only [D.ry, PyData.showable, PyData.depth, PyData.shown, dpD, szD]
    exact ⟨trivial, Nat.le_refl _, Nat.le_refl _⟩
  | .lst xs, h => by
    simp only [okD] at h
    obtain ⟨h1, h2, h3⟩ := rys_shows xs h
    simp only [D.ry, PyData.showable, PyData.depth, PyData.shown, dpD, szD]
    have := listText_len_le (PyData.shownAll (D.rys xs))
    have e := PyData.shownAll_length (D.rys xs)
    exact ⟨h1, by omega, by omega⟩
  | .tup xs, h => by
    simp only [okD] at h
    obtain ⟨h1, h2, h3⟩ := rys_shows xs h
    simp only [D.ry, PyData.showable, PyData.depth, PyData.shown, dpD, szD]
    have := tupleText_len_le (PyData.shownAll (D.rys xs))
    have e := PyData.shownAll_length (D.rys xs)
    exact ⟨h1, by omega, by omega⟩
  | .dic kvs, h => by
    simp only [D.ry, PyData.showable, PyData.showableKv, PyData.depth, PyData.depthKv, PyData.shown, PyData.shownKv, dpD, szD]
    decide
  | .ty _, h => by simp only [okD] at h
  | .ref _, h => by simp only [okD] at h
  | .ob _ _, h => by simp only [okD] at h
  | .scr _, h => by simp only [okD] at h
theorem rys_shows : ∀ xs : List D, okDs xs → PyData.showableAll (D.rys xs) = true ∧ PyData.depthAll (D.rys xs) ≤ dpDs xs ∧ ((PyData.shownAll (D.rys xs)).map (·.length)).sum + 2 * (D.rys xs).length ≤ szDs xs
  | [], _ => by simp only [D.rys, PyData.showableAll, PyData.depthAll, PyData.shownAll, dpDs, szDs]; decide
  | x :: xs, h => by
    simp only [okDs] at h
    obtain ⟨h1, h2, h3⟩ := ry_shows x h.1
    obtain ⟨h4, h5, h6⟩ := rys_shows xs h.2
    simp only [D.rys, PyData.showableAll, PyData.depthAll, PyData.shownAll, dpDs, szDs, List.map_cons, List.sum_cons, List.length_cons]
    exact ⟨by rw [h1, h4]; rfl, by omega, by omega⟩
end
section
variable {K : PySem.W.Frag} {H : Hp}
mutual
theorem DpR.of : ∀ (x : D) (v : V), okD x → RD K H v x → DpR H K v (D.ry x)
  | .non, _, _, r => by cases r; simp only [D.ry]; exact .non
  | .bl b, _, _, r => by cases r; simp only [D.ry]; exact .bl b
  | .int i, _, _, r => by cases r; simp only [D.ry]; exact .int i
  | .str x, _, _, r => by cases r; simp only [D.ry]; exact .str x
  | .lst xs, _, h, r => by
    cases r with
    | lst e rs => simp only [okD] at h; simp only [D.ry]; exact .lst (.inl (.inl e)) (DpRs.of xs _ h rs)
  | .tup xs, _, h, r => by
    cases r with
    | tup e rs => simp only [okD] at h; simp only [D.ry]; exact .tup e (DpRs.of xs _ h rs)
  | .dic kvs, _, h, r => by
    simp only [okD] at h
    subst h
    cases r with
    | dic e rs => cases rs; simp only [D.ry]; exact .dic e
  | .ty _, _, h, _ => by simp only [okD] at h
  | .ref _, _, h, _ => by simp only [okD] at h
  | .ob _ _, _, h, _ => by simp only [okD] at h
  | .scr _, _, h, _ => by simp only [okD] at h
theorem DpRs.of : ∀ (xs : List D) (vs : List V), okDs xs → RDs K H vs xs → DpRs H K vs (D.rys xs)
  | [], _, _, r => by cases r; simp only [D.rys]; exact .nil
  | x :: xs, _, h, r => by
    simp only [okDs] at h
    cases r with
    | cons r rs => simp only [D.rys]; exact .cons (DpR.of x _ h.1 r) (DpRs.of xs _ h.2 rs)
end
end
/-- what it shows as -/
def shD (x : D) : Str := (D.ry x).shown
structure Shw (n k : Nat) (x : D) : Prop where
  ok : okD x
  sz : szD x ≤ n
  dp : dpD x ≤ k
section
variable {K : PySem.W.Frag} {M : Mem} {Φ : D → Mem → Prop}
theorem CbD.reprB {b : Bool} (h : Φ (.str (if b then "True" else "False")) M) : CbD K (cRepr K) [.bl b] M Φ := fun F H Mf vs Q r s k => by
  cases r with
  | cons r rr =>
    cases rr
    cases r
    exact .inl ⟨b, rfl, k _ _ F H M h (.str _) (Same.refl _) s⟩
theorem rd_ref {F : Hp} {v : V} {x : D} (r : RD K F v x) (h : (∃ xs, x = .tup xs) ∨ ∃ xs, x = .lst xs) : ∃ a, v = .ref a := by
  rcases h with ⟨xs, rfl⟩ | ⟨xs, rfl⟩
  · cases r with
    | tup e rs => exact ⟨_, rfl⟩
  · cases r with
    | lst e rs => exact ⟨_, rfl⟩
theorem CbD.reprD {x : D} {n k : Nat} (hs : Shw n k x) (hn : n ≤ 100000) (hk : k ≤ 60) (ht : (∃ xs, x = .tup xs) ∨ ∃ xs, x = .lst xs) (h : Φ (.str (shD x)) M) : CbD K (cRepr K) [x] M Φ := fun F H Mf vs Q r s kk => by
  cases r with
  | cons r rr =>
    cases rr
    obtain ⟨a, rfl⟩ := rd_ref r ht
    obtain ⟨h1, h2, h3⟩ := ry_shows x hs.ok
    have := hs.sz
    have := hs.dp
    exact .inr ⟨a, D.ry x, rfl, DpR.of x _ hs.ok (r.mono s.sub), h1, by omega, line_of (by omega), kk _ _ F H M h (.str _) (Same.refl _) s⟩
end
/-! texts, compared as they are -/
theorem q_neSc {X : Cx} : OpR X (compareOp .NotEq) L2.rNe := L2.op_ne
theorem q_eqSc {X : Cx} : OpR X (compareOp .Eq) L2.rEq := L2.op_eq
section
variable {K : PySem.W.Frag} {M : Mem} {Φ : D → Mem → Prop}
theorem OpD.neSc {x y : Str} (h : Φ (.bl (!decide (x = y))) M) : OpD K (rOr (oNe K) L2.rNe) (.str x) (.str y) M Φ := fun F H Mf v u Q r1 r2 s k => by
  cases r1
  cases r2
  refine .inr ⟨rfl, ?_⟩
  have e : (decide (V.str x = V.str y)) = decide (x = y) := by simp
  rw [e]
  exact k _ _ F H M h (.bl _) (Same.refl _) s
theorem OpD.eqSc {x y : Str} (h : Φ (.bl (decide (x = y))) M) : OpD K (rOr (oEq K) L2.rEq) (.str x) (.str y) M Φ := fun F H Mf v u Q r1 r2 s k => by
  cases r1
  cases r2
  refine .inr ⟨rfl, ?_⟩
  have e : (decide (V.str x = V.str y)) = decide (x = y) := by simp
  rw [e]
  exact k _ _ F H M h (.bl _) (Same.refl _) s
end
/-! t + u, t[a:b] of any tuples -/
def oAddA (K : PySem.W.Frag) : R2 := rOr (oAdd K) (L2.rCatA K)
theorem q_addA (K : PySem.W.Frag) {X : Cx} (e : X.K = K := by rfl) : OpR X (binaryOp .Add) (oAddA K) := by subst e; exact opOr (q_add _) L2.op_catA
section
variable {K : PySem.W.Frag} {M : Mem} {Φ : D → Mem → Prop}
theorem OpD.addAI {i j : Int} (h : Φ (.int (i + j)) M) : OpD K (oAddA K) (.int i) (.int j) M Φ := OpD.orL (OpD.add_int h)
theorem OpD.addA {xs ys : List D} (hl : xs.length + ys.length ≤ 100000) (h : Φ (.tup (xs ++ ys)) M) : OpD K (oAddA K) (.tup xs) (.tup ys) M Φ := fun F H Mf v u Q r1 r2 s k => by
  cases r1 with
  | tup e1 q1 => cases r2 with
    | tup e2 q2 =>
      refine .inr ⟨_, _, _, _, rfl, rfl, sqt_mono s.sub e1, sqt_mono s.sub e2, by rw [q1.len, q2.len]; exact line_of hl, fun z => ?_, fun z1 z => ?_, fun z1 z p hp => k _ _ _ _ M h (.tup (.inl (.inl upd_same)) ((q1.app q2).mono (s.sameF hp))) (s.sameF hp) (s.newF hp)⟩
      · subst z
        cases q1
        exact k _ _ F H M h (.tup e2 q2) (Same.refl _) s
      · subst z
        cases q2
        rw [List.append_nil] at h
        exact k _ _ F H M h (.tup e1 q1) (Same.refl _) s
theorem cutD_all {xs : List D} {lo hi : Option Int} (hw : HT.sIx xs.length 0 lo = 0 ∧ HT.sIx xs.length xs.length hi = xs.length) : cutD xs lo hi = xs := by
  unfold cutD
  rw [hw.1, hw.2]
  simp
theorem SlD.tupA {xs : List D} {lo hi : Option Int} (h : Φ (.tup (cutD xs lo hi)) M) : SlD K (sSeqA K) (.tup xs) lo hi M Φ := by
  by_cases hw : HT.sIx xs.length 0 lo = 0 ∧ HT.sIx xs.length xs.length hi = xs.length
  · rw [cutD_all hw] at h
    exact SlD.tupW rfl hw h
  · exact SlD.addP (SlD.tup hw h)
theorem SlD.lstA {x : D} {xs : List D} {lo hi : Option Int} (q : Seq M x xs) (hb : isL x = true) (h : Φ (.lst (cutD xs lo hi)) M) : SlD K (sSeqA K) x lo hi M Φ := SlD.addP (SlD.lst q hb h)
end
theorem cutD_from {xs : List D} {n : Nat} (h : n ≤ xs.length) : cutD xs (some (n : Int)) none = xs.drop n := by
  unfold cutD
  rw [HT.sIx_none, HT.sIx_nat, Nat.min_eq_left h, List.take_of_length_le (by rw [List.length_drop]; omega)]
theorem szDs_app : ∀ xs ys : List D, szDs (xs ++ ys) = szDs xs + szDs ys
  | [], ys => by simp [szDs]
  | x :: xs, ys => by
    have := szDs_app xs ys
    simp only [List.cons_append, szDs]
    omega
theorem dpDs_app : ∀ xs ys : List D, dpDs (xs ++ ys) = max (dpDs xs) (dpDs ys)
  | [], ys => by simp [dpDs]
  | x :: xs, ys => by
    have := dpDs_app xs ys
    simp only [List.cons_append, dpDs]
    omega
theorem okDs_app {xs ys : List D} (h : okDs xs) (g : okDs ys) : okDs (xs ++ ys) := by
  induction xs with
  | nil => exact g
  | cons x xs ih =>
    simp only [okDs, List.cons_append] at h ⊢
    exact ⟨h.1, ih h.2⟩
theorem okDs_split : ∀ {xs ys : List D}, okDs (xs ++ ys) → okDs xs ∧ okDs ys
  | [], ys, h => ⟨by simp only [okDs], h⟩
  | x :: xs, ys, h => by
    simp only [okDs, List.cons_append] at h ⊢
    have := okDs_split h.2
    exact ⟨⟨h.1, this.1⟩, this.2⟩
structure FineL (n d : Nat) (xs : List D) : Prop where
  ok : okDs xs
  sz : szDs xs ≤ n
  dp : dpDs xs ≤ d
theorem FineL.app {n m d e : Nat} {xs ys : List D} (h : FineL n d xs) (g : FineL m e ys) : FineL (n + m) (max d e) (xs ++ ys) :=
  ⟨okDs_app h.ok g.ok, by rw [szDs_app]; have := h.sz; have := g.sz; omega, by rw [dpDs_app]; have := h.dp; have := g.dp; omega⟩
theorem FineL.le {n m d e : Nat} {xs : List D} (h : FineL n d xs) (h1 : n ≤ m) (h2 : d ≤ e) : FineL m e xs := ⟨h.ok, Nat.le_trans h.sz h1, Nat.le_trans h.dp h2⟩
theorem FineL.split {n d : Nat} {xs ys : List D} (h : FineL n d (xs ++ ys)) : FineL n d xs ∧ FineL n d ys := by
  have h1 := okDs_split h.ok
  have h2 := h.sz
  have h3 := h.dp
  rw [szDs_app] at h2
  rw [dpDs_app] at h3
  exact ⟨⟨h1.1, by omega, by omega⟩, ⟨h1.2, by omega, by omega⟩⟩
theorem FineL.take {n d : Nat} {xs : List D} (h : FineL n d xs) (k : Nat) : FineL n d (xs.take k) := by
  rw [← List.take_append_drop k xs] at h
  exact h.split.1
theorem FineL.drop {n d : Nat} {xs : List D} (h : FineL n d xs) (k : Nat) : FineL n d (xs.drop k) := by
  rw [← List.take_append_drop k xs] at h
  exact h.split.2
theorem FineL.cut {n d : Nat} {xs : List D} (h : FineL n d xs) (lo hi : Option Int) : FineL n d (cutD xs lo hi) := (h.drop _).take _
theorem FineL.rev {n d : Nat} : ∀ {xs : List D}, FineL n d xs → FineL n d xs.reverse := by
  intro xs
  induction xs generalizing n d with
  | nil => exact fun h => h
  | cons x xs ih =>
    intro h
    rw [List.reverse_cons]
    have h1 := h.ok
    have h2 := h.sz
    have h3 := h.dp
    simp only [okDs, szDs, dpDs] at h1 h2 h3
    have a := ih (n := szDs xs) (d := dpDs xs) ⟨h1.2, Nat.le_refl _, Nat.le_refl _⟩
    refine (a.app (m := szD x + 2) (e := dpD x) (ys := [x]) ⟨by simp only [okDs]; exact ⟨h1.1, trivial⟩, by simp only [szDs]; omega, by simp only [dpDs]; omega⟩).le (by omega) (by omega)
theorem FineL.one {n d : Nat} {x : D} (h1 : okD x) (h2 : szD x + 2 ≤ n) (h3 : dpD x ≤ d) : FineL n d [x] := ⟨by simp only [okDs]; exact ⟨h1, trivial⟩, by simp only [szDs]; omega, by simp only [dpDs]; omega⟩
theorem FineL.tup {n d : Nat} {xs : List D} (h : FineL n d xs) : Shw (n + 3) (d + 1) (.tup xs) := ⟨by simp only [okD]; exact h.ok, by simp only [szD]; have := h.sz; omega, by simp only [dpD]; have := h.dp; omega⟩
theorem FineL.lst {n d : Nat} {xs : List D} (h : FineL n d xs) : Shw (n + 3) (d + 1) (.lst xs) := ⟨by simp only [okD]; exact h.ok, by simp only [szD]; have := h.sz; omega, by simp only [dpD]; have := h.dp; omega⟩
/-- what stands at a place, and the rest -/
theorem szDs_at {xs : List D} {i : Nat} {x : D} (h : xs[i]? = some x) : szDs xs = szDs (xs.take i) + (szD x + 2) + szDs (xs.drop (i + 1)) := by
  have hi : i < xs.length := (List.getElem?_eq_some_iff.mp h).1
  have e : xs = xs.take i ++ (x :: xs.drop (i + 1)) := by
    have h2 : xs[i] = x := (List.getElem?_eq_some_iff.mp h).2
    rw [← h2, ← List.drop_eq_getElem_cons hi, List.take_append_drop]
  conv => lhs; rw [e, szDs_app]
  simp only [szDs]
  omega
/-! [e for k in range(n)], n drawn there -/
structure LcN (K : PySem.W.Frag) (g : TG) (te : TE) (vs : List Nat) (ρ : Env3) {β : Type} (s : Src) (M : Mem) (Φ : D → Mem → Prop) (h : β → D) (P : β → Prop) : Prop where
  need : s.need M
  len : s.its.length < 100000
  body : ∀ (i : Nat) (x : D), s.its[i]? = some x → WG K E0 g x (wipeD ρ vs) M (fun ρ2 M2 => W K E0 te ρ2 M2 (LcE h P M) P0) P0
  k : ∀ bs : List β, bs.length = s.its.length → (∀ b ∈ bs, P b) → Φ (.lst (bs.map h)) M
section
variable {K : PySem.W.Frag} {E : WX} {Ψ : PX} {ρ : Env3} {M : Mem} {Φ : D → Mem → Prop}
theorem W.lcQ {β : Type} (h : β → D) (P : β → Prop) {wi : TI} {g : TG} {te : TE} {vs : List Nat} (hg : GOnly g vs) (q : WI K E wi ρ M (fun s M1 => LcN K g te vs ρ s M1 Φ h P) Ψ) : W K E (tLc wi g tYes te vs) ρ M Φ Ψ := by
  refine W.lcD h P hg fun σ F H Mf R a s k q' => q σ F H Mf R a s k fun s' F' H' M' J hh => q' s' F' H' M' J ?_
  exact ⟨hh.len, hh.need, hh.body, hh.k⟩
end
theorem fnok_none {P : Program} {w : World} {K : PySem.W.Frag} {mg : Str → Option Value} {base : Heap} {CX : CXT} {k : Nat} {f : Addr} {fd : FuncData} {ps : List Str} {sp : SpD} (h : ∀ xs M Φ Ψ, ¬ sp xs M Φ Ψ) : FnOk P w K mg base CX k f fd ps (lift K sp) := by
  refine ⟨fun vs H Q E hh => ?_, fun A outer s H args us vs Q E hr he hb hv hh => ?_⟩
  · obtain ⟨xs, F, M, Mf, Φ, Ψ, _, _, h', _⟩ := hh
    exact (h _ _ _ _ h').elim
  · obtain ⟨xs, F, M, Mf, Φ, Ψ, _, _, h', _⟩ := hh
    exact (h _ _ _ _ h').elim
theorem BackD.tupD {M : Mem} {Φ : D → Mem → Prop} {xs : List D} (h : Φ (.tup xs.reverse) M) : BackD (.tup xs) M Φ := by
  have := BackD.tup (M := M) (Φ := Φ) (f := fun a : D => a) (as := xs) (by simpa using h)
  simpa using this
theorem cutD_last {xs : List D} (h : 0 < xs.length) : cutD xs none (some (-1)) = xs.take (xs.length - 1) := by
  unfold cutD
  have e : HT.sIx xs.length xs.length (some (-1)) = xs.length - 1 := by
    show (if (-1 : Int) < 0 then ((-1 : Int) + (xs.length : Int)).toNat else min (-1 : Int).toNat xs.length) = _
    rw [if_pos (by decide : (-1 : Int) < 0)]
    omega
  rw [e, HT.sIx_none, List.drop_zero, Nat.sub_zero]
theorem cutD_two {xs : List D} (h : 0 < xs.length) : (cutD xs none (some 2)).length + (cutD xs (some 1) none).length ≥ xs.length := by
  have e1 : cutD xs (some 1) none = xs.drop 1 := cutD_from (n := 1) h
  rw [e1]
  unfold cutD
  have e : HT.sIx xs.length xs.length (some 2) = min 2 xs.length := HT.sIx_nat _ _ 2
  rw [e, HT.sIx_none, List.drop_zero, Nat.sub_zero, List.length_take, List.length_drop]
  omega
end L3


namespace Lw
open PySem PySem.Spec L2 L3
def top (i : Nat) : Stmt := PySem.Challenge.pw_sameshown_k14_what_are_choices.main.body.getD i (.Pass ⟨0, 0, 0, 0⟩)
abbrev s_is_whole : Stmt := top 3
theorem sc_is_whole : FnScope ["thing", "least", "most"] ["thing", "least", "most"] (defScope s_is_whole) := ⟨rfl, rfl, rfl, by decide +kernel, rfl, by decide +kernel, by decide +kernel⟩
abbrev s_kinds_for : Stmt := top 7
theorem sc_kinds_for : FnScope ["reads"] ["reads"] (defScope s_kinds_for) := ⟨rfl, rfl, rfl, by decide +kernel, rfl, by decide +kernel, by decide +kernel⟩
abbrev s_is_vector : Stmt := top 8
theorem sc_is_vector : FnScope ["thing", "part"] ["thing"] (defScope s_is_vector) := ⟨rfl, rfl, rfl, by decide +kernel, rfl, by decide +kernel, by decide +kernel⟩
abbrev s_is_rest : Stmt := top 9
theorem sc_is_rest : FnScope ["thing", "number"] ["thing"] (defScope s_is_rest) := ⟨rfl, rfl, rfl, by decide +kernel, rfl, by decide +kernel, by decide +kernel⟩
abbrev s_is_part : Stmt := top 10
theorem sc_is_part : FnScope ["sign", "thing", "reads"] ["sign", "thing", "reads"] (defScope s_is_part) := ⟨rfl, rfl, rfl, by decide +kernel, rfl, by decide +kernel, by decide +kernel⟩
abbrev s_is_choice : Stmt := top 11
theorem sc_is_choice : FnScope ["thing", "reads", "kind", "parts", "sign", "part"] ["thing", "reads"] (defScope s_is_choice) := ⟨rfl, rfl, rfl, by decide +kernel, rfl, by decide +kernel, by decide +kernel⟩
abbrev s_are_choices : Stmt := top 12
theorem sc_are_choices : FnScope ["thing", "many", "reads", "one"] ["thing", "many", "reads"] (defScope s_are_choices) := ⟨rfl, rfl, rfl, by decide +kernel, rfl, by decide +kernel, by decide +kernel⟩
abbrev s__law_begin : Stmt := top 14
theorem sc__law_begin : FnScope ["_law_script"] ["_law_script"] (defScope s__law_begin) := ⟨rfl, rfl, rfl, by decide +kernel, rfl, by decide +kernel, by decide +kernel⟩
abbrev s__law_more : Stmt := top 15
theorem sc__law_more : FnScope ["_law_state", "_law_k", "_law_cells", "_law_cell", "_law_number", "_law_primes", "_law_at", "_law_prime", "_law_one"] ["_law_state"] (defScope s__law_more) := ⟨rfl, rfl, rfl, by decide +kernel, rfl, by decide +kernel, by decide +kernel⟩
abbrev s__law_next : Stmt := top 16
theorem sc__law_next : FnScope ["_law_state", "_law_most", "_law_digit"] ["_law_state", "_law_most"] (defScope s__law_next) := ⟨rfl, rfl, rfl, by decide +kernel, rfl, by decide +kernel, by decide +kernel⟩
abbrev s__law_pick : Stmt := top 17
theorem sc__law_pick : FnScope ["_law_state", "_law_some"] ["_law_state", "_law_some"] (defScope s__law_pick) := ⟨rfl, rfl, rfl, by decide +kernel, rfl, by decide +kernel, by decide +kernel⟩
abbrev s__law_rest : Stmt := top 18
theorem sc__law_rest : FnScope ["_law_state", "_law_way", "_law_found", "_law_k"] ["_law_state"] (defScope s__law_rest) := ⟨rfl, rfl, rfl, by decide +kernel, rfl, by decide +kernel, by decide +kernel⟩
abbrev s__law_any_vector : Stmt := top 19
theorem sc__law_any_vector : FnScope ["_law_state", "_law_far"] ["_law_state"] (defScope s__law_any_vector) := ⟨rfl, rfl, rfl, by decide +kernel, rfl, by decide +kernel, by decide +kernel⟩
abbrev s__law_choice : Stmt := top 20
theorem sc__law_choice : FnScope ["_law_state", "_law_reads", "_law_more_here", "_law_kind", "_law_rest_here", "_law_which"] ["_law_state", "_law_reads"] (defScope s__law_choice) := ⟨rfl, rfl, rfl, by decide +kernel, rfl, by decide +kernel, by decide +kernel⟩
abbrev s__law_bent : Stmt := top 21
theorem sc__law_bent : FnScope ["_law_state", "_law_thing", "_law_odd", "_law_at", "_law_inner", "_law_new"] ["_law_state", "_law_thing"] (defScope s__law_bent) := ⟨rfl, rfl, rfl, by decide +kernel, rfl, by decide +kernel, by decide +kernel⟩
abbrev s__law_are : Stmt := top 22
theorem sc__law_are : FnScope ["_law_thing", "_law_many", "_law_far", "_law_some", "_law_one"] ["_law_thing", "_law_many", "_law_far"] (defScope s__law_are) := ⟨rfl, rfl, rfl, by decide +kernel, rfl, by decide +kernel, by decide +kernel⟩
abbrev s__law_is_read : Stmt := top 23
theorem sc__law_is_read : FnScope ["_law_thing", "_law_reads"] ["_law_thing", "_law_reads"] (defScope s__law_is_read) := ⟨rfl, rfl, rfl, by decide +kernel, rfl, by decide +kernel, by decide +kernel⟩
abbrev s__law_is_choice : Stmt := top 24
theorem sc__law_is_choice : FnScope ["_law_thing", "_law_reads", "_law_kind", "_law_parts"] ["_law_thing", "_law_reads"] (defScope s__law_is_choice) := ⟨rfl, rfl, rfl, by decide +kernel, rfl, by decide +kernel, by decide +kernel⟩
abbrev s__law_are_choices : Stmt := top 25
theorem sc__law_are_choices : FnScope ["_law_thing", "_law_many", "_law_reads", "_law_one"] ["_law_thing", "_law_many", "_law_reads"] (defScope s__law_are_choices) := ⟨rfl, rfl, rfl, by decide +kernel, rfl, by decide +kernel, by decide +kernel⟩
abbrev s_law : Stmt := top 26
theorem sc_law : FnScope ["_law_script", "_law_state", "_law_turn", "_law_reads", "_law_many", "_law_thing", "_law_other", "_law_fewer", "_law_time", "_law_kept", "_law_found", "_law_odd", "_law_k", "_law_one"] ["_law_script"] (defScope s_law) := ⟨rfl, rfl, rfl, by decide +kernel, rfl, by decide +kernel, by decide +kernel⟩

structure Tx (K : PySem.W.Frag) (mg : Str → Option Value) (w : World) where
  d_is_whole : Df K mg "is_whole" s_is_whole ["thing", "least", "most"]
  d_kinds_for : Df K mg "kinds_for" s_kinds_for ["reads"]
  d_is_vector : Df K mg "is_vector" s_is_vector ["thing"]
  d_is_rest : Df K mg "is_rest" s_is_rest ["thing"]
  d_is_part : Df K mg "is_part" s_is_part ["sign", "thing", "reads"]
  d_is_choice : Df K mg "is_choice" s_is_choice ["thing", "reads"]
  d_are_choices : Df K mg "are_choices" s_are_choices ["thing", "many", "reads"]
  d__law_begin : Df K mg "_law_begin" s__law_begin ["_law_script"]
  d__law_more : Df K mg "_law_more" s__law_more ["_law_state"]
  d__law_next : Df K mg "_law_next" s__law_next ["_law_state", "_law_most"]
  d__law_pick : Df K mg "_law_pick" s__law_pick ["_law_state", "_law_some"]
  d__law_rest : Df K mg "_law_rest" s__law_rest ["_law_state"]
  d__law_any_vector : Df K mg "_law_any_vector" s__law_any_vector ["_law_state"]
  d__law_choice : Df K mg "_law_choice" s__law_choice ["_law_state", "_law_reads"]
  d__law_bent : Df K mg "_law_bent" s__law_bent ["_law_state", "_law_thing"]
  d__law_are : Df K mg "_law_are" s__law_are ["_law_thing", "_law_many", "_law_far"]
  d__law_is_read : Df K mg "_law_is_read" s__law_is_read ["_law_thing", "_law_reads"]
  d__law_is_choice : Df K mg "_law_is_choice" s__law_is_choice ["_law_thing", "_law_reads"]
  d__law_are_choices : Df K mg "_law_are_choices" s__law_are_choices ["_law_thing", "_law_many", "_law_reads"]
  d_law : Df K mg "law" s_law ["_law_script"]
  n_abs : mg "abs" = none
  n_all : mg "all" = none
  n_bool : mg "bool" = none
  n_enumerate : mg "enumerate" = none
  n_int : mg "int" = none
  n_isinstance : mg "isinstance" = none
  n_len : mg "len" = none
  n_list : mg "list" = none
  n_max : mg "max" = none
  n_min : mg "min" = none
  n_range : mg "range" = none
  n_repr : mg "repr" = none
  n_str : mg "str" = none
  n_tuple : mg "tuple" = none
  n_zip : mg "zip" = none
  t_MOST_REST : Tok
  c_MOST_REST : mg "MOST_REST" = some (.int (4000) t_MOST_REST)
  t_MOST_VECTOR : Tok
  c_MOST_VECTOR : mg "MOST_VECTOR" = some (.int (32) t_MOST_VECTOR)
  g_BESIDE : Addr
  c_BESIDE : mg "BESIDE" = some (.ref g_BESIDE)
  q_BESIDE : ∃ o, List.lookup g_BESIDE K = some o ∧ o.cls = PySem.Value.type "tuple" ∧ o.dict = none
  v_BESIDE : ∀ F, RD K F (.ref g_BESIDE) (.tup ((["flat", "left", "above", "slope"] : List Str).map D.str))
  g_FORMS : Addr
  c_FORMS : mg "FORMS" = some (.ref g_FORMS)
  s_FORMS_0 : KDct K w g_FORMS "flat" (.str "s")
  s_FORMS_1 : KDct K w g_FORMS "left" (.str "s")
  s_FORMS_2 : KDct K w g_FORMS "above" (.str "s")
  s_FORMS_3 : KDct K w g_FORMS "slope" (.str "s")
  s_FORMS_4 : KDct K w g_FORMS "as" (.str "r")
  s_FORMS_5 : KDct K w g_FORMS "moved" (.str "rvs")
  s_FORMS_6 : KDct K w g_FORMS "both" (.str "vvs")

/-! ### steps -/
-- places of cells
local macro_rules | `(tactic| k_search 10) => `(tactic| ((with_reducible show (_, _) ∈ _); k_search 71))
local macro_rules | `(tactic| k_search 71) => `(tactic| first | exact CellAt.prf | assumption | exact .head _ | exact (.tail _ (.head _)) | exact (.tail _ (.tail _ (.head _))) | exact (.tail _ (.tail _ (.tail _ (.head _)))) | exact (.tail _ (.tail _ (.tail _ (.tail _ (.head _))))) | exact (.tail _ (.tail _ (.tail _ (.tail _ (.tail _ (.head _)))))) | exact (.tail _ (.tail _ (.tail _ (.tail _ (.tail _ (.tail _ (.head _))))))) | exact (.tail _ (.tail _ (.tail _ (.tail _ (.tail _ (.tail _ (.tail _ (.head _)))))))) | exact (.tail _ (.tail _ (.tail _ (.tail _ (.tail _ (.tail _ (.tail _ (.tail _ (.head _))))))))) | assumption | exact Sp.mem (by assumption) | exact (.tail _ (by assumption)) | exact (.tail _ (.tail _ (by assumption))) | exact (.tail _ (.tail _ (.tail _ (by assumption)))) | exact (.tail _ (.tail _ (.tail _ (.tail _ (by assumption))))) | exact (.tail _ (.tail _ (.tail _ (.tail _ (.tail _ (by assumption)))))) | exact (.tail _ (.tail _ (.tail _ (.tail _ (.tail _ (.tail _ (by assumption))))))) | (refine .tail _ ?_; exact .head _) | (refine .tail _ ?_; refine .tail _ ?_; exact .head _) | (refine .tail _ ?_; refine .tail _ ?_; refine .tail _ ?_; exact .head _) | (refine .tail _ ?_; refine .tail _ ?_; refine .tail _ ?_; refine .tail _ ?_; exact .head _) | (refine .tail _ ?_; refine .tail _ ?_; refine .tail _ ?_; refine .tail _ ?_; refine .tail _ ?_; exact .head _) | (refine .tail _ ?_; refine .tail _ ?_; refine .tail _ ?_; refine .tail _ ?_; refine .tail _ ?_; refine .tail _ ?_; exact .head _))
local macro_rules | `(tactic| k_search 11) => `(tactic| ((with_reducible show Sp _ _ _ _); k_search 72))
local macro_rules | `(tactic| k_search 72) => `(tactic| first | exact SpI.prf | assumption | exact .here | exact .there .here | exact .there (.there .here) | exact .there (.there (.there .here)) | exact .there (.there (.there (.there .here))) | exact .there (.there (.there (.there (.there .here)))) | exact .there (.there (.there (.there (.there (.there .here))))) | assumption)
-- a row's items
local macro_rules | `(tactic| k_search 12) => `(tactic| first
  | (with_reducible exact SeqI.prf) | (with_reducible assumption) | (with_reducible exact Seq.lst _) | (with_reducible exact Seq.tup _) | (with_reducible exact Seq.scr _) | (with_reducible assumption) | ((with_reducible refine Seq.own ?_); k_search 10) | ((with_reducible apply Seq.own); k_search 10) | ((with_reducible apply Seq.grd); first | (case' hm => k_search 10) | k_search 10) | ((with_reducible apply Seq.row); (case' hm => k_search 10); (case' hy => omega)) | exact Seq.more (by assumption) | exact Seq.more (Seq.more (by assumption)) | exact Seq.more (Seq.more (Seq.more (by assumption))) | k_search 30)
local macro_rules | `(tactic| k_search 13) => `(tactic| ((first | exact gOnly_name (by decide) | (refine gOnly_seq ?_; repeat (first | exact gOnly_nil | refine gOnly_cons (gOnly_name (by decide)) gMono_name ?_ (by repeat (first | exact gMono_nil | refine gMono_cons gMono_name ?_)))))))
local macro_rules | `(tactic| k_search 30) => `(tactic| fail)
local macro_rules | `(tactic| k_search 61) => `(tactic| fail)
local macro_rules | `(tactic| k_search 64) => `(tactic| fail)
local macro_rules | `(tactic| k_search 65) => `(tactic| fail)
local macro_rules | `(tactic| k_search 62) => `(tactic| fail)
-- arithmetic
local macro_rules | `(tactic| k_search 14) => `(tactic| first
  | (with_reducible rfl)
  | ((with_reducible refine prp ?_); (with_reducible assumption))
  | ((first | show (_ : Int) ≤ _ | show (_ : Int) < _ | show (_ : Nat) ≤ _ | show (_ : Nat) < _ | show (_ : Int) = _ | show (_ : Nat) = _); first | omega | (simp only [List.length_map, List.length_range, List.length_cons, List.length_nil, List.length_append, List.length_replicate, List.length_zip, List.length_zipIdx]; first | done | omega)))
-- may be compared
local macro_rules | `(tactic| k_search 15) => `(tactic| repeat' (first | exact Pln.int _ | exact Pln.bl _ | exact Pln.non | exact Pln.str (by decide +kernel) | (with_reducible refine Pln.lstM fun _ _ => ?_) | (with_reducible refine Pln.tupM fun _ _ => ?_) | (with_reducible refine Pln.lstC ?_) | (with_reducible refine Pln.tupC ?_) | (with_reducible exact Plns.nil) | (with_reducible refine Plns.cons ?_ ?_)))
local macro_rules | `(tactic| k_search 1) => `(tactic| first
  | (with_reducible refine S.seq ?_)
  | (with_reducible refine S.asg ?_)
  | k_search 50
  | (with_reducible refine S.retW ?_)
  | (with_reducible refine S.ret ?_)
  | (with_reducible refine S.drop ?_)
  | (with_reducible refine S.next ?_)
  | (with_reducible refine S.retN ?_)
  | ((with_reducible refine itT ?e ?_); (case e => first | (with_reducible rfl) | (simp only [D.isN, Bool.not_true, Bool.not_false]; done)))
  | ((with_reducible refine itF ?e ?_); (case e => first | (with_reducible rfl) | (simp only [D.isN, Bool.not_true, Bool.not_false]; done)))
  | ((with_reducible refine W.var (x := ?y) ?e ?_); (case e => rfl))
  | (with_reducible refine W.int ?_)
  | (with_reducible refine W.str ?_)
  | (with_reducible refine W.bl ?_)
  | (with_reducible refine W.non ?_)
  | (with_reducible refine W.ty ?_)
  | (with_reducible refine W.op ?_)
  | (with_reducible refine W.un ?_)
  | (with_reducible refine W.isT ?_)
  | (with_reducible refine W.cb ?_)
  | (with_reducible refine WA.cons ?_)
  | (with_reducible refine WA.nil ?_)
  | ((with_reducible refine G.name (ρ' := ?r) ?e ?_); (case e => (conv => lhs; simp only [wipeD, List.map_cons, List.map_nil, List.set_cons_zero, List.set_cons_succ]); first | done | exact rfl))
  | (with_reducible refine W.callI ?_)
  | k_search 61
  | ((with_reducible refine Cal.of ?_); constructor)
  | (with_reducible refine W.tup ?_)
  | (with_reducible refine W.lst ?_)
  | ((with_reducible refine lenOk ?e ?_); (case e => exact Nat.le_of_ble_eq_true rfl))
  | (with_reducible refine WT.test ?_)
  | (with_reducible refine WT.tB ?_)
  | (with_reducible refine WT.and ?_)
  | (with_reducible refine WT.or ?_)
  | (with_reducible refine WT.not ?_)
  | (with_reducible refine W.andV ?_)
  | (with_reducible refine W.orV ?_)
  | (with_reducible refine W.notV ?_)
  | (with_reducible refine OpD.add_int ?_)
  | (with_reducible refine OpD.sub ?_)
  | ((with_reducible refine OpD.add_tup ?a ?b ?_); (case a => exact List.cons_ne_nil _ _); (case b => exact line_of (Nat.le_of_ble_eq_true rfl)))
  | k_search 52
  | ((with_reducible refine OpD.add_lst ?b ?_); (case b => exact line_of (by first | exact Nat.le_of_ble_eq_true rfl | (simp only [List.length_map, List.length_range, List.length_cons, List.length_nil, List.length_append, List.length_replicate]; omega))))
  | ((with_reducible refine OpD.mul ?c ?_); (case c => first | (refine .inl (.inl ⟨?_, ?_⟩) <;> omega) | (refine .inl (.inr ⟨?_, ?_⟩) <;> omega)))
  | ((with_reducible refine OpD.mod ?c ?_); (case c => first | (with_reducible assumption) | omega | decide))
  | ((with_reducible refine OpD.pow ?c ?_); (case c => exact ⟨by decide, by decide, by decide⟩); simp only [Int.reduceToNat, Int.reducePow])
  | ((with_reducible refine OpD.fdiv ?c ?_); (case c => (refine cdivw ?_ ?_ <;> first | (with_reducible assumption) | omega)))
  | (with_reducible refine OpD.lt ?_)
  | (with_reducible refine OpD.le ?_)
  | (with_reducible refine OpD.gt ?_)
  | (with_reducible refine OpD.ge ?_)
  | (with_reducible refine OpD.eq_int ?_)
  | (with_reducible refine OpD.ne_int ?_)
  | (with_reducible refine OpD.is ?_)
  | (with_reducible refine OpD.isnot ?_)
  | ((with_reducible refine OpD.eq_str ?a ?b ?_); (case a => first | assumption | decide +kernel); (case b => decide +kernel))
  | ((with_reducible refine OpD.ne_str ?a ?b ?_); (case a => decide +kernel); (case b => decide +kernel))
  | ((with_reducible refine OpD.eqS .self .self rfl ?p ?_); (case p => k_search 15))
  | ((with_reducible refine OpD.neS .self .self rfl ?p ?_); (case p => k_search 15))
  | (with_reducible refine UnD.neg ?_)
  | (with_reducible refine CbD.max' ?_)
  | (with_reducible refine CbD.min' ?_)
  | (with_reducible refine CbD.abs ?_)
  | (with_reducible refine CbD.int ?_)
  | (with_reducible refine CbD.intB ?_)
  | (with_reducible refine bl_intro ?_)
  | ((with_reducible apply CbD.lenR2); (case' q => k_search 12))
  | ((with_reducible apply CbD.lenR); (case' q => k_search 12))
  | ((with_reducible apply CbD.lenM); (case' q => k_search 12))
  | ((with_reducible apply CbD.len); (case' q => k_search 12))
  | ((with_reducible apply CbD.tuple); (case' q => k_search 12))
  | ((with_reducible apply CbD.list); (case' q => k_search 12))
  | (with_reducible refine CbD.allM ?_)
  | (with_reducible refine CbD.anyM ?_)
  | (with_reducible refine CbD.sum ?_)
  | (with_reducible refine CbD.sumM ?_)
  | k_search 65
  | (with_reducible refine W.bm ?_)
  | (with_reducible refine W.bm0 ?_)
  | ((with_reducible apply WG.seq); (case' hs => k_search 12); (case' hl => rfl))
  | (with_reducible refine WGs.cons ?_)
  | (with_reducible refine WGs.nil ?_)
  | ((with_reducible show WGs _ _ _ (List.map _ _) _ _ _ _); simp only [List.map_cons, List.map_nil])
  | (with_reducible refine S.par ?_)
  | (with_reducible refine S.par3 ?_)
  | (with_reducible refine par2 ?_)
  | (with_reducible refine par3 ?_)
  | (with_reducible refine WI.seq ?_)
  | (with_reducible refine WI.rn ?_)
  | (with_reducible refine WI.rn2 ?_)
  | (with_reducible refine WI.rng3 ?_)
  | (with_reducible refine WI.enumL ?_)
  | (with_reducible refine WI.enumT ?_)
  | (with_reducible refine TupIt.mk ?_)
  | (with_reducible refine WI.zipM ?_)
  | ((with_reducible apply zipM_i); (case' hx => k_search 12); (case' hy => k_search 12))
  | ((with_reducible apply seq_i); (case' q => k_search 12))
  | ((with_reducible refine rn_i (n := ?n) ?e ?g ?h ?_); (case e => first | (with_reducible exact tn4) | (with_reducible exact tn16) | (with_reducible exact tn3) | (with_reducible exact tn2) | (with_reducible exact tn5) | (with_reducible exact tn8) | (with_reducible exact tn32) | (with_reducible exact Int.toNat_natCast _) | (with_reducible rfl) | exact rfl); (case g => omega); (case h => omega))
  | ((with_reducible refine rn2_i ?e ?_); (case e => omega))
  | ((with_reducible apply enum_i); (case' q => k_search 12); (case' hl => exact rfl))
  | (with_reducible refine so_i ?_)
  | (with_reducible refine W.sl ?_)
  | (with_reducible refine WO.no ?_)
  | (with_reducible refine WO.so ?_)
  | (with_reducible refine W.slS ?_)
  | (with_reducible refine W.chain ?_)
  | (with_reducible refine W.lstO ?_)
  | ((with_reducible apply CbD.listO); (case' q => k_search 12))
  | ((with_reducible apply tyOwn); (case' h => k_search 10))
  | k_search 45
  | ((with_reducible apply CbD.isiK); (case' t => first | exact .inl rfl | assumption); (case' hm => decide))
  | ((with_reducible apply isT_i2); (case' t => first | exact .inl rfl | assumption); (case' ha => decide); (case' hb => decide))
  | ((with_reducible apply OpD.ixN); (case' q => k_search 12); (case' h0 => omega); (case' hy => rfl))
  | fail)
local macro_rules | `(tactic| k_search 73) => `(tactic| first
  | k_search 50
  | ((with_reducible refine itT ?e ?_); (case e => first | (with_reducible rfl) | (simp only [D.isN, Bool.not_true, Bool.not_false]; done)))
  | ((with_reducible refine itF ?e ?_); (case e => first | (with_reducible rfl) | (simp only [D.isN, Bool.not_true, Bool.not_false]; done)))
  | ((with_reducible refine W.var (x := ?y) ?e ?_); (case e => rfl))
  | (with_reducible refine W.isT ?_)
  | ((with_reducible refine G.name (ρ' := ?r) ?e ?_); (case e => (conv => lhs; simp only [wipeD, List.map_cons, List.map_nil, List.set_cons_zero, List.set_cons_succ]); first | done | exact rfl))
  | k_search 61
  | ((with_reducible refine Cal.of ?_); constructor)
  | ((with_reducible refine lenOk ?e ?_); (case e => exact Nat.le_of_ble_eq_true rfl))
  | ((with_reducible refine OpD.add_tup ?a ?b ?_); (case a => exact List.cons_ne_nil _ _); (case b => exact line_of (Nat.le_of_ble_eq_true rfl)))
  | k_search 52
  | ((with_reducible refine OpD.add_lst ?b ?_); (case b => exact line_of (by first | exact Nat.le_of_ble_eq_true rfl | (simp only [List.length_map, List.length_range, List.length_cons, List.length_nil, List.length_append, List.length_replicate]; omega))))
  | ((with_reducible refine OpD.mul ?c ?_); (case c => first | (refine .inl (.inl ⟨?_, ?_⟩) <;> omega) | (refine .inl (.inr ⟨?_, ?_⟩) <;> omega)))
  | ((with_reducible refine OpD.mod ?c ?_); (case c => first | (with_reducible assumption) | omega | decide))
  | ((with_reducible refine OpD.pow ?c ?_); (case c => exact ⟨by decide, by decide, by decide⟩); simp only [Int.reduceToNat, Int.reducePow])
  | ((with_reducible refine OpD.fdiv ?c ?_); (case c => (refine cdivw ?_ ?_ <;> first | (with_reducible assumption) | omega)))
  | ((with_reducible refine OpD.eq_str ?a ?b ?_); (case a => first | assumption | decide +kernel); (case b => decide +kernel))
  | ((with_reducible refine OpD.ne_str ?a ?b ?_); (case a => decide +kernel); (case b => decide +kernel))
  | ((with_reducible refine OpD.eqS .self .self rfl ?p ?_); (case p => k_search 15))
  | ((with_reducible refine OpD.neS .self .self rfl ?p ?_); (case p => k_search 15))
  | ((with_reducible apply CbD.lenR2); (case' q => k_search 12))
  | ((with_reducible apply CbD.lenR); (case' q => k_search 12))
  | ((with_reducible apply CbD.lenM); (case' q => k_search 12))
  | ((with_reducible apply CbD.len); (case' q => k_search 12))
  | ((with_reducible apply CbD.tuple); (case' q => k_search 12))
  | ((with_reducible apply CbD.list); (case' q => k_search 12))
  | k_search 65
  | ((with_reducible apply WG.seq); (case' hs => k_search 12); (case' hl => rfl))
  | ((with_reducible show WGs _ _ _ (List.map _ _) _ _ _ _); simp only [List.map_cons, List.map_nil])
  | (with_reducible refine TupIt.mk ?_)
  | ((with_reducible apply zipM_i); (case' hx => k_search 12); (case' hy => k_search 12))
  | ((with_reducible apply seq_i); (case' q => k_search 12))
  | ((with_reducible refine rn2_i ?e ?_); (case e => omega))
  | ((with_reducible apply enum_i); (case' q => k_search 12); (case' hl => exact rfl))
  | ((with_reducible apply CbD.listO); (case' q => k_search 12))
  | ((with_reducible apply tyOwn); (case' h => k_search 10))
  | k_search 45
  | ((with_reducible apply CbD.isiK); (case' t => first | exact .inl rfl | assumption); (case' hm => decide))
  | ((with_reducible apply isT_i2); (case' t => first | exact .inl rfl | assumption); (case' ha => decide); (case' hb => decide))
  | ((with_reducible apply OpD.ixN); (case' q => k_search 12); (case' h0 => omega); (case' hy => rfl))
  | fail)
local macro_rules | `(tactic| k_search 58) => `(tactic| fail)
local macro_rules | `(tactic| k_search 67) => `(tactic| first | (with_reducible assumption) | omega | (exact cdivw (by omega) (by omega)) | (refine .inl (.inl ⟨?_, ?_⟩) <;> omega) | (refine .inl (.inr ⟨?_, ?_⟩) <;> omega) | (simp only [List.length_map, List.length_range, List.length_cons, List.length_nil, List.length_append, List.length_replicate, List.length_zip, List.length_zipIdx]; first | done | omega) | exact ⟨by decide, by decide, by decide⟩ | assumption | k_search 30)
local macro_rules | `(tactic| k_search 66) => `(tactic| ((with_reducible refine Sd.mk ?c ?_); (case' c => try k_search 67)))
local macro_rules | `(tactic| k_search 70) => `(tactic| first
  | ((with_reducible refine IxS.ran2E (j := ?j) ?e ?a ?b ?_); (case e => k_search 46); (case a => omega); (case b => first | k_search 14 | k_search 30 | k_search 22))
  | ((with_reducible refine IxS.at0 (y := ?y) ?e ?_); (case e => assumption))
  | ((with_reducible refine IxS.ranE (j := ?j) ?e ?a ?b ?_); (case e => k_search 46); (case a => omega); (case b => first | k_search 14 | k_search 30 | k_search 22))
  | ((with_reducible refine IxS.mapE (j := ?j) ?e ?a ?b ?_); (case e => k_search 46); (case a => omega); (case b => first | k_search 14 | k_search 30 | k_search 22))
  | ((with_reducible refine IxS.ints (ns := ?ns) ?e ?a ?b ?_); (case e => first | exact AsM.nil | exact .cons .nil | exact .cons (.cons .nil) | exact .cons (.cons (.cons .nil)) | exact .cons (.cons (.cons (.cons .nil))) | exact .cons (.cons (.cons (.cons (.cons .nil)))) | exact .cons (.cons (.cons (.cons (.cons (.cons .nil))))) | exact .cons (.cons (.cons (.cons (.cons (.cons (.cons .nil)))))) | exact .cons (.cons (.cons (.cons (.cons (.cons (.cons (.cons .nil))))))) | exact .cons (.cons (.cons (.cons (.cons (.cons (.cons (.cons (.cons .nil)))))))) | exact .cons (.cons (.cons (.cons (.cons (.cons (.cons (.cons (.cons (.cons .nil))))))))) | exact .cons (.cons (.cons (.cons (.cons (.cons (.cons (.cons (.cons (.cons (.cons .nil)))))))))) | exact .cons (.cons (.cons (.cons (.cons (.cons (.cons (.cons (.cons (.cons (.cons (.cons .nil)))))))))))); (case a => omega); (case b => (simp only [List.length_cons, List.length_nil]; omega))))
local macro_rules | `(tactic| k_search 68) => `(tactic| first | (with_reducible refine Red1.go true ?_) | k_search 66 | ((with_reducible show IxS _ _ _ _); k_search 70))
local macro_rules | `(tactic| k_search 69) => `(tactic| first | (with_reducible refine Red1.go false ?_) | k_search 66 | ((with_reducible show IxS _ _ _ _); k_search 70))
local macro_rules | `(tactic| k_search 2) => `(tactic| first | k_search 1 | (with_reducible refine S.ite ?_) | k_search 58 | (with_reducible refine W.ite ?_) | fail)
local macro_rules | `(tactic| k_search 3) => `(tactic| repeat' k_search 1)
local macro_rules | `(tactic| k_search 4) => `(tactic| repeat' k_search 2)
local macro_rules | `(tactic| k_search 5) => `(tactic| ((refine WS.env (ρ' := ?r) ?e ?_); (case e => (simp only [List.map_cons, List.map_nil, List.length_cons, List.length_nil, List.cons_append, List.nil_append, Nat.reduceAdd, Nat.reduceSub, Nat.add_sub_cancel, Nat.sub_self, Nat.zero_add, List.replicate_succ, List.replicate_zero]; first | done | exact rfl))))
set_option hygiene false in
local macro_rules | `(tactic| k_search 17) => `(tactic| first
  | (with_reducible refine two (fun hc => ?_) (fun hc => ?_))
  | (with_reducible refine twoN (fun hc => ?_) (fun hc => ?_))
  | (with_reducible refine two' (fun hc => ?_) (fun hc => ?_)))
set_option hygiene false in
local macro_rules | `(tactic| k_search 19) => `(tactic| ((with_reducible refine prp ?_); first | exact k | exact k _ | k_search 48 | ((with_reducible show Wk _ _ _); simp only [tI, lI, lT, tT, lL, List.map_map, Function.comp_def, Int.toNat_natCast, List.flatMap_def, List.map_flatten] at k ⊢; k_search 48) | (simp only [tI, lI, lT, tT, lL, List.map_map, Function.comp_def, Int.toNat_natCast, List.flatMap_def, List.map_flatten] at k ⊢; exact k)))
set_option hygiene false in
local macro_rules | `(tactic| k_search 18) => `(tactic| first
  | (with_reducible refine prp (fun (i : Nat) (a : Nat) (ha : (List.range _)[i]? = some a) => ?_); obtain ⟨hi, rfl⟩ := range_get ha; clear ha)
  | (with_reducible refine prp (fun (i : Nat) a (ha : _[i]? = some a) => ?_))
  | (with_reducible refine prp (fun i (ha : i ∈ List.range _) => ?_); replace ha := List.mem_range.mp ha)
  | (with_reducible refine prp (fun a (ha : a ∈ _) => ?_))
  | (with_reducible refine prp (fun z (z0 : (0 : Int) ≤ z) (z1 : z < _) => ?_))
  | (with_reducible refine prp (fun z (z0 : (0 : Int) ≤ z) => ?_))
  | (with_reducible refine AllA.mk (fun q => ?_)))
local macro_rules | `(tactic| k_search 16) => `(tactic| repeat (first | exact Le.nil | (with_reducible refine Le.same ?_) | (with_reducible refine Le.skip ?_) | refine Le.eq rfl ?_))
local macro_rules | `(tactic| k_search 47) => `(tactic| first | (with_reducible exact AsM.map _) | exact AsM.rn | exact AsM.rev | exact AsM.ran | exact AsM.ranc | exact AsM.zipR | exact AsM.zipR1 | exact AsM.zip | exact AsM.enumR | exact AsM.enum | exact ((.cons .nil) : AsM D.int _ _) | exact ((.cons (.cons .nil)) : AsM D.int _ _) | exact ((.cons (.cons (.cons .nil))) : AsM D.int _ _) | exact ((.cons (.cons (.cons (.cons .nil)))) : AsM D.int _ _) | exact ((.cons (.cons (.cons (.cons (.cons .nil))))) : AsM D.int _ _) | exact ((.cons (.cons (.cons (.cons (.cons (.cons .nil)))))) : AsM D.int _ _) | exact ((.cons (.cons (.cons (.cons (.cons (.cons (.cons .nil))))))) : AsM D.int _ _) | exact ((.cons (.cons (.cons (.cons (.cons (.cons (.cons (.cons .nil)))))))) : AsM D.int _ _) | exact ((.cons (.cons (.cons (.cons (.cons (.cons (.cons (.cons (.cons .nil))))))))) : AsM D.int _ _) | exact ((.cons (.cons (.cons (.cons (.cons (.cons (.cons (.cons (.cons (.cons .nil)))))))))) : AsM D.int _ _) | exact AsM.map _ | exact AsM.idm)
local macro_rules | `(tactic| k_search 49) => `(tactic| first | (with_reducible exact Sb.refl _) | (with_reducible exact Sb.nil) | ((with_reducible apply Sb.pick); (case' h => k_search 44); k_search 49) | ((with_reducible refine Sb.drop ?_); k_search 49) | exact Sb.refl _)
local macro_rules | `(tactic| k_search 56) => `(tactic| first | (with_reducible exact Pk.refl _) | ((with_reducible apply Pk.cons); (case' h => k_search 44); k_search 56))
set_option hygiene false in
local macro_rules | `(tactic| k_search 48) => `(tactic| first | exact Wk.self k | exact Wk.self (k _) | exact Wk.drop (Wk.self k) | exact Wk.drop (Wk.self (k _)) | exact Wk.drop (Wk.drop (Wk.self k)))
-- natural numbers
local macro_rules | `(tactic| k_search 46) => `(tactic| first | (with_reducible exact Int.toNat_natCast _) | (with_reducible exact tn0) | (with_reducible exact tn1) | (with_reducible exact tn2) | (with_reducible exact tn3) | (with_reducible exact tn4) | (with_reducible exact tn5) | (with_reducible exact tn8) | (with_reducible exact tn16) | (with_reducible rfl) | exact rfl)
-- objects
local macro_rules | `(tactic| k_search 42) => `(tactic| first | exact InsI.prf | exact .ob | exact .own (.head _) | exact .own (.tail _ (.head _)) | exact .own (.tail _ (.tail _ (.head _))) | exact .own (.tail _ (.tail _ (.tail _ (.head _)))) | exact .own (.tail _ (.tail _ (.tail _ (.tail _ (.head _))))) | exact .own (.tail _ (.tail _ (.tail _ (.tail _ (.tail _ (.head _)))))) | exact .own (.tail _ (.tail _ (.tail _ (.tail _ (.tail _ (.tail _ (.head _))))))) | exact .own (.tail _ (.tail _ (.tail _ (.tail _ (.tail _ (.tail _ (.tail _ (.head _)))))))) | exact .own (.tail _ (.tail _ (.tail _ (.tail _ (.tail _ (.tail _ (.tail _ (.tail _ (.head _))))))))) | exact .own (by assumption) | exact .own (.tail _ (by assumption)) | exact .own (.tail _ (.tail _ (by assumption))) | exact .own (.tail _ (.tail _ (.tail _ (by assumption)))) | assumption)
local macro_rules | `(tactic| k_search 44) => `(tactic| first | exact RmI.prf | exact .here | exact .there .here | exact .there (.there .here) | exact .there (.there (.there .here)) | exact .there (.there (.there (.there .here))) | exact .there (.there (.there (.there (.there .here)))) | exact .there (.there (.there (.there (.there (.there .here))))))
set_option hygiene false in
local macro_rules | `(tactic| k_search 50) => `(tactic| ((with_reducible apply S.retF); (case' h => exact rfl); (case' hm => k_search 44)))
set_option hygiene false in
local macro_rules | `(tactic| k_search 45) => `(tactic| first
  | ((with_reducible apply fld_i); (case' hi => k_search 42); (case' hl => k_search 40))
  | ((with_reducible apply FldD.mk); (case' hm => k_search 11); (case' hl => exact Nat.lt_of_lt_of_le (Nat.lt_of_le_of_lt (Nat.le_of_ble_eq_true rfl) (Nat.lt_succ_self 20)) (by decide)); (case' e => k_search 40))
  | ((with_reducible apply FgtD.mk); (case' hm => k_search 10); (case' hl => k_search 40))
  | ((with_reducible apply meth_i); (case' hi => k_search 42); (case' hl => k_search 40))
  | ((with_reducible apply made_i); (case' hm => k_search 44))
  | (with_reducible refine AllA2.mk (fun x dx => ?_)))
-- errors
local macro_rules | `(tactic| k_search 41) => `(tactic| fail)
set_option hygiene false in
local macro_rules | `(tactic| k_search 54) => `(tactic| first
  | (with_reducible refine S.try_ (fun E' => ?_))
  | ((with_reducible show Caught _ _ _ _ _); k_search 41)
  | (with_reducible refine S.tryAs (fun E' => ?_))
  | ((with_reducible show Kept _ _ _ _ _); k_search 41)
  | (with_reducible refine W.ref ?_)
  | (with_reducible refine W.dnew ?_)
  | ((with_reducible apply OpD.mulS); (case' hok => exact ⟨by decide +kernel, fun _ _ => by decide +kernel, fun _ _ => by decide +kernel⟩))
  | ((with_reducible apply OpD.eqE); (case' q => k_search 12); (case' hl => first | rfl | assumption))
  | ((with_reducible apply OpD.neE); (case' q => k_search 12); (case' hl => first | rfl | assumption))
  | ((with_reducible apply WG.star); (case' hl => first | exact Nat.le_of_ble_eq_true rfl | (simp only [List.length_map, List.length_range, List.length_cons, List.length_nil]; omega)))
  | ((with_reducible apply S.aug); (case' h0 => rfl))
  | ((with_reducible apply OpD.ixNst); (case' hm => k_search 10))
  | ((with_reducible apply StD.nst); (case' hm => k_search 10); (case' h0 => try first | (with_reducible assumption) | omega))
  | ((with_reducible apply OpD.shl); (case' hc => first | exact ⟨by decide, by decide, by decide⟩ | exact ⟨by omega, by omega, by omega⟩))
  | ((with_reducible apply OpD.shr); (case' hc => first | decide | omega))
  | (with_reducible refine W.callKD (by decide) ?_)
  | ((with_reducible refine callK_i rfl rfl ?_);  simp only [permG, List.map_cons, List.map_nil, List.getD_cons_zero, List.getD_cons_succ, List.cons_append, List.nil_append])
  | ((with_reducible apply rev_i); (case' e => rfl); (case' h1 => omega))
  | (with_reducible refine W.fs ?_)
  | ((with_reducible refine fmt_s ?hl ?_); (case hl => first | assumption | omega | (exact Nat.le_of_ble_eq_true rfl)))
  | ((with_reducible refine fmt_i ?hl ?_); (case hl => omega))
  | ((with_reducible refine wj_i ?hl ?_); (case hl => first | assumption | (exact Nat.le_of_ble_eq_true rfl) | omega))
  | ((with_reducible apply zip3_i); (case' hx => k_search 12); (case' hy => k_search 12); (case' hz => k_search 12))
  | ((with_reducible apply zipS_i); (case' hy => k_search 12))
  | k_search 64
  | ((with_reducible refine OpD.orR (OpD.eqOb ?_)); constructor)
  | ((with_reducible refine OpD.orR (OpD.neOb ?_)); constructor)
  | (with_reducible refine OpD.orL ?_)
  | k_search 43)
local macro_rules | `(tactic| k_search 43) => `(tactic| fail)
-- two ways
local macro_rules | `(tactic| k_search 7) => `(tactic| first
  | ((with_reducible refine itT ?e ?_); (case e => first | (with_reducible assumption) | exact decide_eq_true (by with_reducible rfl) | exact decide_eq_true (by omega) | exact (congrArg (!·) (decide_eq_false (by omega))) | decide +kernel | (simp only [*, Bool.not_true, Bool.not_false]; done)))
  | ((with_reducible refine itF ?e ?_); (case e => first | (with_reducible assumption) | exact (congrArg (!·) (decide_eq_true (by with_reducible rfl))) | exact decide_eq_false (by omega) | exact (congrArg (!·) (decide_eq_true (by omega))) | decide +kernel | (simp only [*, Bool.not_true, Bool.not_false]; done)))
  | k_search 17)
-- what is handed on
local macro_rules | `(tactic| k_search 8) => `(tactic| first
  | k_search 18
  | (with_reducible exact ⟨rfl, rfl⟩)
  | ((with_reducible show Seq _ _ _); k_search 12)
  | ((with_reducible show (_, _) ∈ _); k_search 10)
  | ((with_reducible show Sp _ _ _ _); k_search 11)
  | ((with_reducible show Pln _ _); k_search 15; done)
  | ((with_reducible show TnM _ _ _); exact .inl rfl)
  | ((with_reducible show isL _ = true); exact rfl)
  | ((with_reducible show isL _ = isL _); exact rfl)
  | ((with_reducible show SeqN _ _ _); first | exact .lst | exact .tup | (refine .own ?_; k_search 10) | ((with_reducible apply SeqN.grd); first | (case' hm => k_search 10) | k_search 10) | ((with_reducible apply SeqN.row); (case' hm => k_search 10); (case' hy => omega)) | assumption)
  | ((with_reducible show Le _ _); k_search 16; done)
  | ((with_reducible show AsM _ _ _); (with_reducible exact AsM.map _))
  | k_search 14
  | k_search 30
  | k_search 19)
-- comprehensions, loops
set_option hygiene false in
local macro_rules | `(tactic| k_search 51) => `(tactic| ((with_reducible apply MtD.append); (case' hm => k_search 11); (case' hl => (refine line_lt ?_; first | omega | decide | (simp only [List.length_append, List.length_map, List.length_cons, List.length_nil, List.length_replicate]; first | done | omega)))))
set_option hygiene false in
local macro_rules | `(tactic| k_search 52) => `(tactic| ((with_reducible apply OpD.add_lI); (case' e => k_search 47); (case' hl => try k_search 14)))
set_option hygiene false in
local macro_rules | `(tactic| k_search 22) => `(tactic| ((have hq := hw _ ha); omega))
set_option hygiene false in
local macro_rules | `(tactic| k_search 20) => `(tactic| first
  | ((with_reducible apply SlcD.own); (case' hm => k_search 11); (case' hx => first | exact .inl rfl | exact .inr rfl); (case' h0 => try omega); (case' h1 => try omega); (case' h2 => try k_search 14); (case' h3 => try k_search 14))
  | ((with_reducible apply SlcD.row); (case' hm => k_search 11); (case' hx => first | exact .inl rfl | exact .inr rfl); (case' hl => try k_search 14); (case' hy => try omega); (case' e => try omega); (case' h0 => try omega); (case' h2 => try omega); (case' h3 => try omega))
  | ((with_reducible apply StD.own); (case' hm => k_search 11); (case' hx => first | (with_reducible rfl) | exact rfl); (case' h0 => try omega); (case' h1 => try k_search 14))
  | ((with_reducible apply StD.row); (case' hm => k_search 11); (case' hy => try omega); (case' h0 => try omega); (case' h2 => try omega))
  | ((with_reducible apply OpD.inP); (case' q => k_search 12); (case' h => exact rfl); (case' g => exact rfl))
  | ((with_reducible apply OpD.inN); (case' q => k_search 12); (case' h => exact rfl); (case' g => exact rfl))
  | ((with_reducible refine W.dgetT ?_))
  | ((with_reducible apply dputT_i); (case' hm => k_search 11); (case' hn => try omega))
  | ((with_reducible apply dgetT_i); (case' hm => k_search 10))
  | ((with_reducible apply OpD.repB); (case' hl => try k_search 14))
  | ((with_reducible refine LcE.mk ?_); first | exact trivial | omega | skip)
  | ((with_reducible apply LcP.mk); (case' it => try k_search 47); (case' len => (try k_search 14)); (case' need => (try first | exact trivial | k_search 12 | exact ⟨by k_search 12, by k_search 12⟩)))
  | (with_reducible refine LcKO.int ?_)
  | (with_reducible refine LcKO.tI ?_)
  | (with_reducible refine LcKO.any ?_)
  | ((with_reducible apply LcPO.mk); (case' it => try k_search 47); (case' len => (try k_search 14)); (case' need => (try first | exact trivial | k_search 12 | exact ⟨by k_search 12, by k_search 12⟩)))
  | ((with_reducible apply LcGO.mk); (case' it => try k_search 47); (case' len => (try k_search 14)); (case' need => (try first | exact trivial | k_search 12 | exact ⟨by k_search 12, by k_search 12⟩)))
  | ((with_reducible apply OpD.eqNilE); (case' c => (refine .own ?_; k_search 10)))
  | ((with_reducible apply OpD.neNilE); (case' c => (refine .own ?_; k_search 10)))
  | ((with_reducible apply OpD.eqNilI); (case' c => first | exact .self | (refine .own ?_; k_search 10)))
  | ((with_reducible apply OpD.neNilI); (case' c => first | exact .self | (refine .own ?_; k_search 10)))
  | ((with_reducible apply CbD.sumS); (case' q => k_search 12); (case' hl => exact rfl))
  | ((with_reducible apply OpD.repOwn); (case' e => k_search 46); (case' h0 => omega); (case' h1 => omega))
  | ((with_reducible apply CbD.listOwn); first | (case' q => k_search 12) | k_search 12)
  | ((with_reducible apply W.mv); (case' h => exact rfl); (case' hm => k_search 44))
  | ((with_reducible apply W.mvN); (case' h => exact rfl))
  | ((with_reducible apply MtD.clear); (case' hm => k_search 11))
  | ((with_reducible refine AllM.mk (fun A => ?_)))
  | ((with_reducible refine AllR.mk (fun r => ?_)))
  | ((with_reducible show Pk _ _); k_search 56)
  | ((with_reducible apply OpD.rep1); (case' e => k_search 46); (case' h0 => omega); (case' h1 => omega))
  | ((with_reducible apply OpD.repM); (case' e => k_search 46); (case' h0 => omega); (case' h1 => omega); (case' hl => try k_search 14))
  | ((with_reducible apply OpD.repT1); (case' e => k_search 46); (case' h0 => omega); (case' h1 => omega))
  | (with_reducible refine back_i ?_)
  | (with_reducible apply BackD.tup)
  | ((with_reducible apply BackD.lst); (case' q => k_search 12); (case' hb => rfl))
  | ((with_reducible apply SlD.tupR2 rfl); (case' h0 => try omega); (case' h2 => try omega); (case' h3 => try omega))
  | ((with_reducible apply SlD.tupR3 rfl); (case' h0 => try omega); (case' h2 => try omega); (case' h3 => try omega))
  | ((with_reducible apply SlD.tupR rfl); (case' h0 => try omega); (case' h2 => try omega); (case' h3 => try omega))
  | ((with_reducible apply CbD.minF); (case' h0 => k_search 14))
  | ((with_reducible apply CbD.maxF); (case' h0 => k_search 14))
  | ((with_reducible apply MtD.appendM); (case' hm => k_search 11); (case' hy => first | (with_reducible rfl) | exact rfl); (case' hl => try k_search 14))
  | ((with_reducible apply MtD.extE); (case' hm => k_search 11); (case' hy => first | exact .inl rfl | exact .inr rfl); (case' hl => try k_search 14))
  | ((with_reducible apply MtD.extM); (case' hm => k_search 11); (case' hy => first | exact .inl rfl | exact .inr rfl); (case' hl => try k_search 14))
  | ((with_reducible apply SlD.lstM); (case' q => k_search 12); (case' hb => rfl); (case' h0 => try omega); (case' h1 => try omega); (case' h2 => try k_search 14))
  | ((with_reducible apply SlD.tupM); (case' h0 => try omega); (case' h1 => try omega); (case' h2 => try k_search 14); (case' h3 => try k_search 14))
  | ((with_reducible apply SlD.anyM); (case' q => k_search 12); (case' h0 => try omega); (case' h1 => try omega); (case' h2 => try k_search 14); (case' h3 => try k_search 14))
  | ((with_reducible refine prp (fun y (hy : y = D.lst _ ∨ y = D.tup _) => ?_)); rcases hy with rfl | rfl)
  | ((with_reducible apply LcG.mk); (case' it => try k_search 47); (case' len => (try k_search 14)); (case' need => (try first | exact trivial | k_search 12 | exact ⟨by k_search 12, by k_search 12⟩)))
  | ((with_reducible apply LcF.mk); (case' it => try k_search 47); (case' len => (try k_search 14)); (case' need => (try first | exact trivial | k_search 12 | exact ⟨by k_search 12, by k_search 12⟩)))
  | ((with_reducible apply LcI.mk); (case' me => rfl); (case' it => try k_search 47); (case' need => (try first | exact trivial | k_search 12 | exact ⟨by k_search 12, by k_search 12⟩)); (case' len => try (first | k_search 30 | k_search 14 | (have hq := hw _ ha; omega))))
  | ((with_reducible apply LcH.mk); (case' it => try k_search 47); (case' len => (try k_search 14)); (case' need => (try first | exact trivial | k_search 12 | exact ⟨by k_search 12, by k_search 12⟩)))
  | ((with_reducible apply ForU.mk); (case' it => try k_search 47); (case' start => k_search 16); (case' need => (try first | exact trivial | k_search 12 | exact ⟨by k_search 12, by k_search 12⟩)))
  | ((with_reducible apply ForG.mk); (case' it => try k_search 47); (case' need => (try first | exact fun _ _ _ => trivial | exact fun _ _ _ => .lst _ | exact fun _ _ _ => .tup _ | exact fun _ _ _ => ⟨.tup _, .tup _⟩ | exact fun _ _ _ => ⟨.tup _, .tup _, .tup _⟩ | exact fun _ _ _ => ⟨.lst _, .lst _⟩))))
local macro_rules | `(tactic| k_search 9) => `(tactic| first
  | k_search 62
  | ((with_reducible apply W.lcG); (k_search 13))
  | ((with_reducible apply W.lcGO); (k_search 13))
  | ((with_reducible apply W.lcRI); (k_search 13))
  | ((with_reducible apply LcRI.mk); (case' it => try k_search 47); (case' len => (try k_search 14)); (case' need => (try first | exact fun _ => trivial | exact fun _ => .tup _ | exact fun _ => .lst _)))
  | ((with_reducible apply W.lcF); (k_search 13))
  | ((with_reducible apply W.lcH 64); (k_search 13); (k_search 13))
  | (with_reducible refine Fin.ws ?_)
  | ((with_reducible refine Fin.leU ?a ?b); (case a => k_search 16); (case b => k_search 49))
  | ((with_reducible refine leU ?a ?b); (case a => k_search 16); (case b => k_search 49))
  | (with_reducible refine Fin.is ?_)
  | (with_reducible refine Fin.any ?_)
  | k_search 20)
local macro_rules | `(tactic| k_search 21) => `(tactic| first
  | ((with_reducible apply OpD.ixB2); (case' q => k_search 12))
  | ((with_reducible apply OpD.ixB4); (case' q => k_search 12))
  | ((with_reducible apply OpD.ixS); (case' q => k_search 12))
  | (with_reducible refine LcK.int ?_)
  | (with_reducible refine LcK.tI ?_)
  | (with_reducible refine LcK.lI ?_)
  | (with_reducible refine LcK.fmD ?_)
  | (with_reducible refine LcK.fmI ?_)
  | (with_reducible refine LcK.any ?_))
local macro_rules | `(tactic| k_search 23) => `(tactic| first
  | ((with_reducible refine OpD.neS .self .self ?e ?p ?_); (case e => (simp only [*]; done)); (case p => k_search 15))
  | ((with_reducible refine OpD.eqS .self .self ?e ?p ?_); (case e => (simp only [*]; done)); (case p => k_search 15))
  | k_search 51)
local macro_rules | `(tactic| k_search 6) => `(tactic| repeat' (first | k_search 68 | k_search 8 | k_search 7 | k_search 73 | (with_reducible refine S.ite ?_) | k_search 58 | (with_reducible refine W.ite ?_) | k_search 21 | k_search 54 | k_search 9 | k_search 23))
local macro_rules | `(tactic| k_search 63) => `(tactic| repeat ((fail_if_success (with_reducible refine S.seq ?_)); (first | k_search 69 | k_search 73 | (with_reducible refine S.ite ?_) | k_search 58 | (with_reducible refine W.ite ?_) | k_search 21 | k_search 54 | k_search 8 | k_search 9 | k_search 23)))
local macro_rules | `(tactic| k_search 25) => `(tactic| repeat' (first | k_search 68 | k_search 73 | (with_reducible refine S.ite ?_) | k_search 58 | (with_reducible refine W.ite ?_) | k_search 21 | k_search 8))

local macro_rules | `(tactic| k_search 40) => `(tactic| ((simp only [List.lookup, putD, beq_self_eq_true, if_true, if_false, ite_true, ite_false]); first | done | exact rfl))
set_option hygiene false in
local macro_rules | `(tactic| k_search 50) => `(tactic| (with_reducible refine W.cst T.v_BESIDE ?_))
set_option hygiene false in
local macro_rules | `(tactic| k_search 65) => `(tactic| (with_reducible refine W.bmC T.q_BESIDE T.v_BESIDE ?_))
set_option hygiene false in
local macro_rules | `(tactic| k_search 50) => `(tactic| (with_reducible refine W.cR (a := T.g_FORMS) ?_))

/-! ### the draws of the law -/
theorem ok__law_begin {P : Program} {w : World} {K : PySem.W.Frag} {mg : Str → Option Value} {base : Heap} (T : Tx K mg w) : FnOk P w K mg base (L2.CX P w) 1 T.d__law_begin.f T.d__law_begin.fd ["_law_script"] (lift K SpBegin) := by
  refine def_ok T.d__law_begin.F sc__law_begin (fun xs M Φ Ψ h => by cases h <;> rfl) fun cdv A outer s H E hr => ⟨_, (pss_one (ps_ret (pe_disp (pps_cons pe_str pe_int (pps_cons pe_str pe_int (pps_cons pe_str (pe_callTy (q_list K) (by rfl) T.n_list b_list (pa_cons (pv 0) pa_nil)) pps_nil))) (by rfl) (by rfl) (fun z => by cases z) (by decide)))), fun xs M Φ Ψ h => ?_⟩
  obtain ⟨ns, hl, k⟩ := h
  k_search 5
  k_search 4
  refine W.dispW ?_
  refine WPs.cons ?_
  k_search 4
  refine WPs.cons ?_
  k_search 4
  refine WPs.cons ?_
  k_search 4
  refine WPs.nil ?_
  exact ⟨0, 0, _, rfl, by omega, by omega, hl, fun p => Wk.self (k p)⟩
theorem ix_ints {xs : List Int} {i : Int} (h0 : 0 ≤ i) (h : i < xs.length) : (xs.map D.int)[i.toNat]? = some (.int (xs.getD i.toNat 0)) := map_at h0 h
theorem cm_ints (ns : List Int) : (D.lst (ns.map D.int)).cm = true := (Pln.lstM fun _ _ => Pln.int _).cm
theorem eq_nil (xs : List D) : eqD (.lst xs) (.lst []) = decide (xs = []) := by
  cases xs <;> simp [eqD, D.py, D.pyL, PyData.eqv, PyData.eqvAll]
theorem ok__law_more {P : Program} {w : World} {K : PySem.W.Frag} {mg : Str → Option Value} {base : Heap} (T : Tx K mg w) : FnOk P w K mg base (L2.CX P w) 1 T.d__law_more.f T.d__law_more.fd ["_law_state"] (lift K SpMore) := by
  refine def_ok T.d__law_more.F sc__law_more (fun xs M Φ Ψ h => by cases h <;> rfl) fun cdv A outer s H E hr => ⟨_, (pss_cons (ps_set (i := 1) sc__law_more.nd rfl (Or.inl rfl) (pe_dget (hu_of hr) (pv 0) pe_str (fun _ _ => rfl)))
  (pss_cons (ps_dput (hu_of hr) (pv 0) pe_str (pe_op (q_add K) (pv 1) pe_int) rfl)
  (pss_cons (ps_set (i := 2) sc__law_more.nd rfl (Or.inl rfl) (pe_dget (hu_of hr) (pv 0) pe_str (fun _ _ => rfl)))
  (pss_cons (ps_set (i := 3) sc__law_more.nd rfl (Or.inl rfl) (pe_ifExp (pt_cmpR (q_ne K (hu64 hr)) (pv 2) (pe_lst pa_nil) (nomark _)) (pe_callB q_abs (by rfl) T.n_abs b_abs (pa_cons (pe_ix (q_ix K) (pv 2) (pe_op q_mod (pv 1) (pe_callB (q_len K) (by rfl) T.n_len b_len (pa_cons (pv 2) pa_nil))) (fun _ _ => rfl)) pa_nil)) pe_int))
  (pss_cons (ps_if (PW.pt (pw_and (pt_cmpR q_lt (pv 1) (pe_callB (q_len K) (by rfl) T.n_len b_len (pa_cons (pv 2) pa_nil)) (nomark _)) (pw_and1 (pt_cmpR q_ge (pv 3) (pe_op q_pow pe_int pe_int) (nomark _)))))
  (pss_one (ps_ret (pe_op q_sub (pv 3) (pe_op q_pow pe_int pe_int))))
  pss_nil)
  (pss_cons (ps_set (i := 4) sc__law_more.nd rfl (Or.inl rfl) pe_int)
  (pss_cons (ps_set (i := 5) sc__law_more.nd rfl (Or.inl rfl) (pe_lst (pa_cons pe_int (pa_cons pe_int (pa_cons pe_int (pa_cons pe_int (pa_cons pe_int (pa_cons pe_int (pa_cons pe_int (pa_cons pe_int pa_nil))))))))))
  (pss_cons (ps_for own_of rfl (q_enum K (by rfl) T.n_enumerate (pa_cons (pv 5) pa_nil)) (q_gseq K (n := 2) rfl (pgs_cons (pg_name (i := 6) sc__law_more.nd rfl (Or.inl rfl)) (pgs_cons (pg_name (i := 7) sc__law_more.nd rfl (Or.inl rfl)) pgs_nil)))
  (pss_cons (ps_set (i := 8) sc__law_more.nd rfl (Or.inl rfl) (pe_op q_mod (pe_op (q_add K) (pe_op (q_add K) (pe_op (q_mul K) (pe_op q_mod (pv 3) (pv 7)) pe_int) (pe_op (q_mul K) pe_int (pe_op (q_add K) (pv 1) pe_int))) (pe_op (q_mul K) (pe_op (q_mul K) pe_int (pv 6)) (pv 6))) (pv 7)))
  (pss_cons (ps_set (i := 8) sc__law_more.nd rfl (Or.inl rfl) (pe_op q_mod (pe_op (q_add K) (pe_op (q_add K) (pe_op (q_mul K) (pv 8) (pv 8)) (pe_op (q_mul K) pe_int (pv 1))) (pv 6)) (pv 7)))
  (pss_one (ps_set (i := 4) sc__law_more.nd rfl (Or.inl rfl) (pe_op (q_add K) (pe_op (q_mul K) (pv 4) pe_int) (pe_op q_mod (pe_op (q_mul K) (pv 8) (pe_op (q_add K) (pe_op (q_add K) (pv 8) (pv 6)) pe_int)) (pv 7))))))))
  (pss_one (ps_ret (pv 4))))))))))), fun xs M Φ Ψ h => ?_⟩
  obtain ⟨p, hm, k⟩ := h
  k_search 5
  k_search 4
  refine W.dgetW ?_
  k_search 4
  refine ⟨_, rfl, hm, .at_ fun at_ h2 => ?_⟩
  k_search 4
  refine S.dputW ?_
  k_search 4
  refine ⟨_, rfl, hm, .at_ (by omega), ?_⟩
  k_search 4
  refine W.dgetW ?_
  k_search 4
  refine ⟨_, rfl, hm, .cells fun cells h3 => ?_⟩
  iterate 3 k_search 2
  refine W.mono (Φ := fun x M1 => M1 = M ∧ ∃ c : Int, x = .int c ∧ 0 ≤ c) ?_ ?_
  · k_search 2
    k_search 4
    refine OpD.ne (cm_ints _) (by decide +kernel) ?_
    rw [eq_nil]
    k_search 4
    refine twoN (fun hc => ?_) (fun hc => ?_)
    · k_search 4
      have hne : 0 < cells.length := by
        cases cells with
        | nil => exact absurd rfl hc
        | cons _ _ => simp
      refine OpD.mod (by omega) ?_
      have m0 : 0 ≤ at_ % (cells.length : Int) := Int.emod_nonneg _ (by omega)
      have m1 : at_ % (cells.length : Int) < cells.length := Int.emod_lt_of_pos _ (by omega)
      refine OpD.ixN (y := .int (cells.getD (at_ % (cells.length : Int)).toNat 0)) (.lst _) m0 (ix_ints m0 m1) ?_
      k_search 4
      refine ⟨rfl, _, rfl, ?_⟩
      split <;> omega
    · k_search 4
      exact ⟨rfl, 0, rfl, by omega⟩
  rintro x M1 ⟨rfl, c, rfl, hc⟩
  iterate 2 k_search 2
  refine S.iteP (fun b M2 => M2 = M1 ∧ (b = true → 1000000000000000000 ≤ c)) ?_ ?_ ?_
  · k_search 4
    refine two (fun hk => ?_) (fun hk => ⟨rfl, fun h => Bool.noConfusion h⟩)
    k_search 4
    exact ⟨rfl, fun h => of_decide_eq_true h⟩
  · rintro M2 ⟨rfl, hd⟩
    k_search 4
    have := hd rfl
    exact Wk.self (k _ (by omega))
  rintro M2 ⟨rfl, _⟩
  k_search 1
  k_search 4
  refine S.forI (σ := Int) (fun n => [some (.ref p), some (.int at_), some (.lst (cells.map D.int)), some (.int c), some (.int n), some (.lst [.int 2147483629, .int 2147483587, .int 2147483579, .int 2147483563, .int 2147483549, .int 2147483543, .int 2147483497, .int 2147483489]), none, none, none]) (fun _ => M2) (fun _ n => 0 ≤ n) ?_
  refine WI.enumL ?_
  k_search 4
  refine ⟨_, _, rfl, .lst _, rfl, ⟨1, by omega, ?_, by k_search 49⟩, fun _ _ _ _ => .lst _, ?_, ?_⟩
  · k_search 16
  · rintro i x n hx hn
    obtain ⟨z, hz, rfl⟩ := enumD_get hx
    have hi : i < 8 := (List.getElem?_eq_some_iff.mp hz).1
    obtain ⟨pr, hp0, hp1, rfl⟩ : ∃ pr : Int, 0 < pr ∧ pr < 2147483648 ∧ z = .int pr := by
      have h8 : ∀ z ∈ [D.int 2147483629, D.int 2147483587, D.int 2147483579, D.int 2147483563, D.int 2147483549, D.int 2147483543, D.int 2147483497, D.int 2147483489], ∃ pr : Int, 0 < pr ∧ pr < 2147483648 ∧ z = .int pr := by
        intro z hz
        simp only [List.mem_cons, List.not_mem_nil, or_false] at hz
        rcases hz with rfl | rfl | rfl | rfl | rfl | rfl | rfl | rfl <;> exact ⟨_, by decide, by decide, rfl⟩
      exact h8 z (List.mem_of_getElem? hz)
    have q0 : 0 ≤ c % pr := Int.emod_nonneg _ (by omega)
    have q1 : c % pr < pr := Int.emod_lt_of_pos _ hp0
    clear hx hz
    k_search 4
    generalize ho : (c % pr * 48271 + 1103515245 * (at_ + 1) + 40503 * (i : Int) * (i : Int)) % pr = one
    have o0 : 0 ≤ one := by rw [← ho]; exact Int.emod_nonneg _ (by omega)
    have o1 : one < pr := by rw [← ho]; exact Int.emod_lt_of_pos _ hp0
    clear ho q0 q1
    k_search 4
    generalize ho : (one * one + 11 * at_ + (i : Int)) % pr = on2
    have r0 : 0 ≤ on2 := by rw [← ho]; exact Int.emod_nonneg _ (by omega)
    have r1 : on2 < pr := by rw [← ho]; exact Int.emod_lt_of_pos _ hp0
    clear ho o0 o1
    k_search 4
    refine .mk' (n * 2147483647 + on2 * (on2 + (i : Int) + 1) % pr) ?_ ?_ (by k_search 49)
    · have t0 : 0 ≤ on2 * (on2 + (i : Int) + 1) % pr := Int.emod_nonneg _ (by omega)
      omega
    · k_search 16
  · intro n hn ρ' l
    refine WS.le l ?_
    k_search 4
    exact Wk.self (k _ hn)
theorem ok__law_next {P : Program} {w : World} {K : PySem.W.Frag} {mg : Str → Option Value} {base : Heap} (T : Tx K mg w) : FnOk P w K mg base (L2.CX P w) 2 T.d__law_next.f T.d__law_next.fd ["_law_state", "_law_most"] (lift K SpNext) := by
  refine def_ok T.d__law_next.F sc__law_next (fun xs M Φ Ψ h => by cases h <;> rfl) fun cdv A outer s H E hr => ⟨_, (pss_cons (ps_if (pt_cmpR (q_eq K (hu64 hr)) (pe_dget (hu_of hr) (pv 0) pe_str (fun _ _ => rfl)) pe_int (nomark _))
  (pss_one (ps_dput (hu_of hr) (pv 0) pe_str (pe_callSD (ok__law_more T) (hr.mono (by decide)) (by rfl) T.d__law_more.g T.d__law_more.F.kp T.d__law_more.b .nil (fun σ => pass_of) (pa_cons (pv 0) pa_nil)) rfl))
  pss_nil)
  (pss_cons (ps_set (i := 2) sc__law_next.nd rfl (Or.inl rfl) (pe_op q_mod (pe_dget (hu_of hr) (pv 0) pe_str (fun _ _ => rfl)) (pv 1)))
  (pss_cons (ps_daug (hu_of hr) (pv 0) pe_str (pv 1) q_ifdiv (fun _ _ _ => rfl))
  (pss_one (ps_ret (pv 2)))))), fun xs M Φ Ψ h => ?_⟩
  obtain ⟨p, m, hm, h0, h1, k⟩ := h
  k_search 5
  refine S.seq ?_
  refine S.toN (σ := Unit) (fun _ => [some (.ref p), some (.int m), none]) (fun _ => M) (fun _ => True) ?_ ?_
  · k_search 4
    refine W.dgetW ?_
    k_search 4
    refine ⟨_, rfl, hm, .left fun l h2 => ?_⟩
    k_search 4
    refine two (fun hk => ?_) (fun hk => ?_)
    · refine S.dputW ?_
      k_search 4
      · exact hm
      intro n hn
      k_search 4
      refine ⟨_, rfl, hm, .left hn, ?_⟩
      exact .mk' () trivial (by k_search 16) (by k_search 49)
    · k_search 4
      exact .mk' () trivial (by k_search 16) (by k_search 49)
  rintro _ -
  refine Fin.ws ?_
  k_search 4
  refine W.dgetW ?_
  k_search 4
  refine ⟨_, rfl, hm, .left fun l h2 => ?_⟩
  k_search 4
  refine S.daugW ?_
  k_search 4
  refine ⟨_, rfl, hm, .left fun l' h2' => ?_⟩
  k_search 4
  refine ⟨hm, .left (Int.ediv_nonneg h2' (by omega)), ?_⟩
  k_search 4
  exact Wk.self (k _ (Int.emod_nonneg _ (by omega)) (Int.emod_lt_of_pos _ h0))
theorem ok__law_pick {P : Program} {w : World} {K : PySem.W.Frag} {mg : Str → Option Value} {base : Heap} (T : Tx K mg w) : FnOk P w K mg base (L2.CX P w) 3 T.d__law_pick.f T.d__law_pick.fd ["_law_state", "_law_some"] (lift K SpPick) := by
  refine def_ok T.d__law_pick.F sc__law_pick (fun xs M Φ Ψ h => by cases h <;> rfl) fun cdv A outer s H E hr => ⟨_, (pss_one (ps_ret (pe_ix (q_ix K) (pv 1) (pe_callSD (ok__law_next T) (hr.mono (by decide)) (by rfl) T.d__law_next.g T.d__law_next.F.kp T.d__law_next.b .nil (fun σ => pass_of) (pa_cons (pv 0) (pa_cons (pe_callB (q_len K) (by rfl) T.n_len b_len (pa_cons (pv 1) pa_nil)) pa_nil))) (fun _ _ => rfl)))), fun xs M Φ Ψ h => ?_⟩
  obtain ⟨p, x, ys, hm, hs, h0, h1, k⟩ := h
  k_search 5
  k_search 4
  · exact hm
  · omega
  · omega
  intro n hn hn'
  exact OpD.ixE hs hn hn' fun y hy => Wk.self (k y hy)

/-! ### sizes -/
def isWh (x : D) (lo hi : Int) : Bool := match x with
  | .int i => decide (lo ≤ i ∧ i ≤ hi)
  | _ => false
inductive SpWhole : SpD
  | int (i lo hi : Int) {M : Mem} {Φ : D → Mem → Prop} {Ψ : Ex → Mem → Prop} (k : Φ (.bl (decide (lo ≤ i ∧ i ≤ hi))) M) : SpWhole [.int i, .int lo, .int hi] M Φ Ψ
  | mk (x : D) (lo hi : Int) (n : String) {M : Mem} {Φ : D → Mem → Prop} {Ψ : Ex → Mem → Prop} (hn : x.tn = some n) (k : Φ (.bl (isWh x lo hi)) M) : SpWhole [x, .int lo, .int hi] M Φ Ψ
theorem ok_is_whole {P : Program} {w : World} {K : PySem.W.Frag} {mg : Str → Option Value} {base : Heap} (T : Tx K mg w) : FnOk P w K mg base (L2.CX P w) 1 T.d_is_whole.f T.d_is_whole.fd ["thing", "least", "most"] (lift K SpWhole) := by
  refine def_ok T.d_is_whole.F sc_is_whole (fun xs M Φ Ψ h => by cases h <;> rfl) fun cdv A outer s H E hr => ⟨_, (pss_one (ps_ret (pe_and (pe_callB (q_isinstance K) (by rfl) T.n_isinstance b_isinstance (pa_cons (pv 0) (pa_cons (pe_bltn (v := .ty "int") (by rfl) T.n_int b_int rfl) pa_nil))) (pe_and (pe_not (pe_callB (q_isinstance K) (by rfl) T.n_isinstance b_isinstance (pa_cons (pv 0) (pa_cons (pe_bltn (v := .ty "bool") (by rfl) T.n_bool b_bool rfl) pa_nil)))) (pe_one (pe_chain q_le q_le (pv 1) (pv 0) (pv 2))))))), fun xs M Φ Ψ h => ?_⟩
  obtain ⟨x, lo, hi, n, rfl, hn, k⟩ : ∃ x lo hi n, xs = [x, .int lo, .int hi] ∧ x.tn = some n ∧ Φ (.bl (isWh x lo hi)) M := by
    rcases h with ⟨_, _, _, k⟩ | ⟨_, _, _, _, hn, k⟩
    · exact ⟨_, _, _, "int", rfl, rfl, k⟩
    · exact ⟨_, _, _, _, rfl, hn, k⟩
  k_search 5
  k_search 4
  refine CbD.isi (.inl hn) (kit_int hn) ?_
  k_search 4
  refine two' (fun h1 => ?_) (fun h1 => ?_)
  · k_search 4
    refine CbD.isi (.inl hn) (kit_bool hn) ?_
    k_search 4
    refine two' (fun h2 => ?_) (fun h2 => ?_)
    · cases x with
      | int i =>
        k_search 4
        refine two (fun h3 => ?_) (fun h3 => ?_)
        · k_search 4
          have e : isWh (.int i) lo hi = decide (i ≤ hi) := by
            show decide (lo ≤ i ∧ i ≤ hi) = decide (i ≤ hi)
            simp [h3]
          rw [← e]
          exact Wk.self k
        · have e : isWh (.int i) lo hi = false := decide_eq_false fun h => h3 h.1
          rw [← e]
          exact Wk.self k
      | _ => first | (exact Bool.noConfusion h1) | (exact Bool.noConfusion h2)
    · cases x with
      | bl b => exact Wk.self k
      | _ => first | (exact Bool.noConfusion h1) | (exact Bool.noConfusion h2)
  · cases x with
    | int i => exact Bool.noConfusion h1
    | bl i => exact Bool.noConfusion h1
    | _ => exact Wk.self k

def tyI (m : String) (x : D) : Bool := match x.tn with
  | some n => isK n m
  | none => false
theorem isiF {K : PySem.W.Frag} {M : Mem} {Φ : D → Mem → Prop} {x : D} {m : String} (h : x.tn.isSome = true) (hm : m ∈ tnames) (k : Φ (.bl (tyI m x)) M) : CbD K (cIsi K) [x, .ty m] M Φ := by
  obtain ⟨n, hn⟩ := Option.isSome_iff_exists.mp h
  unfold tyI at k
  rw [hn] at k
  exact .isiK (.inl hn) hm k
/-! ### any data -/
theorem okD_tn {x : D} (h : okD x) : x.tn.isSome = true := by cases x <;> first | rfl | (simp only [okD] at h)
theorem okDs_mem : ∀ {xs : List D}, okDs xs → ∀ y ∈ xs, okD y
  | [], _, _, m => by cases m
  | x :: xs, h, y, m => by
    simp only [okDs] at h
    rcases List.mem_cons.mp m with rfl | m
    · exact h.1
    · exact okDs_mem h.2 y m
theorem okDs_tn {xs : List D} {y : D} (m : y ∈ xs) (h : okDs xs) : y.tn.isSome = true := okD_tn (okDs_mem h _ m)
theorem okDs_of : ∀ {xs : List D}, (∀ y ∈ xs, okD y) → okDs xs
  | [], _ => by simp only [okDs]
  | x :: xs, h => by
    simp only [okDs]
    exact ⟨h _ List.mem_cons_self, okDs_of fun y m => h y (List.mem_cons_of_mem _ m)⟩
theorem szDs_mem : ∀ {xs : List D} {y : D}, y ∈ xs → szD y + 2 ≤ szDs xs
  | x :: xs, y, m => by
    simp only [szDs]
    rcases List.mem_cons.mp m with rfl | m
    · omega
    · have := szDs_mem m
      omega
theorem szDs_len : ∀ xs : List D, 2 * xs.length ≤ szDs xs
  | [] => by simp [szDs]
  | x :: xs => by
    have := szDs_len xs
    simp only [szDs, List.length_cons]
    omega
theorem szDs_lt {xs : List D} (h : szDs xs ≤ 50000) : xs.length < 100000 := by
  have := szDs_len xs
  omega
theorem dpDs_mem : ∀ {xs : List D} {y : D}, y ∈ xs → dpD y ≤ dpDs xs
  | x :: xs, y, m => by
    simp only [dpDs]
    rcases List.mem_cons.mp m with rfl | m
    · omega
    · have := dpDs_mem m
      omega
theorem tyI_bool {x : D} : tyI "bool" x = (match x with | .bl _ => true | _ => false) := by cases x <;> rfl
theorem tyI_tuple {x : D} (h : okD x) : tyI "tuple" x = true ↔ ∃ xs, x = .tup xs := by
  cases x <;> first
    | exact ⟨fun _ => ⟨_, rfl⟩, fun _ => rfl⟩
    | exact ⟨fun z => absurd (show isK _ _ = true from z) (by decide +kernel), fun ⟨_, z⟩ => nomatch z⟩
    | (simp only [okD] at h)
theorem tyI_str {x : D} (h : okD x) : tyI "str" x = true ↔ ∃ y, x = .str y := by
  cases x <;> first
    | exact ⟨fun _ => ⟨_, rfl⟩, fun _ => rfl⟩
    | exact ⟨fun z => absurd (show isK _ _ = true from z) (by decide +kernel), fun ⟨_, z⟩ => nomatch z⟩
    | (simp only [okD] at h)
def isTup (x : D) : Bool := match x with
  | .tup _ => true
  | _ => false
def tupL (x : D) : List D := match x with
  | .tup xs => xs
  | _ => []
def isStr (y : Str) (x : D) : Bool := match x with
  | .str z => z == y
  | _ => false
def isNon (x : D) : Bool := match x with
  | .non => true
  | _ => false
theorem tyI_isTup {x : D} (h : okD x) : tyI "tuple" x = isTup x := by
  cases x <;> first | rfl | (simp only [okD] at h; done) | exact Bool.eq_false_iff.mpr (show isK _ _ ≠ true by decide +kernel)
def isSt (x : D) : Bool := match x with
  | .str _ => true
  | _ => false
theorem tyI_isSt {x : D} (h : okD x) : tyI "str" x = isSt x := by
  cases x <;> first | rfl | (simp only [okD] at h; done) | exact Bool.eq_false_iff.mpr (show isK _ _ ≠ true by decide +kernel)
theorem tyI_tup {xs : List D} : tyI "tuple" (.tup xs) = true := rfl
theorem tyI_st {x : Str} : tyI "str" (.str x) = true := rfl
theorem isTup_not {x : D} (h : ¬ ∃ xs, x = .tup xs) : isTup x = false := by
  cases x <;> first | rfl | exact absurd ⟨_, rfl⟩ h
theorem isSt_not {x : D} (h : ¬ ∃ y, x = .str y) : isSt x = false := by
  cases x <;> first | rfl | exact absurd ⟨_, rfl⟩ h
theorem isStr_isSt {x : D} {y : Str} (h : isSt x = false) : isStr y x = false := by
  cases x <;> first | rfl | exact Bool.noConfusion h
theorem wkE {Φ : D → Mem → Prop} {M : Mem} {b b' : Bool} (k : Φ (.bl b) M) (e : b = b') : Wk Φ (.bl b') M := e ▸ Wk.self k
theorem SpWhole.tnS {x : D} {lo hi : Int} {M : Mem} {Φ : D → Mem → Prop} {Ψ : Ex → Mem → Prop} (h : x.tn.isSome = true) (k : Φ (.bl (isWh x lo hi)) M) : SpWhole [x, .int lo, .int hi] M Φ Ψ := by
  obtain ⟨n, hn⟩ := Option.isSome_iff_exists.mp h
  exact .mk _ _ _ n hn k
theorem isN_isNon {x : D} : x.isN = isNon x := by cases x <;> rfl
def short2 (xs : List D) : Bool := match xs with
  | [] => true
  | [_] => true
  | [_, _] => true
  | _ => false
theorem short2_t {xs : List D} (h : (xs.length : Int) ≤ 2) : short2 xs = true := by
  match xs, h with
  | [], _ => rfl
  | [_], _ => rfl
  | [_, _], _ => rfl
  | _ :: _ :: _ :: _, h => simp only [List.length_cons] at h; omega
theorem short2_f {xs : List D} (h : (2 : Int) < xs.length) : short2 xs = false := by
  match xs, h with
  | [], h => simp at h
  | [_], h => simp at h
  | [_, _], h => simp at h
  | _ :: _ :: _ :: _, _ => rfl
theorem isTup_t {xs : List D} : isTup (.tup xs) = true := rfl
theorem tupL_t {xs : List D} : tupL (.tup xs) = xs := rfl
theorem bent_put {xs : List D} {n : Nat} {z : Int} {x new : D} (hx : FineL 10000 n xs) (h : xs[z.toNat]? = some x) (z0 : 0 ≤ z) (hz : z < xs.length) (hn : okD new) (hs : szD new ≤ 2 * szD x + 97 ∨ szD new ≤ 60) (hd : dpD new ≤ n + 1) :
    FineL (2 * szDs xs + 100) (n + 1) (cutD xs none (some z) ++ [new] ++ cutD xs (some (z + 1)) none) ∧ xs.length ≤ (cutD xs none (some z) ++ [new] ++ cutD xs (some (z + 1)) none).length + 1 := by
  have e1 : cutD xs none (some z) = xs.take z.toNat := by
    have := cutD_to (xs := xs) (n := z.toNat) (by omega)
    rwa [show ((z.toNat : Nat) : Int) = z by omega] at this
  have e2 : cutD xs (some (z + 1)) none = xs.drop (z.toNat + 1) := by
    have := cutD_from (xs := xs) (n := z.toNat + 1) (by omega)
    rwa [show ((z.toNat + 1 : Nat) : Int) = z + 1 by omega] at this
  rw [e1, e2]
  have q := szDs_at h
  have t := hx.take z.toNat
  have d := hx.drop (z.toNat + 1)
  refine ⟨⟨okDs_app (okDs_app t.ok (by simp only [okDs]; exact ⟨hn, trivial⟩)) d.ok, ?_, ?_⟩, ?_⟩
  · rw [szDs_app, szDs_app]
    simp only [szDs]
    omega
  · rw [dpDs_app, dpDs_app]
    simp only [dpDs]
    have := t.dp
    have := d.dp
    omega
  · simp only [List.length_append, List.length_take, List.length_drop, List.length_cons, List.length_nil]
    omega
theorem int_ok {i : Int} (h : i.natAbs < 1000000) : okD (.int i) ∧ szD (.int i) ≤ 13 := by
  simp only [okD, szD]
  refine ⟨Nat.lt_of_lt_of_le (PySem.Flt.log2_lt_of (k := 64) (by decide) (by omega)) (by decide), ?_⟩
  have := PyData.shown_int_le (i := i) (by omega)
  simpa only [PyData.shown] using this
theorem ints_ok : ∀ {rs : List Int}, (∀ r ∈ rs, r.natAbs < 1000000) → okDs (rs.map D.int) ∧ szDs (rs.map D.int) ≤ 15 * rs.length ∧ dpDs (rs.map D.int) = 0
  | [], _ => by simp [okDs, szDs, dpDs]
  | r :: rs, h => by
    obtain ⟨h1, h2⟩ := int_ok (h r List.mem_cons_self)
    obtain ⟨h3, h4, h5⟩ := ints_ok fun x m => h x (List.mem_cons_of_mem _ m)
    simp only [List.map_cons, okDs, szDs, dpDs, List.length_cons, h5, dpD]
    exact ⟨⟨h1, h3⟩, by omega, rfl⟩

abbrev Vc := Option (Int × Int)
abbrev pD (v : Int × Int) : D := .tup [.int v.1, .int v.2]
def kdOf (m : Nat) : Str := if m = 0 then "flat" else if m = 1 then "left" else if m = 2 then "above" else "slope"
theorem zix_get {α : Type} {cs : List α} {i : Nat} {a : α × Nat} (h : cs.zipIdx[i]? = some a) : ∃ c, cs[i]? = some c ∧ a = (c, i) := by
  rw [List.getElem?_zipIdx] at h
  cases e : cs[i]? with
  | none => rw [e] at h; cases h
  | some c =>
    rw [e] at h
    refine ⟨c, rfl, ?_⟩
    have := Option.some.inj h
    rw [← this, Nat.zero_add]
theorem SlD.tupN {K : PySem.W.Frag} {M : Mem} {Φ : D → Mem → Prop} {xs : List D} {lo hi : Option Int} {n : Nat} (hl : xs.length = n) (hw : ¬ (HT.sIx n 0 lo = 0 ∧ HT.sIx n n hi = n)) (h : Φ (.tup (cutD xs lo hi)) M) : SlD K (sSeq K) (.tup xs) lo hi M Φ := SlD.tup (by rw [hl]; exact hw) h
inductive Ch where
  | bes (m : Nat) (rs : List Int)
  | as (r : Nat)
  | mov (r : Nat) (v : Int × Int) (rs : List Int)
  | both (v u : Int × Int) (rs : List Int)
def chD : Ch → D
  | .bes m rs => .tup [.str (kdOf m), tI rs]
  | .as r => .tup [.str "as", .int r]
  | .mov r v rs => .tup [.str "moved", .int r, pD v, tI rs]
  | .both v u rs => .tup [.str "both", pD v, pD u, tI rs]
def ChOk (reads : Nat) : Ch → Prop
  | .bes m rs => m < 4 ∧ rs.length = 16
  | .as r => r < reads
  | .mov r _ rs => r < reads ∧ rs.length = 16
  | .both _ _ rs => reads = 2 ∧ rs.length = 16
/-- the vector of a choice -/
def fvC : Ch → Int × Int → Vc
  | .bes _ _, _ => none
  | .as _, g => some g
  | .mov _ v _, _ => some v
  | .both v _ _, _ => some v
theorem kd_cases {m : Nat} : kdOf m = "flat" ∨ kdOf m = "left" ∨ kdOf m = "above" ∨ kdOf m = "slope" := by
  unfold kdOf
  split
  · exact .inl rfl
  · split
    · exact .inr (.inl rfl)
    · split
      · exact .inr (.inr (.inl rfl))
      · exact .inr (.inr (.inr rfl))
def VOk (v : Int × Int) : Prop := -32 ≤ v.1 ∧ v.1 ≤ 32 ∧ -32 ≤ v.2 ∧ v.2 ≤ 32
/-- a choice's vectors -/
def ChVc : Ch → Prop
  | .mov _ v _ => VOk v
  | .both v u _ => VOk v ∧ VOk u
  | _ => True

def RsOk (rs : List Int) : Prop := rs.length = 16 ∧ ∀ a ∈ rs, -4000 ≤ a ∧ a ≤ 4000
theorem RsOk.set {rs : List Int} {n : Nat} {v : Int} (h : RsOk rs) (hv : -4000 ≤ v ∧ v ≤ 4000) : RsOk (rs.set n v) := ⟨by rw [List.length_set]; exact h.1, fun a ha => by
  rcases List.mem_or_eq_of_mem_set ha with h2 | rfl
  · exact h.2 a h2
  · exact hv⟩
def ChV (reads : Nat) : Ch → Prop
  | .bes m rs => m < 4 ∧ RsOk rs
  | .as r => r < reads
  | .mov r v rs => r < reads ∧ VOk v ∧ RsOk rs
  | .both v u rs => reads = 2 ∧ VOk v ∧ VOk u ∧ RsOk rs
def kdsN (reads : Nat) : List Str := ([["flat", "left", "above", "slope"], ["flat", "left", "above", "slope", "as", "moved"], ["flat", "left", "above", "slope", "as", "moved", "both"]] : List (List Str)).getD reads []
inductive SpKinds : SpD
  | tup (reads : Nat) {M : Mem} {Φ : D → Mem → Prop} {Ψ : Ex → Mem → Prop} (hr : reads ≤ 2) (k : Φ (.tup ((kdsN reads).map D.str)) M) : SpKinds [.int reads] M Φ Ψ
theorem ok_kinds_for {P : Program} {w : World} {K : PySem.W.Frag} {mg : Str → Option Value} {base : Heap} (T : Tx K mg w) : FnOk P w K mg base (L2.CX P w) 1 T.d_kinds_for.f T.d_kinds_for.fd ["reads"] (lift K SpKinds) := by
  refine def_ok T.d_kinds_for.F sc_kinds_for (fun xs M Φ Ψ h => by cases h <;> rfl) fun cdv A outer s H E hr => ⟨_, (pss_one (ps_ret (pe_op (q_addK K) (pe_glob (v := .ref T.g_BESIDE) (by rfl) T.c_BESIDE rfl) (pe_slice (q_slA K) (pe_tup (pa_cons pe_str (pa_cons pe_str (pa_cons pe_str pa_nil)))) po_none (po_some (pe_ix (q_ix K) (pe_lst (pa_cons pe_int (pa_cons pe_int (pa_cons pe_int pa_nil)))) (pv 0) (fun _ _ => rfl))))))), fun xs M Φ Ψ h => ?_⟩
  obtain ⟨reads, hr, k⟩ := h
  k_search 5
  have : reads = 0 ∨ reads = 1 ∨ reads = 2 := by omega
  rcases this with rfl | rfl | rfl
  · k_search 6
    refine SlD.addP ?_
    refine SlD.tupN (n := 3) rfl (by decide) ?_
    refine OpD.addP ?_
    refine OpD.add_tup (by simp) (by decide) ?_
    exact Wk.self k
  · k_search 6
    refine SlD.addP ?_
    refine SlD.tupN (n := 3) rfl (by decide) ?_
    refine OpD.addP ?_
    refine OpD.add_tup (by simp) (by decide) ?_
    exact Wk.self k
  · k_search 6
    refine SlD.tupW (n := 3) rfl (by decide) ?_
    refine OpD.addP ?_
    refine OpD.add_tup (by simp) (by decide) ?_
    exact Wk.self k
inductive SpLRest : SpD
  | mk (p : Addr) {M : Mem} {Φ : D → Mem → Prop} {Ψ : Ex → Mem → Prop} (hm : (p, O.drw) ∈ M) (k : ∀ rs : List Int, RsOk rs → Φ (tI rs) M) : SpLRest [.ref p] M Φ Ψ
theorem OpD.repOwnA {K : PySem.W.Frag} {M : Mem} {Φ : D → Mem → Prop} {a n : Int} {j : Nat} (e : n.toNat = j) (h0 : 0 ≤ n) (h1 : j ≤ 1000) (h : AllA fun p => Φ (.ref p) ((p, .lst (((List.range j).map fun _ => a).map D.int)) :: M)) : OpD K (oMul K) (.lst [.int a]) (.int n) M Φ := fun F H Mf v u Q r q s k => OpD.repOwn e h0 h1 F H Mf v u Q r q s fun v x F' H' M' hx => k v x F' H' M' (by obtain ⟨p, rfl, rfl⟩ := hx; exact h p)
section
set_option hygiene false in
local macro_rules | `(tactic| k_search 64) => `(tactic| ((with_reducible apply OpD.repOwnA); (case' e => k_search 46); (case' h0 => omega); (case' h1 => omega)))
set_option hygiene false in
local macro_rules | `(tactic| k_search 62) => `(tactic| ((with_reducible apply W.lcPO (β := Int) D.int (fun r => -4000 ≤ r ∧ r ≤ 4000)); (k_search 13)))
theorem ok__law_rest {P : Program} {w : World} {K : PySem.W.Frag} {mg : Str → Option Value} {base : Heap} (T : Tx K mg w) : FnOk P w K mg base (L2.CX P w) 4 T.d__law_rest.f T.d__law_rest.fd ["_law_state"] (lift K SpLRest) := by
  refine def_ok T.d__law_rest.F sc__law_rest (fun xs M Φ Ψ h => by cases h <;> rfl) fun cdv A outer s H E hr => ⟨_, (pss_cons (ps_par (i := 1) (j := 2) rfl sc__law_rest.nd rfl rfl (by decide) rfl rfl (pa_cons (pe_callSD (ok__law_next T) (hr.mono (by decide)) (by rfl) T.d__law_next.g T.d__law_next.F.kp T.d__law_next.b .nil (fun σ => pass_of) (pa_cons (pv 0) (pa_cons pe_int pa_nil))) (pa_cons (pe_op (q_mul K) (pe_lst (pa_cons pe_int pa_nil)) pe_int) pa_nil)) (by rfl))
  (pss_cons (ps_if (pt_cmpR (q_eq K (hu64 hr)) (pv 1) pe_int (nomark _))
  (pss_one (ps_asg (pe_callSD (ok__law_pick T) (hr.mono (by decide)) (by rfl) T.d__law_pick.g T.d__law_pick.F.kp T.d__law_pick.b .nil (fun σ => pass_of) (pa_cons (pv 0) (pa_cons (pe_lst (pa_cons pe_int (pa_cons (pe_un q_neg pe_int) (pa_cons pe_int (pa_cons (pe_un q_neg pe_int) (pa_cons pe_int (pa_cons (pe_un q_neg pe_int) (pa_cons (pe_op q_sub (pe_callSD (ok__law_next T) (hr.mono (by decide)) (by rfl) T.d__law_next.g T.d__law_next.F.kp T.d__law_next.b .nil (fun σ => pass_of) (pa_cons (pv 0) (pa_cons pe_int pa_nil))) pe_int) pa_nil)))))))) pa_nil))) (pg_sub (pv 2) (pe_callSD (ok__law_next T) (hr.mono (by decide)) (by rfl) T.d__law_next.g T.d__law_next.F.kp T.d__law_next.b .nil (fun σ => pass_of) (pa_cons (pv 0) (pa_cons pe_int pa_nil))) set_list)))
  pss_nil)
  (pss_cons (ps_if (PW.pt (pw_or (pt_cmpR (q_eq K (hu64 hr)) (pv 1) pe_int (nomark _)) (pw_or1 (pt_cmpR (q_eq K (hu64 hr)) (pv 1) pe_int (nomark _)))))
  (pss_one (ps_for own_of rfl (pi_range1 (by rfl) T.n_range (pa_cons (pe_op (q_add K) pe_int (pe_callSD (ok__law_next T) (hr.mono (by decide)) (by rfl) T.d__law_next.g T.d__law_next.F.kp T.d__law_next.b .nil (fun σ => pass_of) (pa_cons (pv 0) (pa_cons pe_int pa_nil)))) pa_nil)) (pg_name (i := 3) sc__law_rest.nd rfl (Or.inl rfl))
  (pss_one (ps_asg (pe_op q_sub (pe_callSD (ok__law_next T) (hr.mono (by decide)) (by rfl) T.d__law_next.g T.d__law_next.F.kp T.d__law_next.b .nil (fun σ => pass_of) (pa_cons (pv 0) (pa_cons pe_int pa_nil))) pe_int) (pg_sub (pv 2) (pe_callSD (ok__law_next T) (hr.mono (by decide)) (by rfl) T.d__law_next.g T.d__law_next.F.kp T.d__law_next.b .nil (fun σ => pass_of) (pa_cons (pv 0) (pa_cons pe_int pa_nil))) set_list)))))
  pss_nil)
  (pss_cons (ps_if (pt_cmpR (q_eq K (hu64 hr)) (pv 1) pe_int (nomark _))
  (pss_one (q_setO (ps_setLc (i := 2) (own := [("_law_k", 3)]) (by rfl) sc__law_rest.nd rfl rfl (sw_true rfl rfl rfl (by decide +kernel)) (pi_range1 (by rfl) T.n_range (pa_cons pe_int pa_nil)) (blkOk_by (N := ["_law_state", "_law_way", "_law_found", "_law_k"]) (sc := (defScope s__law_rest)) (by decide +kernel)) (fun _ _ _ _ _ => (pg_name (i := 3) sc__law_rest.nd rfl (Or.inl rfl))) (fun _ _ _ _ _ => pts_nil) (fun _ _ _ _ _ => (pe_op q_sub (pe_callSD (ok__law_next T) (hr.mono (by decide)) (by rfl) T.d__law_next.g T.d__law_next.F.kp T.d__law_next.b .nil (fun σ => pass_blk) (pa_cons (pv 0) (pa_cons pe_int pa_nil))) pe_int)))))
  pss_nil)
  (pss_cons (ps_if (PW.pt (pw_and (pt_cmpR (q_eq K (hu64 hr)) (pv 1) pe_int (nomark _)) (pw_and1 (pt_cmpR (q_eq K (hu64 hr)) (pe_callSD (ok__law_next T) (hr.mono (by decide)) (by rfl) T.d__law_next.g T.d__law_next.F.kp T.d__law_next.b .nil (fun σ => pass_of) (pa_cons (pv 0) (pa_cons pe_int pa_nil))) pe_int (nomark _)))))
  (pss_one (q_setO (ps_setLc (i := 2) (own := [("_law_k", 3)]) (by rfl) sc__law_rest.nd rfl rfl (sw_true rfl rfl rfl (by decide +kernel)) (pi_range1 (by rfl) T.n_range (pa_cons pe_int pa_nil)) (blkOk_by (N := ["_law_state", "_law_way", "_law_found", "_law_k"]) (sc := (defScope s__law_rest)) (by decide +kernel)) (fun _ _ _ _ _ => (pg_name (i := 3) sc__law_rest.nd rfl (Or.inl rfl))) (fun _ _ _ _ _ => pts_nil) (fun _ _ _ _ _ => (pe_op q_sub (pe_callSD (ok__law_next T) (hr.mono (by decide)) (by rfl) T.d__law_next.g T.d__law_next.F.kp T.d__law_next.b .nil (fun σ => pass_blk) (pa_cons (pv 0) (pa_cons pe_int pa_nil))) pe_int)))))
  pss_nil)
  (pss_one (ps_ret (pe_callTy (q_tuple K) (by rfl) T.n_tuple b_tuple (pa_cons (pv 2) pa_nil))))))))), fun xs M Φ Ψ h => ?_⟩
  obtain ⟨p, hm, k⟩ := h
  k_search 5
  refine S.toI (σ := Int × Addr × List Int) (fun t => [some (.ref p), some (.int t.1), some (.ref t.2.1), none]) (fun t => (t.2.1, .lst (t.2.2.map D.int)) :: M) (fun t => RsOk t.2.2) ?_ ?_
  · k_search 6
    exact .mk' (_, _, (List.range 16).map fun _ => 0) ⟨by simp, fun a ha => by obtain ⟨_, _, rfl⟩ := List.mem_map.mp ha; omega⟩ (by k_search 16) (by k_search 49)
  rintro ⟨z, q, ns⟩ hl
  dsimp only at hl ⊢
  have hl16 := hl.1
  refine S.toI (σ := List Int) (fun t => [some (.ref p), some (.int z), some (.ref q), none]) (fun t => (q, .lst (t.map D.int)) :: M) (fun t => RsOk t) ?_ ?_
  · k_search 6
    · obtain ⟨v, rfl, hv⟩ : ∃ v, a = D.int v ∧ -4000 ≤ v ∧ v ≤ 4000 := by
        simp only [List.mem_cons, List.not_mem_nil, or_false] at ha
        rcases ha with rfl | rfl | rfl | rfl | rfl | rfl | rfl <;> exact ⟨_, rfl, by omega, by omega⟩
      k_search 6
      exact .mk' (ns.set z.toNat v) (hl.set hv) (by k_search 16) (by rw [List.map_set]; k_search 49)
    · exact .mk' ns hl (by k_search 16) (by k_search 49)
  clear hl16 hl ns
  intro ns hl
  have hl16 := hl.1
  refine S.toI (σ := List Int) (fun t => [some (.ref p), some (.int z), some (.ref q), none]) (fun t => (q, .lst (t.map D.int)) :: M) (fun t => RsOk t) ?_ ?_
  · k_search 6
    · apply S.forQ (σ := List Int) (fun _ => [some (.ref p), some (.int z), some (.ref q), none]) (fun t => (q, .lst (t.map D.int)) :: M) (fun _ t => RsOk t)
      k_search 6
      refine ⟨(1 + z).toNat, ?_⟩
      k_search 6
      · exact ⟨ns, hl, by k_search 16, by k_search 49⟩
      · rintro i a' t hi hl
        obtain ⟨hi, rfl⟩ := range_get hi
        have hl16 := hl.1
        k_search 6
        rename_i z' _ _
        exact .mk' (t.set z.toNat (z' - 12)) (hl.set ⟨by omega, by omega⟩) (by k_search 16) (by k_search 49)
      · rintro t hl
        k_search 6
        exact .mk' t hl (by k_search 16) (by k_search 49)
    · apply S.forQ (σ := List Int) (fun _ => [some (.ref p), some (.int z), some (.ref q), none]) (fun t => (q, .lst (t.map D.int)) :: M) (fun _ t => RsOk t)
      k_search 6
      refine ⟨(1 + z).toNat, ?_⟩
      k_search 6
      · exact ⟨ns, hl, by k_search 16, by k_search 49⟩
      · rintro i a' t hi hl
        obtain ⟨hi, rfl⟩ := range_get hi
        have hl16 := hl.1
        k_search 6
        rename_i z' _ _
        exact .mk' (t.set z.toNat (z' - 12)) (hl.set ⟨by omega, by omega⟩) (by k_search 16) (by k_search 49)
      · rintro t hl
        k_search 6
        exact .mk' t hl (by k_search 16) (by k_search 49)
    · exact .mk' ns hl (by k_search 16) (by k_search 49)
  clear hl16 hl ns
  intro ns hl
  have hl16 := hl.1
  refine S.toI (σ := Addr × List Int) (fun t => [some (.ref p), some (.int z), some (.ref t.1), none]) (fun t => (t.1, .lst (t.2.map D.int)) :: M) (fun t => RsOk t.2) ?_ ?_
  · k_search 6
    · intro bs hb hP
      refine AllA.mk fun q2 => ?_
      k_search 6
      exact .mk' (q2, bs) ⟨by simpa using hb, hP⟩ (by k_search 16) (by k_search 49)
    · exact .mk' (q, ns) hl (by k_search 16) (by k_search 49)
  clear hl16 hl ns
  rintro ⟨q, ns⟩ hl
  have hl16 := hl.1
  refine S.toI (σ := Addr × List Int) (fun t => [some (.ref p), some (.int z), some (.ref t.1), none]) (fun t => (t.1, .lst (t.2.map D.int)) :: M) (fun t => RsOk t.2) ?_ ?_
  · k_search 6
    · intro bs hb hP
      refine AllA.mk fun q2 => ?_
      k_search 6
      exact .mk' (q2, bs) ⟨by simpa using hb, hP⟩ (by k_search 16) (by k_search 49)
    · exact .mk' (q, ns) hl (by k_search 16) (by k_search 49)
    · exact .mk' (q, ns) hl (by k_search 16) (by k_search 49)
  clear hl16 hl ns
  rintro ⟨q, ns⟩ hl
  have hl16 := hl.1
  k_search 6
  exact Wk.drop (Wk.self (k ns hl))
end
inductive SpLAnyV : SpD
  | mk (p : Addr) {M : Mem} {Φ : D → Mem → Prop} {Ψ : Ex → Mem → Prop} (hm : (p, O.drw) ∈ M) (k : ∀ v : Int × Int, VOk v → Φ (pD v) M) : SpLAnyV [.ref p] M Φ Ψ
theorem ok__law_any_vector {P : Program} {w : World} {K : PySem.W.Frag} {mg : Str → Option Value} {base : Heap} (T : Tx K mg w) : FnOk P w K mg base (L2.CX P w) 3 T.d__law_any_vector.f T.d__law_any_vector.fd ["_law_state"] (lift K SpLAnyV) := by
  refine def_ok T.d__law_any_vector.F sc__law_any_vector (fun xs M Φ Ψ h => by cases h <;> rfl) fun cdv A outer s H E hr => ⟨_, (pss_cons (ps_set (i := 1) sc__law_any_vector.nd rfl (Or.inl rfl) (pe_ix (q_ix K) (pe_lst (pa_cons pe_int (pa_cons pe_int (pa_cons pe_int pa_nil)))) (pe_callSD (ok__law_next T) (hr.mono (by decide)) (by rfl) T.d__law_next.g T.d__law_next.F.kp T.d__law_next.b .nil (fun σ => pass_of) (pa_cons (pv 0) (pa_cons pe_int pa_nil))) (fun _ _ => rfl)))
  (pss_one (ps_ret (pe_tup (pa_cons (pe_op (q_add K) (pe_op q_sub (pe_callSD (ok__law_next T) (hr.mono (by decide)) (by rfl) T.d__law_next.g T.d__law_next.F.kp T.d__law_next.b .nil (fun σ => pass_of) (pa_cons (pv 0) (pa_cons (pe_op q_sub (pe_op (q_mul K) pe_int (pv 1)) pe_int) pa_nil))) (pv 1)) pe_int) (pa_cons (pe_op (q_add K) (pe_op q_sub (pe_callSD (ok__law_next T) (hr.mono (by decide)) (by rfl) T.d__law_next.g T.d__law_next.F.kp T.d__law_next.b .nil (fun σ => pass_of) (pa_cons (pv 0) (pa_cons (pe_op q_sub (pe_op (q_mul K) pe_int (pv 1)) pe_int) pa_nil))) (pv 1)) pe_int) pa_nil)))))), fun xs M Φ Ψ h => ?_⟩
  obtain ⟨p, hm, k⟩ := h
  k_search 5
  k_search 6
  rotate_right
  · have ha : a = 2 ∨ a = 9 ∨ a = 33 := by simpa using ha
    refine Wk.self (k (_, _) ?_)
    unfold VOk
    dsimp only
    omega
  all_goals
    have ha : a = 2 ∨ a = 9 ∨ a = 33 := by simpa using ha
    rcases ha with rfl | rfl | rfl <;> decide +kernel
inductive SpLChoice : SpD
  | mk (p : Addr) (n : Nat) {M : Mem} {Φ : D → Mem → Prop} {Ψ : Ex → Mem → Prop} (hm : (p, O.drw) ∈ M) (hn : n ≤ 2) (k : ∀ c : Ch, ChV n c → Φ (chD c) M) : SpLChoice [.ref p, .int n] M Φ Ψ
theorem ok__law_choice {P : Program} {w : World} {K : PySem.W.Frag} {mg : Str → Option Value} {base : Heap} (T : Tx K mg w) : FnOk P w K mg base (L2.CX P w) 5 T.d__law_choice.f T.d__law_choice.fd ["_law_state", "_law_reads"] (lift K SpLChoice) := by
  refine def_ok T.d__law_choice.F sc__law_choice (fun xs M Φ Ψ h => by cases h <;> rfl) fun cdv A outer s H E hr => ⟨_, (pss_cons (ps_set (i := 2) sc__law_choice.nd rfl (Or.inl rfl) (pe_slice (q_sl K) (pe_lst (pa_cons pe_str (pa_cons pe_str (pa_cons pe_str (pa_cons pe_str (pa_cons pe_str pa_nil)))))) po_none (po_some (pe_ix (q_ix K) (pe_lst (pa_cons pe_int (pa_cons pe_int (pa_cons pe_int pa_nil)))) (pv 1) (fun _ _ => rfl)))))
  (pss_cons (ps_set (i := 3) sc__law_choice.nd rfl (Or.inl rfl) (pe_callSD (ok__law_pick T) (hr.mono (by decide)) (by rfl) T.d__law_pick.g T.d__law_pick.F.kp T.d__law_pick.b .nil (fun σ => pass_of) (pa_cons (pv 0) (pa_cons (pe_op (q_add K) (pe_lst (pa_cons pe_str (pa_cons pe_str (pa_cons pe_str (pa_cons pe_str pa_nil))))) (pv 2)) pa_nil))))
  (pss_cons (ps_par (i := 4) (j := 5) rfl sc__law_choice.nd rfl rfl (by decide) rfl rfl (pa_cons (pe_callSD (ok__law_rest T) (hr.mono (by decide)) (by rfl) T.d__law_rest.g T.d__law_rest.F.kp T.d__law_rest.b .nil (fun σ => pass_of) (pa_cons (pv 0) pa_nil)) (pa_cons (pe_callSD (ok__law_next T) (hr.mono (by decide)) (by rfl) T.d__law_next.g T.d__law_next.F.kp T.d__law_next.b .nil (fun σ => pass_of) (pa_cons (pv 0) (pa_cons (pe_callB (q_max K rfl) (by rfl) T.n_max b_max (pa_cons pe_int (pa_cons (pv 1) pa_nil))) pa_nil))) pa_nil)) (by rfl))
  (pss_cons (ps_if (pt_cmpR (q_eq K (hu64 hr)) (pv 3) pe_str (nomark _))
  (pss_one (ps_ret (pe_tup (pa_cons (pv 3) (pa_cons (pv 5) pa_nil)))))
  pss_nil)
  (pss_cons (ps_if (pt_cmpR (q_eq K (hu64 hr)) (pv 3) pe_str (nomark _))
  (pss_one (ps_ret (pe_tup (pa_cons (pv 3) (pa_cons (pv 5) (pa_cons (pe_callSD (ok__law_any_vector T) (hr.mono (by decide)) (by rfl) T.d__law_any_vector.g T.d__law_any_vector.F.kp T.d__law_any_vector.b .nil (fun σ => pass_of) (pa_cons (pv 0) pa_nil)) (pa_cons (pv 4) pa_nil)))))))
  pss_nil)
  (pss_cons (ps_if (pt_cmpR (q_eq K (hu64 hr)) (pv 3) pe_str (nomark _))
  (pss_one (ps_ret (pe_tup (pa_cons (pv 3) (pa_cons (pe_callSD (ok__law_any_vector T) (hr.mono (by decide)) (by rfl) T.d__law_any_vector.g T.d__law_any_vector.F.kp T.d__law_any_vector.b .nil (fun σ => pass_of) (pa_cons (pv 0) pa_nil)) (pa_cons (pe_callSD (ok__law_any_vector T) (hr.mono (by decide)) (by rfl) T.d__law_any_vector.g T.d__law_any_vector.F.kp T.d__law_any_vector.b .nil (fun σ => pass_of) (pa_cons (pv 0) pa_nil)) (pa_cons (pv 4) pa_nil)))))))
  pss_nil)
  (pss_one (ps_ret (pe_tup (pa_cons (pv 3) (pa_cons (pv 4) pa_nil))))))))))), fun xs M Φ Ψ h => ?_⟩
  obtain ⟨p, n, hm, hn, k⟩ := h
  k_search 5
  have : n = 0 ∨ n = 1 ∨ n = 2 := by omega
  rcases this with rfl | rfl | rfl
  · k_search 6
    refine SlD.lst (.lst _) rfl ?_
    show WG K _ _ (D.lst []) _ _ _ _
    k_search 6
    intro rs hr
    k_search 6
    replace ha : a = .str "flat" ∨ a = .str "left" ∨ a = .str "above" ∨ a = .str "slope" := by
      simp only [List.cons_append, List.nil_append, List.append_nil, List.mem_cons, List.not_mem_nil, or_false] at ha
      rcases ha with h | h | h | h <;> simp [h]
    rcases ha with rfl | rfl | rfl | rfl
    · k_search 6
      exact Wk.self (k (.bes 0 rs) ⟨by decide, hr⟩)
    · k_search 6
      exact Wk.self (k (.bes 1 rs) ⟨by decide, hr⟩)
    · k_search 6
      exact Wk.self (k (.bes 2 rs) ⟨by decide, hr⟩)
    · k_search 6
      exact Wk.self (k (.bes 3 rs) ⟨by decide, hr⟩)
  · k_search 6
    refine SlD.lst (.lst _) rfl ?_
    show WG K _ _ (D.lst [.str "as", .str "moved", .str "moved"]) _ _ _ _
    k_search 6
    intro rs hr
    k_search 6
    replace ha : a = .str "flat" ∨ a = .str "left" ∨ a = .str "above" ∨ a = .str "slope" ∨ a = .str "as" ∨ a = .str "moved" := by
      simp only [List.cons_append, List.nil_append, List.append_nil, List.mem_cons, List.not_mem_nil, or_false] at ha
      rcases ha with h | h | h | h | h | h | h <;> simp [h]
    rcases ha with rfl | rfl | rfl | rfl | rfl | rfl
    · k_search 6
      exact Wk.self (k (.bes 0 rs) ⟨by decide, hr⟩)
    · k_search 6
      exact Wk.self (k (.bes 1 rs) ⟨by decide, hr⟩)
    · k_search 6
      exact Wk.self (k (.bes 2 rs) ⟨by decide, hr⟩)
    · k_search 6
      exact Wk.self (k (.bes 3 rs) ⟨by decide, hr⟩)
    · k_search 6
      obtain ⟨r, rfl⟩ : ∃ r : Nat, z = (r : Int) := ⟨z.toNat, by omega⟩
      exact Wk.self (k (.as r) (by show r < 1; omega))
    · k_search 6
      intro v hv
      k_search 6
      obtain ⟨r, rfl⟩ : ∃ r : Nat, z = (r : Int) := ⟨z.toNat, by omega⟩
      exact Wk.self (k (.mov r v rs) ⟨by show r < 1; omega, hv, hr⟩)
  · k_search 6
    refine SlD.lst (.lst _) rfl ?_
    show WG K _ _ (D.lst [.str "as", .str "moved", .str "moved", .str "both", .str "both"]) _ _ _ _
    k_search 6
    intro rs hr
    k_search 6
    replace ha : a = .str "flat" ∨ a = .str "left" ∨ a = .str "above" ∨ a = .str "slope" ∨ a = .str "as" ∨ a = .str "moved" ∨ a = .str "both" := by
      simp only [List.cons_append, List.nil_append, List.append_nil, List.mem_cons, List.not_mem_nil, or_false] at ha
      rcases ha with h | h | h | h | h | h | h | h | h <;> simp [h]
    rcases ha with rfl | rfl | rfl | rfl | rfl | rfl | rfl
    · k_search 6
      exact Wk.self (k (.bes 0 rs) ⟨by decide, hr⟩)
    · k_search 6
      exact Wk.self (k (.bes 1 rs) ⟨by decide, hr⟩)
    · k_search 6
      exact Wk.self (k (.bes 2 rs) ⟨by decide, hr⟩)
    · k_search 6
      exact Wk.self (k (.bes 3 rs) ⟨by decide, hr⟩)
    · k_search 6
      obtain ⟨r, rfl⟩ : ∃ r : Nat, z = (r : Int) := ⟨z.toNat, by omega⟩
      exact Wk.self (k (.as r) (by show r < 2; omega))
    · k_search 6
      intro v hv
      k_search 6
      obtain ⟨r, rfl⟩ : ∃ r : Nat, z = (r : Int) := ⟨z.toNat, by omega⟩
      exact Wk.self (k (.mov r v rs) ⟨by show r < 2; omega, hv, hr⟩)
    · k_search 6
      intro v hv
      k_search 6
      intro u hu
      k_search 6
      exact Wk.self (k (.both v u rs) ⟨rfl, hv, hu, hr⟩)
structure SmallD (y : D) : Prop where
  ok : okD y
  sz : szD y ≤ 60
  dp : dpD y ≤ 1
theorem odd_small (y : D) (h : y ∈ [D.non, .bl true, .bl false, .int (-1), .int 0, .int 1, .int 2, .int 33, .int (-33), .int 4001, .int (-4001), .str "flat", .str "as", .str "both", .str "moved", .str "", .tup [], .lst [], .tup [.int 0, .int 0], .dic []]) : SmallD y := by
  simp only [List.mem_cons, List.not_mem_nil, or_false] at h
  rcases h with rfl | rfl | rfl | rfl | rfl | rfl | rfl | rfl | rfl | rfl | rfl | rfl | rfl | rfl | rfl | rfl | rfl | rfl | rfl | rfl <;>
    exact ⟨by simp only [okD, okDs] <;> decide +kernel, by simp only [szD, szDs]; decide +kernel, by simp only [dpD, dpDs]; decide⟩
inductive SpBent : Nat → SpD
  | mk (n d : Nat) (p : Addr) (xs : List D) {M : Mem} {Φ : D → Mem → Prop} {Ψ : Ex → Mem → Prop} (hm : (p, O.drw) ∈ M) (hx : FineL 10000 d xs) (hd : d ≤ n) (k : ∀ ys, FineL (2 * szDs xs + 100) (d + 1) ys → Φ (.tup ys) M ∧ Φ (.lst ys) M) : SpBent (n + 1) [.ref p, .tup xs] M Φ Ψ
section
local macro_rules | `(tactic| k_search 58) => `(tactic| first | (with_reducible refine OpD.addAI ?_) | ((with_reducible apply OpD.addA); (case' hl => try first | omega | (simp only [List.length_append, List.length_cons, List.length_nil]; omega))) | (with_reducible refine SlD.tupA ?_) | (with_reducible refine BackD.tupD ?_))
local macro_rules | `(tactic| k_search 30) => `(tactic| (with_reducible refine isiF ?_ (by decide) ?_))
local macro_rules | `(tactic| k_search 48) => `(tactic| ((with_reducible show Option.isSome _ = true); first | exact rfl | exact okD_tn (by assumption)))
theorem okN__law_bent {P : Program} {w : World} {K : PySem.W.Frag} {mg : Str → Option Value} {base : Heap} (T : Tx K mg w) (n : Nat) : FnOk P w K mg base (L2.CX P w) (3 + n) T.d__law_bent.f T.d__law_bent.fd ["_law_state", "_law_thing"] (lift K (SpBent n)) := by
  induction n with
  | zero => exact fnok_none fun _ _ _ _ h => by cases h
  | succ n ih =>
  refine def_ok T.d__law_bent.F sc__law_bent (fun xs M Φ Ψ h => by cases h <;> rfl) fun cdv A outer s H E hr => ⟨_, (pss_cons (ps_set (i := 2) sc__law_bent.nd rfl (Or.inl rfl) (pe_lst (pa_cons pe_non (pa_cons pe_bl (pa_cons pe_bl (pa_cons (pe_un q_neg pe_int) (pa_cons pe_int (pa_cons pe_int (pa_cons pe_int (pa_cons pe_int (pa_cons (pe_un q_neg pe_int) (pa_cons pe_int (pa_cons (pe_un q_neg pe_int) (pa_cons pe_str (pa_cons pe_str (pa_cons pe_str (pa_cons pe_str (pa_cons pe_str (pa_cons (pe_tup pa_nil) (pa_cons (pe_lst pa_nil) (pa_cons (pe_tup (pa_cons pe_int (pa_cons pe_int pa_nil))) (pa_cons (q_dF pe_dnewK) pa_nil))))))))))))))))))))))
  (pss_cons (ps_set (i := 3) sc__law_bent.nd rfl (Or.inl rfl) (pe_callSD (ok__law_next T) (hr.mono (by simp only [Nat.add_eq]; omega)) (by rfl) T.d__law_next.g T.d__law_next.F.kp T.d__law_next.b .nil (fun σ => pass_of) (pa_cons (pv 0) (pa_cons (pe_op (q_addA K) (pe_callB (q_len K) (by rfl) T.n_len b_len (pa_cons (pv 1) pa_nil)) pe_int) pa_nil))))
  (pss_cons (ps_if (pt_cmpR (q_eq K (hu64 hr)) (pv 3) (pe_callB (q_len K) (by rfl) T.n_len b_len (pa_cons (pv 1) pa_nil)) (nomark _))
  (pss_one (ps_ret (pe_callSD (ok__law_pick T) (hr.mono (by simp only [Nat.add_eq]; omega)) (by rfl) T.d__law_pick.g T.d__law_pick.F.kp T.d__law_pick.b .nil (fun σ => pass_of) (pa_cons (pv 0) (pa_cons (pe_lst (pa_cons (pe_slice (q_slA K) (pv 1) po_none (po_some (pe_un q_neg pe_int))) (pa_cons (pe_op (q_addA K) (pv 1) (pe_tup (pa_cons pe_int pa_nil))) (pa_cons (pe_callTy (q_list K) (by rfl) T.n_list b_list (pa_cons (pv 1) pa_nil)) (pa_cons (q_slB K (pv 1) (po_some (pe_un q_neg pe_int))) (pa_cons (pe_op (q_addA K) (pv 1) (pe_slice (q_slA K) (pv 1) po_none (po_some pe_int))) pa_nil)))))) pa_nil)))))
  pss_nil)
  (pss_cons (ps_par (i := 4) (j := 5) rfl sc__law_bent.nd rfl rfl (by decide) rfl rfl (pa_cons (pe_ix (q_ix K) (pv 1) (pv 3) (fun _ _ => rfl)) (pa_cons (pe_callSD (ok__law_pick T) (hr.mono (by simp only [Nat.add_eq]; omega)) (by rfl) T.d__law_pick.g T.d__law_pick.F.kp T.d__law_pick.b .nil (fun σ => pass_of) (pa_cons (pv 0) (pa_cons (pv 2) pa_nil))) pa_nil)) (by rfl))
  (pss_cons (ps_if (PW.pt (pw_and (pt_val (pe_callB (q_isinstance K) (by rfl) T.n_isinstance b_isinstance (pa_cons (pv 4) (pa_cons (pe_bltn (v := .ty "tuple") (by rfl) T.n_tuple b_tuple rfl) pa_nil)))) (pw_and (pt_cmpR (q_neT K (hu64 hr)) (pv 4) (pe_tup pa_nil) (nomark _)) (pw_and1 (pt_cmpR q_gt (pe_callSD (ok__law_next T) (hr.mono (by simp only [Nat.add_eq]; omega)) (by rfl) T.d__law_next.g T.d__law_next.F.kp T.d__law_next.b .nil (fun σ => pass_of) (pa_cons (pv 0) (pa_cons pe_int pa_nil))) pe_int (nomark _))))))
  (pss_one (ps_set (i := 5) sc__law_bent.nd rfl (Or.inl rfl) (pe_callSD ih (hr.mono (by simp only [Nat.add_eq]; omega)) (by rfl) T.d__law_bent.g T.d__law_bent.F.kp T.d__law_bent.b .nil (fun σ => pass_of) (pa_cons (pv 0) (pa_cons (pv 4) pa_nil)))))
  pss_nil)
  (pss_one (ps_ret (pe_op (q_addA K) (pe_op (q_addA K) (pe_slice (q_slA K) (pv 1) po_none (po_some (pv 3))) (pe_tup (pa_cons (pv 5) pa_nil))) (pe_slice (q_slA K) (pv 1) (po_some (pe_op (q_addA K) (pv 3) pe_int)) po_none))))))))), fun xs M Φ Ψ h => ?_⟩
  obtain ⟨n, d, p, xs, hm, hx, hd, k⟩ := h
  k_search 5
  have hl : xs.length ≤ 5000 := by
    have := szDs_len xs
    have := hx.sz
    omega
  k_search 25
  refine two (fun hc => ?_) (fun hc => ?_)
  · have l3 : (cutD xs none (some 1)).length ≤ xs.length := cutD_len
    have hf : FineL (2 * szDs xs + 100) (d + 1) xs := (FineL.le ⟨hx.ok, Nat.le_refl _, hx.dp⟩ (by omega) (by omega) : FineL (2 * szDs xs + 100) (d + 1) xs)
    k_search 6
    simp only [List.mem_cons, List.not_mem_nil, or_false] at ha
    rcases ha with rfl | rfl | rfl | rfl | rfl
    · exact Wk.self (k _ (hf.cut _ _)).1
    · exact Wk.self (k _ ((FineL.app ⟨hx.ok, Nat.le_refl _, hx.dp⟩ (FineL.one (n := 3) (d := 0) (x := D.int 0) (by simp only [okD]; decide +kernel) (by simp only [szD]; decide +kernel) (by simp only [dpD]; decide))).le (by omega) (by omega))).1
    · exact Wk.self (k _ hf).2
    · exact Wk.self (k _ hf.rev).1
    · have h1 : FineL (szDs xs) d xs := ⟨hx.ok, Nat.le_refl _, hx.dp⟩
      exact Wk.self (k _ ((h1.app (h1.cut none (some 1))).le (by omega) (by omega))).1
  · k_search 6
    refine ⟨z0, by omega, fun x hx' => ?_⟩
    have l1 : (cutD xs none (some z)).length ≤ xs.length := cutD_len
    have l2 : (cutD xs (some (z + 1)) none).length ≤ xs.length := cutD_len
    have hxo : okD x := okDs_mem hx.ok _ (List.mem_of_getElem? hx')
    have hxd : dpD x ≤ d := Nat.le_trans (dpDs_mem (List.mem_of_getElem? hx')) hx.dp
    have hxs := szDs_mem (List.mem_of_getElem? hx')
    by_cases ht : ∃ zs, x = .tup zs
    · obtain ⟨zs, rfl⟩ := ht
      simp only [dpD] at hxd
      obtain ⟨e, rfl⟩ : ∃ e, d = e + 1 := ⟨d - 1, by omega⟩
      obtain ⟨m, rfl⟩ : ∃ m, n = m + 1 := ⟨n - 1, by omega⟩
      have hodd : ∀ y, SmallD y → FineL (2 * szDs xs + 100) (e + 1 + 1) (cutD xs none (some z) ++ [y] ++ cutD xs (some (z + 1)) none) ∧ xs.length ≤ (cutD xs none (some z) ++ [y] ++ cutD xs (some (z + 1)) none).length + 1 := fun y hy =>
        bent_put hx hx' z0 (by omega) hy.ok (.inr hy.sz) (by have := hy.dp; omega)
      have hput : ∀ y : D, okD y → szD y ≤ 2 * szD (.tup zs) + 97 → dpD y ≤ e + 1 + 1 → FineL (2 * szDs xs + 100) (e + 1 + 1) (cutD xs none (some z) ++ [y] ++ cutD xs (some (z + 1)) none) ∧ xs.length ≤ (cutD xs none (some z) ++ [y] ++ cutD xs (some (z + 1)) none).length + 1 := fun y h1 h2 h3 =>
        bent_put hx hx' z0 (by omega) h1 (.inl h2) h3
      k_search 6
      · simp only [okD] at hxo
        simp only [szD] at hxs
        have := hx.sz
        exact (⟨hxo, by omega, by omega⟩ : FineL 10000 e zs)
      · omega
      · intro ys hy
        have hin := hput (.tup ys) (by simp only [okD]; exact hy.ok) (by simp only [szD]; have := hy.sz; omega) (by simp only [dpD]; have := hy.dp; omega)
        have hin' := hput (.lst ys) (by simp only [okD]; exact hy.ok) (by simp only [szD]; have := hy.sz; omega) (by simp only [dpD]; have := hy.dp; omega)
        constructor
        · k_search 6
          exact Wk.self (k _ hin.1).1
        · k_search 6
          exact Wk.self (k _ hin'.1).1
      all_goals exact Wk.self (k _ (hodd _ (odd_small _ ha)).1).1
    · have e1 := isTup_not ht
      have e2 := tyI_isTup hxo
      have hodd : ∀ y, SmallD y → FineL (2 * szDs xs + 100) (d + 1) (cutD xs none (some z) ++ [y] ++ cutD xs (some (z + 1)) none) ∧ xs.length ≤ (cutD xs none (some z) ++ [y] ++ cutD xs (some (z + 1)) none).length + 1 := fun y hy =>
        bent_put hx hx' z0 (by omega) hy.ok (.inr hy.sz) (by have := hy.dp; omega)
      k_search 6
      all_goals try (exfalso; rw [e2, e1] at hc; exact Bool.noConfusion hc)
      all_goals exact Wk.self (k _ (hodd _ (odd_small _ ha)).1).1
theorem ok__law_bent {P : Program} {w : World} {K : PySem.W.Frag} {mg : Str → Option Value} {base : Heap} (T : Tx K mg w) : FnOk P w K mg base (L2.CX P w) 9 T.d__law_bent.f T.d__law_bent.fd ["_law_state", "_law_thing"] (lift K (SpBent 6)) :=
  okN__law_bent T 6
end
/-! what may be choices -/
def areD (n : Nat) (far : Int) (x : D) : Bool := match x with
  | .tup xs => decide (xs.length = n) && xs.all (isWh · (-far) far)
  | _ => false
theorem areD_not {n : Nat} {far : Int} {x : D} (h : ¬ ∃ xs, x = .tup xs) : areD n far x = false := by
  cases x <;> first | rfl | exact absurd ⟨_, rfl⟩ h
def chkS (reads : Nat) (k : Str) (ps : List D) : Bool :=
  if k = "flat" ∨ k = "left" ∨ k = "above" ∨ k = "slope" then (match ps with | [p] => areD 16 4000 p | _ => false)
    else if k = "as" then (match ps with | [p] => isWh p 0 ((reads : Int) - 1) | _ => false)
    else if k = "moved" then (match ps with | [a, b, c] => isWh a 0 ((reads : Int) - 1) && areD 2 32 b && areD 16 4000 c | _ => false)
    else if k = "both" then (match ps with | [a, b, c] => decide (reads = 2) && areD 2 32 a && areD 2 32 b && areD 16 4000 c | _ => false)
    else false
def chkD (reads : Nat) (x : D) : Bool := match x with
  | .tup (.str k :: ps) => chkS reads k ps
  | _ => false
theorem chkD_tup {reads : Nat} {x : D} (h : ¬ ∃ xs, x = .tup xs) : chkD reads x = false := by
  cases x <;> first | rfl | exact absurd ⟨_, rfl⟩ h
theorem chkD_str {reads : Nat} {w : D} {ps : List D} (h : ¬ ∃ y, w = .str y) : chkD reads (.tup (w :: ps)) = false := by
  cases w <;> first | rfl | exact absurd ⟨_, rfl⟩ h
theorem chkD_b {reads : Nat} {k : Str} {ps : List D} (h : k = "flat" ∨ k = "left" ∨ k = "above" ∨ k = "slope") : chkD reads (.tup (.str k :: ps)) = (match ps with | [p] => areD 16 4000 p | _ => false) := by
  show chkS reads k ps = _
  unfold chkS
  rw [if_pos h]
theorem chkD_a {reads : Nat} {ps : List D} : chkD reads (.tup (.str "as" :: ps)) = (match ps with | [p] => isWh p 0 ((reads : Int) - 1) | _ => false) := by
  show chkS reads "as" ps = _
  unfold chkS
  rw [if_neg (by decide +kernel), if_pos rfl]
theorem chkD_m {reads : Nat} {ps : List D} : chkD reads (.tup (.str "moved" :: ps)) = (match ps with | [a, b, c] => isWh a 0 ((reads : Int) - 1) && areD 2 32 b && areD 16 4000 c | _ => false) := by
  show chkS reads "moved" ps = _
  unfold chkS
  rw [if_neg (by decide +kernel), if_neg (by decide +kernel), if_pos rfl]
theorem chkD_w {reads : Nat} {ps : List D} : chkD reads (.tup (.str "both" :: ps)) = (match ps with | [a, b, c] => decide (reads = 2) && areD 2 32 a && areD 2 32 b && areD 16 4000 c | _ => false) := by
  show chkS reads "both" ps = _
  unfold chkS
  rw [if_neg (by decide +kernel), if_neg (by decide +kernel), if_neg (by decide +kernel), if_pos rfl]
theorem chkD_n {reads : Nat} {k : Str} {ps : List D} (h : ¬ (k = "flat" ∨ k = "left" ∨ k = "above" ∨ k = "slope" ∨ k = "as" ∨ k = "moved" ∨ k = "both")) : chkD reads (.tup (.str k :: ps)) = false := by
  show chkS reads k ps = _
  unfold chkS
  rw [if_neg (by rintro (e | e | e | e) <;> simp [e] at h), if_neg (by intro e; simp [e] at h), if_neg (by intro e; simp [e] at h), if_neg (by intro e; simp [e] at h)]
inductive SpIsVec : SpD
  | mk (x : D) {M : Mem} {Φ : D → Mem → Prop} {Ψ : Ex → Mem → Prop} (hx : okD x) (hs : szD x ≤ 50000) (k : Φ (.bl (areD 2 32 x)) M) : SpIsVec [x] M Φ Ψ
inductive SpIsRest : SpD
  | mk (x : D) {M : Mem} {Φ : D → Mem → Prop} {Ψ : Ex → Mem → Prop} (hx : okD x) (hs : szD x ≤ 50000) (k : Φ (.bl (areD 16 4000 x)) M) : SpIsRest [x] M Φ Ψ
section
local macro_rules | `(tactic| k_search 30) => `(tactic| (with_reducible refine isiF ?_ (by decide) ?_))
local macro_rules | `(tactic| k_search 61) => `(tactic| ((with_reducible refine Cal.of ?_); refine SpWhole.tnS ?_ ?_))
local macro_rules | `(tactic| k_search 48) => `(tactic| first
  | ((with_reducible show Option.isSome _ = true); first | exact rfl | exact okD_tn (by assumption) | exact okDs_tn (by assumption) (by assumption))
  | ((with_reducible show List.length _ < _); exact szDs_lt (by assumption))
  | ((with_reducible show okD _); first | assumption | exact okDs_mem (by assumption) _ (by assumption)))
theorem ok_is_vector {P : Program} {w : World} {K : PySem.W.Frag} {mg : Str → Option Value} {base : Heap} (T : Tx K mg w) : FnOk P w K mg base (L2.CX P w) 2 T.d_is_vector.f T.d_is_vector.fd ["thing"] (lift K SpIsVec) := by
  refine def_ok T.d_is_vector.F sc_is_vector (fun xs M Φ Ψ h => by cases h <;> rfl) fun cdv A outer s H E hr => ⟨_, (pss_cons (ps_if (PW.pt (pw_or (pt_not (pt_val (pe_callB (q_isinstance K) (by rfl) T.n_isinstance b_isinstance (pa_cons (pv 0) (pa_cons (pe_bltn (v := .ty "tuple") (by rfl) T.n_tuple b_tuple rfl) pa_nil))))) (pw_or1 (pt_cmpR (q_ne K (hu64 hr)) (pe_callB (q_len K) (by rfl) T.n_len b_len (pa_cons (pv 0) pa_nil)) pe_int (nomark _)))))
  (pss_one (ps_ret pe_bl))
  pss_nil)
  (pss_one (ps_ret (pe_callB (q_all K rfl) (by rfl) T.n_all b_all (pa_cons (pe_lc (own := [("part", 1)]) (by rfl) sc_is_vector.nd (q_seq K (pv 0)) (blkOk_by (N := ["thing", "part"]) (sc := (defScope s_is_vector)) (by decide +kernel)) (fun _ _ _ _ _ => (pg_name (i := 1) sc_is_vector.nd rfl (Or.inl rfl))) (fun _ _ _ _ _ => pts_nil) (fun _ _ _ _ _ => (pe_callSD (ok_is_whole T) (hr.mono (by decide)) (by rfl) T.d_is_whole.g T.d_is_whole.F.kp T.d_is_whole.b .nil (fun σ => pass_blk) (pa_cons (pv 1) (pa_cons (pe_un q_neg (pe_glob (v := .int (32)) (by rfl) T.c_MOST_VECTOR ⟨_, rfl⟩)) (pa_cons (pe_glob (v := .int (32)) (by rfl) T.c_MOST_VECTOR ⟨_, rfl⟩) pa_nil)))))) pa_nil))))), fun xs M Φ Ψ h => ?_⟩
  obtain ⟨x, hx, hs, k⟩ := h
  k_search 5
  by_cases ht : ∃ xs, x = .tup xs
  · obtain ⟨xs, rfl⟩ := ht
    simp only [okD] at hx
    have hs2 : szDs xs ≤ 50000 := by simp only [szD] at hs; omega
    k_search 6
    all_goals refine wkE k ?_
    all_goals simp only [areD]
    all_goals (have h2 : xs.length = 2 ∨ ¬ xs.length = 2 := Classical.em _)
    all_goals simp_all [tyI_tup]
    all_goals omega
  · have e1 := isTup_not ht
    have e2 := tyI_isTup hx
    have e3 := areD_not (n := 2) (far := 32) ht
    k_search 6
    all_goals first | exact wkE k e3 | skip
    all_goals simp_all
theorem ok_is_rest {P : Program} {w : World} {K : PySem.W.Frag} {mg : Str → Option Value} {base : Heap} (T : Tx K mg w) : FnOk P w K mg base (L2.CX P w) 2 T.d_is_rest.f T.d_is_rest.fd ["thing"] (lift K SpIsRest) := by
  refine def_ok T.d_is_rest.F sc_is_rest (fun xs M Φ Ψ h => by cases h <;> rfl) fun cdv A outer s H E hr => ⟨_, (pss_cons (ps_if (PW.pt (pw_or (pt_not (pt_val (pe_callB (q_isinstance K) (by rfl) T.n_isinstance b_isinstance (pa_cons (pv 0) (pa_cons (pe_bltn (v := .ty "tuple") (by rfl) T.n_tuple b_tuple rfl) pa_nil))))) (pw_or1 (pt_cmpR (q_ne K (hu64 hr)) (pe_callB (q_len K) (by rfl) T.n_len b_len (pa_cons (pv 0) pa_nil)) pe_int (nomark _)))))
  (pss_one (ps_ret pe_bl))
  pss_nil)
  (pss_one (ps_ret (pe_callB (q_all K rfl) (by rfl) T.n_all b_all (pa_cons (pe_lc (own := [("number", 1)]) (by rfl) sc_is_rest.nd (q_seq K (pv 0)) (blkOk_by (N := ["thing", "number"]) (sc := (defScope s_is_rest)) (by decide +kernel)) (fun _ _ _ _ _ => (pg_name (i := 1) sc_is_rest.nd rfl (Or.inl rfl))) (fun _ _ _ _ _ => pts_nil) (fun _ _ _ _ _ => (pe_callSD (ok_is_whole T) (hr.mono (by decide)) (by rfl) T.d_is_whole.g T.d_is_whole.F.kp T.d_is_whole.b .nil (fun σ => pass_blk) (pa_cons (pv 1) (pa_cons (pe_un q_neg (pe_glob (v := .int (4000)) (by rfl) T.c_MOST_REST ⟨_, rfl⟩)) (pa_cons (pe_glob (v := .int (4000)) (by rfl) T.c_MOST_REST ⟨_, rfl⟩) pa_nil)))))) pa_nil))))), fun xs M Φ Ψ h => ?_⟩
  obtain ⟨x, hx, hs, k⟩ := h
  k_search 5
  by_cases ht : ∃ xs, x = .tup xs
  · obtain ⟨xs, rfl⟩ := ht
    simp only [okD] at hx
    have hs2 : szDs xs ≤ 50000 := by simp only [szD] at hs; omega
    k_search 6
    all_goals refine wkE k ?_
    all_goals simp only [areD]
    all_goals (have h2 : xs.length = 16 ∨ ¬ xs.length = 16 := Classical.em _)
    all_goals simp_all [tyI_tup]
    all_goals omega
  · have e1 := isTup_not ht
    have e2 := tyI_isTup hx
    have e3 := areD_not (n := 16) (far := 4000) ht
    k_search 6
    all_goals first | exact wkE k e3 | skip
    all_goals simp_all
end
inductive SpIsPart : SpD
  | r (x : D) (reads : Nat) {M : Mem} {Φ : D → Mem → Prop} {Ψ : Ex → Mem → Prop} (hx : okD x) (hs : szD x ≤ 50000) (k : Φ (.bl (isWh x 0 ((reads : Int) - 1))) M) : SpIsPart [.str "r", x, .int reads] M Φ Ψ
  | v (x : D) (reads : Nat) {M : Mem} {Φ : D → Mem → Prop} {Ψ : Ex → Mem → Prop} (hx : okD x) (hs : szD x ≤ 50000) (k : Φ (.bl (areD 2 32 x)) M) : SpIsPart [.str "v", x, .int reads] M Φ Ψ
  | s (x : D) (reads : Nat) {M : Mem} {Φ : D → Mem → Prop} {Ψ : Ex → Mem → Prop} (hx : okD x) (hs : szD x ≤ 50000) (k : Φ (.bl (areD 16 4000 x)) M) : SpIsPart [.str "s", x, .int reads] M Φ Ψ
section
local macro_rules | `(tactic| k_search 61) => `(tactic| ((with_reducible refine Cal.of ?_); first | refine SpWhole.tnS ?_ ?_ | refine SpIsVec.mk _ ?_ ?_ ?_ | refine SpIsRest.mk _ ?_ ?_ ?_))
local macro_rules | `(tactic| k_search 64) => `(tactic| first | (with_reducible refine OpD.neSc ?_) | (with_reducible refine OpD.eqSc ?_))
local macro_rules | `(tactic| k_search 48) => `(tactic| ((with_reducible show Option.isSome _ = true); exact okD_tn (by assumption)))
theorem ok_is_part {P : Program} {w : World} {K : PySem.W.Frag} {mg : Str → Option Value} {base : Heap} (T : Tx K mg w) : FnOk P w K mg base (L2.CX P w) 3 T.d_is_part.f T.d_is_part.fd ["sign", "thing", "reads"] (lift K SpIsPart) := by
  refine def_ok T.d_is_part.F sc_is_part (fun xs M Φ Ψ h => by cases h <;> rfl) fun cdv A outer s H E hr => ⟨_, (pss_cons (ps_if (pt_cmpR (opOr (q_eq K (hu64 hr)) q_eqSc) (pv 0) pe_str (nomark _))
  (pss_one (ps_ret (pe_callSD (ok_is_whole T) (hr.mono (by decide)) (by rfl) T.d_is_whole.g T.d_is_whole.F.kp T.d_is_whole.b .nil (fun σ => pass_of) (pa_cons (pv 1) (pa_cons pe_int (pa_cons (pe_op q_sub (pv 2) pe_int) pa_nil))))))
  pss_nil)
  (pss_one (ps_ret (pe_ifExp (pt_cmpR (opOr (q_eq K (hu64 hr)) q_eqSc) (pv 0) pe_str (nomark _)) (pe_callSD (ok_is_vector T) (hr.mono (by decide)) (by rfl) T.d_is_vector.g T.d_is_vector.F.kp T.d_is_vector.b .nil (fun σ => pass_of) (pa_cons (pv 1) pa_nil)) (pe_callSD (ok_is_rest T) (hr.mono (by decide)) (by rfl) T.d_is_rest.g T.d_is_rest.F.kp T.d_is_rest.b .nil (fun σ => pass_of) (pa_cons (pv 1) pa_nil)))))), fun xs M Φ Ψ h => ?_⟩
  obtain ⟨x, reads, hx, hs, k⟩ | ⟨x, reads, hx, hs, k⟩ | ⟨x, reads, hx, hs, k⟩ := h
  all_goals k_search 5
  · k_search 6
  · k_search 6
  · k_search 6
end
theorem kds_flat {reads : Nat} (hr : reads ≤ 2) : ((kdsN reads).map D.str).all D.flat = true := by
  have : reads = 0 ∨ reads = 1 ∨ reads = 2 := by omega
  rcases this with rfl | rfl | rfl <;> decide +kernel
theorem inF_no {k : Str} {reads : Nat} (hr : reads ≤ 2) (h : ¬ (k = "flat" ∨ k = "left" ∨ k = "above" ∨ k = "slope" ∨ k = "as" ∨ k = "moved" ∨ k = "both")) : L3.inF (.str k) ((kdsN reads).map D.str) = false := by
  simp only [not_or] at h
  obtain ⟨h1, h2, h3, h4, h5, h6, h7⟩ := h
  have : reads = 0 ∨ reads = 1 ∨ reads = 2 := by omega
  rcases this with rfl | rfl | rfl <;> simp [kdsN, L3.inF, eqF, Ne.symm h1, Ne.symm h2, Ne.symm h3, Ne.symm h4, Ne.symm h5, Ne.symm h6, Ne.symm h7]
theorem inF_b {k : Str} {reads : Nat} (hr : reads ≤ 2) (h : k = "flat" ∨ k = "left" ∨ k = "above" ∨ k = "slope") : L3.inF (.str k) ((kdsN reads).map D.str) = true := by
  have : reads = 0 ∨ reads = 1 ∨ reads = 2 := by omega
  rcases this with rfl | rfl | rfl <;> rcases h with rfl | rfl | rfl | rfl <;> decide +kernel
theorem inF_a {reads : Nat} (hr : reads ≤ 2) : L3.inF (.str "as") ((kdsN reads).map D.str) = decide (1 ≤ reads) := by
  have : reads = 0 ∨ reads = 1 ∨ reads = 2 := by omega
  rcases this with rfl | rfl | rfl <;> decide +kernel
theorem inF_m {reads : Nat} (hr : reads ≤ 2) : L3.inF (.str "moved") ((kdsN reads).map D.str) = decide (1 ≤ reads) := by
  have : reads = 0 ∨ reads = 1 ∨ reads = 2 := by omega
  rcases this with rfl | rfl | rfl <;> decide +kernel
theorem inF_w {reads : Nat} (hr : reads ≤ 2) : L3.inF (.str "both") ((kdsN reads).map D.str) = decide (reads = 2) := by
  have : reads = 0 ∨ reads = 1 ∨ reads = 2 := by omega
  rcases this with rfl | rfl | rfl <;> decide +kernel
theorem isWh_no {x : D} {r : Nat} (h : ¬ 1 ≤ r) : isWh x 0 ((r : Int) - 1) = false := by
  cases x <;> first | rfl | (simp [isWh]; omega)
theorem lenLit {K : PySem.W.Frag} {M : Mem} {Φ : D → Mem → Prop} {x : Str} (n : Nat) (e : x.length = n) (hn : n ≤ 1000) (h : Φ (.int n) M) : CbD K (cLen K) [.str x] M Φ := by subst e; exact CbD.lenT hn h
theorem sg_s : signsD ("s" : Str) = [.str "s"] := rfl
theorem sg_r : signsD ("r" : Str) = [.str "r"] := rfl
theorem sg_rvs : signsD ("rvs" : Str) = [.str "r", .str "v", .str "s"] := rfl
theorem sg_vvs : signsD ("vvs" : Str) = [.str "v", .str "v", .str "s"] := rfl
theorem one_of {α : Type} {ps : List α} : (∃ p, ps = [p]) ∨ ps.length ≠ 1 := by
  match ps with
  | [] => exact .inr (by simp)
  | [p] => exact .inl ⟨p, rfl⟩
  | _ :: _ :: _ => exact .inr (by simp)
theorem three_of {α : Type} {ps : List α} : (∃ a b c, ps = [a, b, c]) ∨ ps.length ≠ 3 := by
  match ps with
  | [] => exact .inr (by simp)
  | [_] => exact .inr (by simp)
  | [_, _] => exact .inr (by simp)
  | [a, b, c] => exact .inl ⟨a, b, c, rfl⟩
  | _ :: _ :: _ :: _ :: _ => exact .inr (by simp)
theorem one_no {ps : List D} {f : D → Bool} (h : ps.length ≠ 1) : (match (generalizing := false) ps with | [p] => f p | _ => false) = false := by
  match ps, h with
  | [], _ => rfl
  | [_], h => exact absurd rfl h
  | _ :: _ :: _, _ => rfl
theorem three_no {ps : List D} {f : D → D → D → Bool} (h : ps.length ≠ 3) : (match (generalizing := false) ps with | [a, b, c] => f a b c | _ => false) = false := by
  match ps, h with
  | [], _ => rfl
  | [_], _ => rfl
  | [_, _], _ => rfl
  | [_, _, _], h => exact absurd rfl h
  | _ :: _ :: _ :: _ :: _, _ => rfl
inductive SpIsCh : SpD
  | mk (x : D) (reads : Nat) {M : Mem} {Φ : D → Mem → Prop} {Ψ : Ex → Mem → Prop} (hr : reads ≤ 2) (hx : okD x) (hs : szD x ≤ 30000) (k : Φ (.bl (chkD reads x)) M) : SpIsCh [x, .int reads] M Φ Ψ
section
local macro_rules | `(tactic| k_search 30) => `(tactic| (with_reducible refine isiF ?_ (by decide) ?_))
set_option hygiene false in
local macro_rules | `(tactic| k_search 61) => `(tactic| ((with_reducible refine Cal.of ?_); first | refine SpKinds.tup _ hr ?_))
set_option hygiene false in
local macro_rules | `(tactic| k_search 62) => `(tactic| ((with_reducible apply W.lcG (h := fun i : Nat => D.bl (bs.getD i false))); (k_search 13)))
local macro_rules | `(tactic| k_search 48) => `(tactic| ((with_reducible show Option.isSome _ = true); first | exact rfl | exact okD_tn (by assumption)))
theorem ok_is_choice {P : Program} {w : World} {K : PySem.W.Frag} {mg : Str → Option Value} {base : Heap} (T : Tx K mg w) : FnOk P w K mg base (L2.CX P w) 4 T.d_is_choice.f T.d_is_choice.fd ["thing", "reads"] (lift K SpIsCh) := by
  refine def_ok T.d_is_choice.F sc_is_choice (fun xs M Φ Ψ h => by cases h <;> rfl) fun cdv A outer s H E hr => ⟨_, (pss_cons (ps_if (PW.pt (pw_or (pt_not (pt_val (pe_callB (q_isinstance K) (by rfl) T.n_isinstance b_isinstance (pa_cons (pv 0) (pa_cons (pe_bltn (v := .ty "tuple") (by rfl) T.n_tuple b_tuple rfl) pa_nil))))) (pw_or1 (pt_cmpR (q_eqT K (hu64 hr)) (pv 0) (pe_tup pa_nil) (nomark _)))))
  (pss_one (ps_ret pe_bl))
  pss_nil)
  (pss_cons (ps_asg (pv 0) (q_star K (pgs_cons (pg_name (i := 2) sc_is_choice.nd rfl (Or.inl rfl)) (pgs_cons (pg_name (i := 3) sc_is_choice.nd rfl (Or.inl rfl)) pgs_nil))))
  (pss_cons (ps_if (PW.pt (pw_or (pt_not (pt_val (pe_callB (q_isinstance K) (by rfl) T.n_isinstance b_isinstance (pa_cons (pv 2) (pa_cons (pe_bltn (v := .ty "str") (by rfl) T.n_str b_str rfl) pa_nil))))) (pw_or (pt_cmpR (q_notin K (hu64 hr)) (pv 2) (pe_callSD (ok_kinds_for T) (hr.mono (by decide)) (by rfl) T.d_kinds_for.g T.d_kinds_for.F.kp T.d_kinds_for.b .nil (fun σ => pass_of) (pa_cons (pv 1) pa_nil)) rfl) (pw_or1 (pt_cmpR (q_ne K (hu64 hr)) (pe_callB (q_len K) (by rfl) T.n_len b_len (pa_cons (pv 3) pa_nil)) (pe_callB (q_len K) (by rfl) T.n_len b_len (pa_cons (pe_ix (q_ixD K w) (pe_glob (v := .ref T.g_FORMS) (by rfl) T.c_FORMS rfl) (pv 2) (fun _ _ => rfl)) pa_nil)) (nomark _))))))
  (pss_one (ps_ret pe_bl))
  pss_nil)
  (pss_one (ps_ret (pe_callB (q_all K rfl) (by rfl) T.n_all b_all (pa_cons (pe_lc (own := [("sign", 4), ("part", 5)]) (by rfl) sc_is_choice.nd (q_zipS K (by rfl) T.n_zip (pa_cons (pe_ix (q_ixD K w) (pe_glob (v := .ref T.g_FORMS) (by rfl) T.c_FORMS rfl) (pv 2) (fun _ _ => rfl)) (pa_cons (pv 3) pa_nil))) (blkOk_by (N := ["thing", "reads", "kind", "parts", "sign", "part"]) (sc := (defScope s_is_choice)) (by decide +kernel)) (fun _ _ _ _ _ => (q_gseq K (n := 2) rfl (pgs_cons (pg_name (i := 4) sc_is_choice.nd rfl (Or.inl rfl)) (pgs_cons (pg_name (i := 5) sc_is_choice.nd rfl (Or.inl rfl)) pgs_nil)))) (fun _ _ _ _ _ => pts_nil) (fun _ _ _ _ _ => (pe_callSD (ok_is_part T) (hr.mono (by decide)) (by rfl) T.d_is_part.g T.d_is_part.F.kp T.d_is_part.b .nil (fun σ => pass_blk) (pa_cons (pv 4) (pa_cons (pv 5) (pa_cons (pv 1) pa_nil)))))) pa_nil))))))), fun xs M Φ Ψ h => ?_⟩
  obtain ⟨x, reads, hr, hx, hs, k⟩ := h
  k_search 5
  have hfl := kds_flat hr
  by_cases ht : ∃ xs, x = .tup xs
  · obtain ⟨xs, rfl⟩ := ht
    cases xs with
    | nil =>
      k_search 6
      all_goals exact wkE k rfl
    | cons kd ps =>
      simp only [okD, okDs] at hx
      obtain ⟨hkd, hps⟩ := hx
      have hl : ps.length ≤ 15000 := by
        simp only [szD, szDs] at hs
        have := szDs_len ps
        omega
      by_cases hw : ∃ y, kd = .str y
      · obtain ⟨kk, rfl⟩ := hw
        by_cases h7 : kk = "flat" ∨ kk = "left" ∨ kk = "above" ∨ kk = "slope" ∨ kk = "as" ∨ kk = "moved" ∨ kk = "both"
        · rcases (show (kk = "flat" ∨ kk = "left" ∨ kk = "above" ∨ kk = "slope") ∨ kk = "as" ∨ kk = "moved" ∨ kk = "both" by simpa only [or_assoc] using h7) with hb | rfl | rfl | rfl
          · have hK : KDct K w T.g_FORMS kk (.str "s") := by
              rcases hb with e | e | e | e <;> rw [e] <;> first | exact T.s_FORMS_0 | exact T.s_FORMS_1 | exact T.s_FORMS_2 | exact T.s_FORMS_3
            have hin := inF_b hr hb
            have ec := chkD_b (reads := reads) (ps := ps) hb
            clear hb h7
            rcases one_of (ps := ps) with ⟨p, rfl⟩ | hne
            · simp only [okDs] at hps
              have hp := hps.1
              have hsp : szD p ≤ 50000 := by simp only [szD, szDs] at hs; omega
              obtain ⟨bs, hbs⟩ : ∃ bs : List Bool, bs = [areD 16 4000 p] := ⟨_, rfl⟩
              k_search 6
              all_goals try exact Bool.noConfusion (show false = true from hc)
              refine OpD.inN (.tup _) rfl hfl ?_
              rw [hin]
              k_search 6
              all_goals try exact Bool.noConfusion (show false = true from hc)
              refine OpD.ixKd hK ?_
              k_search 6
              refine lenLit 1 (by decide +kernel) (by decide) ?_
              k_search 6
              all_goals try exact absurd rfl hc
              refine OpD.ixKd hK ?_
              k_search 6
              · rw [sg_s] at ha ⊢
                rcases i with _ | i
                · show Cal SpIsPart [.str "s", p, .int reads] _ _ _
                  k_search 6
                  subst hbs
                  exact ⟨rfl, rfl⟩
                · exact absurd ha (by simp)
              subst hbs
              refine wkE k ?_
              rw [ec]
              show areD 16 4000 p = _
              generalize areD 16 4000 p = b
              cases b <;> rfl
            · rw [one_no hne] at ec
              k_search 6
              all_goals try exact Bool.noConfusion (show false = true from hc)
              refine OpD.inN (.tup _) rfl hfl ?_
              rw [hin]
              k_search 6
              all_goals try exact Bool.noConfusion (show false = true from hc)
              refine OpD.ixKd hK ?_
              k_search 6
              refine lenLit 1 (by decide +kernel) (by decide) ?_
              k_search 6
              all_goals exact wkE k ec
          · have ec := chkD_a (reads := reads) (ps := ps)
            have hin := inF_a hr
            by_cases h1 : 1 ≤ reads
            · rw [decide_eq_true h1] at hin
              rcases one_of (ps := ps) with ⟨p, rfl⟩ | hne
              · simp only [okDs] at hps
                obtain ⟨hp, -⟩ := hps
                have hsp : szD p ≤ 50000 := by simp only [szD, szDs] at hs; omega
                obtain ⟨bs, hbs⟩ : ∃ bs : List Bool, bs = [isWh p 0 ((reads : Int) - 1)] := ⟨_, rfl⟩
                k_search 6
                all_goals try exact Bool.noConfusion (show false = true from hc)
                refine OpD.inN (.tup _) rfl hfl ?_
                rw [hin]
                k_search 6
                all_goals try exact Bool.noConfusion (show false = true from hc)
                refine OpD.ixKd T.s_FORMS_4 ?_
                k_search 6
                refine lenLit 1 (by decide +kernel) (by decide) ?_
                k_search 6
                all_goals try exact absurd rfl hc
                refine OpD.ixKd T.s_FORMS_4 ?_
                k_search 6
                · rw [sg_r] at ha ⊢
                  rcases i with _ | i
                  · show Cal SpIsPart [.str "r", p, .int reads] _ _ _
                    k_search 6
                    subst hbs
                    exact ⟨rfl, rfl⟩
                  · exact absurd ha (by simp)
                subst hbs
                refine wkE k ?_
                rw [ec]
                show isWh p 0 ((reads : Int) - 1) = _
                generalize isWh p 0 ((reads : Int) - 1) = b0
                cases b0 <;> rfl
              · rw [one_no hne] at ec
                k_search 6
                all_goals try exact Bool.noConfusion (show false = true from hc)
                refine OpD.inN (.tup _) rfl hfl ?_
                rw [hin]
                k_search 6
                all_goals try exact Bool.noConfusion (show false = true from hc)
                refine OpD.ixKd T.s_FORMS_4 ?_
                k_search 6
                refine lenLit 1 (by decide +kernel) (by decide) ?_
                k_search 6
                all_goals exact wkE k ec
            · rw [decide_eq_false h1] at hin
              have e0 : chkD reads (.tup (.str "as" :: ps)) = false := by
                rw [ec]
                rcases one_of (ps := ps) with ⟨p, rfl⟩ | hne
                · exact isWh_no h1
                · exact one_no hne
              k_search 6
              all_goals try exact Bool.noConfusion (show false = true from hc)
              refine OpD.inN (.tup _) rfl hfl ?_
              rw [hin]
              k_search 6
              all_goals exact wkE k e0
          · have ec := chkD_m (reads := reads) (ps := ps)
            have hin := inF_m hr
            by_cases h1 : 1 ≤ reads
            · rw [decide_eq_true h1] at hin
              rcases three_of (ps := ps) with ⟨x1, x2, x3, rfl⟩ | hne
              · simp only [okDs] at hps
                obtain ⟨hx1, hx2, hx3, -⟩ := hps
                have hsx1 : szD x1 ≤ 50000 := by simp only [szD, szDs] at hs; omega
                have hsx2 : szD x2 ≤ 50000 := by simp only [szD, szDs] at hs; omega
                have hsx3 : szD x3 ≤ 50000 := by simp only [szD, szDs] at hs; omega
                obtain ⟨bs, hbs⟩ : ∃ bs : List Bool, bs = [isWh x1 0 ((reads : Int) - 1), areD 2 32 x2, areD 16 4000 x3] := ⟨_, rfl⟩
                k_search 6
                all_goals try exact Bool.noConfusion (show false = true from hc)
                refine OpD.inN (.tup _) rfl hfl ?_
                rw [hin]
                k_search 6
                all_goals try exact Bool.noConfusion (show false = true from hc)
                refine OpD.ixKd T.s_FORMS_5 ?_
                k_search 6
                refine lenLit 3 (by decide +kernel) (by decide) ?_
                k_search 6
                all_goals try exact absurd rfl hc
                refine OpD.ixKd T.s_FORMS_5 ?_
                k_search 6
                · rw [sg_rvs] at ha ⊢
                  rcases i with _ | _ | _ | i
                  · show Cal SpIsPart [.str "r", x1, .int reads] _ _ _
                    k_search 6
                    subst hbs
                    exact ⟨rfl, rfl⟩
                  · show Cal SpIsPart [.str "v", x2, .int reads] _ _ _
                    k_search 6
                    subst hbs
                    exact ⟨rfl, rfl⟩
                  · show Cal SpIsPart [.str "s", x3, .int reads] _ _ _
                    k_search 6
                    subst hbs
                    exact ⟨rfl, rfl⟩
                  · exact absurd ha (by simp)
                subst hbs
                refine wkE k ?_
                rw [ec]
                show (isWh x1 0 ((reads : Int) - 1) && areD 2 32 x2 && areD 16 4000 x3) = _
                generalize isWh x1 0 ((reads : Int) - 1) = b0
                generalize areD 2 32 x2 = b1
                generalize areD 16 4000 x3 = b2
                cases b0 <;> cases b1 <;> cases b2 <;> rfl
              · rw [three_no hne] at ec
                k_search 6
                all_goals try exact Bool.noConfusion (show false = true from hc)
                refine OpD.inN (.tup _) rfl hfl ?_
                rw [hin]
                k_search 6
                all_goals try exact Bool.noConfusion (show false = true from hc)
                refine OpD.ixKd T.s_FORMS_5 ?_
                k_search 6
                refine lenLit 3 (by decide +kernel) (by decide) ?_
                k_search 6
                all_goals exact wkE k ec
            · rw [decide_eq_false h1] at hin
              have e0 : chkD reads (.tup (.str "moved" :: ps)) = false := by
                rw [ec]
                rcases three_of (ps := ps) with ⟨x1, x2, x3, rfl⟩ | hne
                · show (isWh x1 0 ((reads : Int) - 1) && _ && _) = false; rw [isWh_no h1]; rfl
                · exact three_no hne
              k_search 6
              all_goals try exact Bool.noConfusion (show false = true from hc)
              refine OpD.inN (.tup _) rfl hfl ?_
              rw [hin]
              k_search 6
              all_goals exact wkE k e0
          · have ec := chkD_w (reads := reads) (ps := ps)
            have hin := inF_w hr
            by_cases h1 : reads = 2
            · rw [decide_eq_true h1] at hin
              rcases three_of (ps := ps) with ⟨x1, x2, x3, rfl⟩ | hne
              · simp only [okDs] at hps
                obtain ⟨hx1, hx2, hx3, -⟩ := hps
                have hsx1 : szD x1 ≤ 50000 := by simp only [szD, szDs] at hs; omega
                have hsx2 : szD x2 ≤ 50000 := by simp only [szD, szDs] at hs; omega
                have hsx3 : szD x3 ≤ 50000 := by simp only [szD, szDs] at hs; omega
                obtain ⟨bs, hbs⟩ : ∃ bs : List Bool, bs = [areD 2 32 x1, areD 2 32 x2, areD 16 4000 x3] := ⟨_, rfl⟩
                k_search 6
                all_goals try exact Bool.noConfusion (show false = true from hc)
                refine OpD.inN (.tup _) rfl hfl ?_
                rw [hin]
                k_search 6
                all_goals try exact Bool.noConfusion (show false = true from hc)
                refine OpD.ixKd T.s_FORMS_6 ?_
                k_search 6
                refine lenLit 3 (by decide +kernel) (by decide) ?_
                k_search 6
                all_goals try exact absurd rfl hc
                refine OpD.ixKd T.s_FORMS_6 ?_
                k_search 6
                · rw [sg_vvs] at ha ⊢
                  rcases i with _ | _ | _ | i
                  · show Cal SpIsPart [.str "v", x1, .int reads] _ _ _
                    k_search 6
                    subst hbs
                    exact ⟨rfl, rfl⟩
                  · show Cal SpIsPart [.str "v", x2, .int reads] _ _ _
                    k_search 6
                    subst hbs
                    exact ⟨rfl, rfl⟩
                  · show Cal SpIsPart [.str "s", x3, .int reads] _ _ _
                    k_search 6
                    subst hbs
                    exact ⟨rfl, rfl⟩
                  · exact absurd ha (by simp)
                subst hbs
                refine wkE k ?_
                rw [ec]
                show (decide (reads = 2) && areD 2 32 x1 && areD 2 32 x2 && areD 16 4000 x3) = _
                generalize areD 2 32 x1 = b0
                generalize areD 2 32 x2 = b1
                generalize areD 16 4000 x3 = b2
                rw [decide_eq_true h1]
                cases b0 <;> cases b1 <;> cases b2 <;> rfl
              · rw [three_no hne] at ec
                k_search 6
                all_goals try exact Bool.noConfusion (show false = true from hc)
                refine OpD.inN (.tup _) rfl hfl ?_
                rw [hin]
                k_search 6
                all_goals try exact Bool.noConfusion (show false = true from hc)
                refine OpD.ixKd T.s_FORMS_6 ?_
                k_search 6
                refine lenLit 3 (by decide +kernel) (by decide) ?_
                k_search 6
                all_goals exact wkE k ec
            · rw [decide_eq_false h1] at hin
              have e0 : chkD reads (.tup (.str "both" :: ps)) = false := by
                rw [ec]
                rcases three_of (ps := ps) with ⟨x1, x2, x3, rfl⟩ | hne
                · show (decide (reads = 2) && _ && _ && _) = false; rw [decide_eq_false h1]; rfl
                · exact three_no hne
              k_search 6
              all_goals try exact Bool.noConfusion (show false = true from hc)
              refine OpD.inN (.tup _) rfl hfl ?_
              rw [hin]
              k_search 6
              all_goals exact wkE k e0
        · have e1 := chkD_n (reads := reads) (ps := ps) h7
          have hin := inF_no hr h7
          k_search 6
          · exact wkE k e1
          refine OpD.inN (.tup _) rfl hfl ?_
          rw [hin]
          k_search 6
          all_goals exact wkE k e1
      · have e1 := chkD_str (reads := reads) (ps := ps) hw
        have e2 := tyI_isSt hkd
        have e3 := isSt_not hw
        k_search 6
        all_goals first | exact wkE k e1 | skip
        all_goals trace_state
        all_goals simp_all
  · have e1 := isTup_not ht
    have e2 := tyI_isTup hx
    have e3 := chkD_tup (reads := reads) ht
    k_search 6
    all_goals first | exact wkE k e3 | skip
    all_goals simp_all
end
def arsD (m : Int) (reads : Nat) (x : D) : Bool := match x with
  | .tup xs => decide ((xs.length : Int) = m) && xs.all (chkD reads)
  | _ => false
theorem arsD_not {m : Int} {reads : Nat} {x : D} (h : ¬ ∃ xs, x = .tup xs) : arsD m reads x = false := by
  cases x <;> first | rfl | exact absurd ⟨_, rfl⟩ h
theorem szD_of_mem {xs : List D} {y : D} {n : Nat} (m : y ∈ xs) (h : szDs xs ≤ n) : szD y ≤ n := by
  have := szDs_mem m
  omega
inductive SpAreCh : SpD
  | mk (x : D) (m : Int) (reads : Nat) {M : Mem} {Φ : D → Mem → Prop} {Ψ : Ex → Mem → Prop} (hr : reads ≤ 2) (hx : okD x) (hs : szD x ≤ 30000) (k : Φ (.bl (arsD m reads x)) M) : SpAreCh [x, .int m, .int reads] M Φ Ψ
section
local macro_rules | `(tactic| k_search 30) => `(tactic| (with_reducible refine isiF ?_ (by decide) ?_))
set_option hygiene false in
local macro_rules | `(tactic| k_search 61) => `(tactic| ((with_reducible refine Cal.of ?_); refine SpIsCh.mk _ _ hr ?_ ?_ ?_))
local macro_rules | `(tactic| k_search 48) => `(tactic| first
  | ((with_reducible show Option.isSome _ = true); first | exact rfl | exact okD_tn (by assumption) | exact okDs_tn (by assumption) (by assumption))
  | ((with_reducible show List.length _ < _); exact szDs_lt (by assumption))
  | ((with_reducible show szD _ ≤ _); exact szD_of_mem (by assumption) (by assumption))
  | ((with_reducible show okD _); first | assumption | exact okDs_mem (by assumption) _ (by assumption)))
theorem ok_are_choices {P : Program} {w : World} {K : PySem.W.Frag} {mg : Str → Option Value} {base : Heap} (T : Tx K mg w) : FnOk P w K mg base (L2.CX P w) 5 T.d_are_choices.f T.d_are_choices.fd ["thing", "many", "reads"] (lift K SpAreCh) := by
  refine def_ok T.d_are_choices.F sc_are_choices (fun xs M Φ Ψ h => by cases h <;> rfl) fun cdv A outer s H E hr => ⟨_, (pss_cons (ps_if (PW.pt (pw_or (pt_not (pt_val (pe_callB (q_isinstance K) (by rfl) T.n_isinstance b_isinstance (pa_cons (pv 0) (pa_cons (pe_bltn (v := .ty "tuple") (by rfl) T.n_tuple b_tuple rfl) pa_nil))))) (pw_or1 (pt_cmpR (q_ne K (hu64 hr)) (pe_callB (q_len K) (by rfl) T.n_len b_len (pa_cons (pv 0) pa_nil)) (pv 1) (nomark _)))))
  (pss_one (ps_ret pe_bl))
  pss_nil)
  (pss_one (ps_ret (pe_callB (q_all K rfl) (by rfl) T.n_all b_all (pa_cons (pe_lc (own := [("one", 3)]) (by rfl) sc_are_choices.nd (q_seq K (pv 0)) (blkOk_by (N := ["thing", "many", "reads", "one"]) (sc := (defScope s_are_choices)) (by decide +kernel)) (fun _ _ _ _ _ => (pg_name (i := 3) sc_are_choices.nd rfl (Or.inl rfl))) (fun _ _ _ _ _ => pts_nil) (fun _ _ _ _ _ => (pe_callSD (ok_is_choice T) (hr.mono (by decide)) (by rfl) T.d_is_choice.g T.d_is_choice.F.kp T.d_is_choice.b .nil (fun σ => pass_blk) (pa_cons (pv 3) (pa_cons (pv 2) pa_nil))))) pa_nil))))), fun xs M Φ Ψ h => ?_⟩
  obtain ⟨x, m, reads, hr, hx, hs, k⟩ := h
  k_search 5
  by_cases ht : ∃ xs, x = .tup xs
  · obtain ⟨xs, rfl⟩ := ht
    simp only [okD] at hx
    have hs2 : szDs xs ≤ 50000 := by simp only [szD] at hs; omega
    have hs3 : szDs xs ≤ 30000 := by simp only [szD] at hs; omega
    k_search 6
    all_goals refine wkE k ?_
    all_goals simp only [arsD]
    all_goals (have h2 : (xs.length : Int) = m ∨ ¬ (xs.length : Int) = m := Classical.em _)
    all_goals simp_all [tyI_tup]
  · have e1 := isTup_not ht
    have e2 := tyI_isTup hx
    have e3 := arsD_not (m := m) (reads := reads) ht
    k_search 6
    all_goals first | exact wkE k e3 | skip
    all_goals simp_all
end
theorem int_of {a : D} (h : okD a) (h1 : tyI "int" a = true) (h2 : (!tyI "bool" a) = true) : ∃ i, a = .int i := by
  cases a with
  | int i => exact ⟨_, rfl⟩
  | bl b => exact Bool.noConfusion (show false = true from h2)
  | _ => first | (simp only [okD] at h; done) | exact absurd (show isK _ _ = true from h1) (by decide +kernel)
theorem isWh_int {a : D} {lo hi : Int} (h : tyI "int" a = false) : isWh a lo hi = false := by
  cases a <;> first | rfl | exact Bool.noConfusion (show true = false from h)
theorem isWh_bool {a : D} {lo hi : Int} (h : (!tyI "bool" a) = false) : isWh a lo hi = false := by
  cases a <;> first | rfl | exact Bool.noConfusion (show true = false from h)
inductive SpLAre : SpD
  | mk (x : D) (n : Nat) (far : Int) {M : Mem} {Φ : D → Mem → Prop} {Ψ : Ex → Mem → Prop} (hx : okD x) (hs : szD x ≤ 50000) (k : Φ (.bl (areD n far x)) M) : SpLAre [x, .int n, .int far] M Φ Ψ
inductive SpLRead : SpD
  | mk (x : D) (reads : Nat) {M : Mem} {Φ : D → Mem → Prop} {Ψ : Ex → Mem → Prop} (hx : okD x) (k : Φ (.bl (isWh x 0 ((reads : Int) - 1))) M) : SpLRead [x, .int reads] M Φ Ψ
section
local macro_rules | `(tactic| k_search 30) => `(tactic| (with_reducible refine isiF ?_ (by decide) ?_))
local macro_rules | `(tactic| k_search 48) => `(tactic| first
  | ((with_reducible show Option.isSome _ = true); first | exact rfl | exact okD_tn (by assumption) | exact okDs_tn (by assumption) (by assumption))
  | ((with_reducible show List.length _ < _); exact szDs_lt (by assumption)))
theorem ok__law_is_read {P : Program} {w : World} {K : PySem.W.Frag} {mg : Str → Option Value} {base : Heap} (T : Tx K mg w) : FnOk P w K mg base (L2.CX P w) 1 T.d__law_is_read.f T.d__law_is_read.fd ["_law_thing", "_law_reads"] (lift K SpLRead) := by
  refine def_ok T.d__law_is_read.F sc__law_is_read (fun xs M Φ Ψ h => by cases h <;> rfl) fun cdv A outer s H E hr => ⟨_, (pss_one (ps_ret (pe_and (pe_callB (q_isinstance K) (by rfl) T.n_isinstance b_isinstance (pa_cons (pv 0) (pa_cons (pe_bltn (v := .ty "int") (by rfl) T.n_int b_int rfl) pa_nil))) (pe_and (pe_not (pe_callB (q_isinstance K) (by rfl) T.n_isinstance b_isinstance (pa_cons (pv 0) (pa_cons (pe_bltn (v := .ty "bool") (by rfl) T.n_bool b_bool rfl) pa_nil)))) (pe_one (pe_chain q_le q_lt pe_int (pv 0) (pv 1))))))), fun xs M Φ Ψ h => ?_⟩
  obtain ⟨x, reads, hx, k⟩ := h
  k_search 5
  by_cases hi' : ∃ i, x = .int i
  · obtain ⟨i, rfl⟩ := hi'
    k_search 6
    · exact wkE k (decide_eq_decide.mpr ⟨fun h => by omega, fun h => ⟨hc, by omega⟩⟩)
    · exact wkE k (decide_eq_false fun h => hc h.1)
    · exact Bool.noConfusion (show false = true from hc.symm)
  · have e : isWh x 0 ((reads : Int) - 1) = false := by cases x <;> first | rfl | exact absurd ⟨_, rfl⟩ hi'
    k_search 6
    · rename_i h1
      exfalso
      cases x with
      | int i => exact hi' ⟨_, rfl⟩
      | bl b => exact Bool.noConfusion (show false = true from hc)
      | _ => first | (simp only [okD] at hx; done) | exact absurd (show isK _ _ = true from h1) (by decide +kernel)
    all_goals exact wkE k e
set_option hygiene false in
local macro_rules | `(tactic| k_search 62) => `(tactic| ((with_reducible apply W.lcF (f := fun a : D => a) (h := fun a : D => a) (c := fun a : D => isWh a (-far) far)); (k_search 13)))
theorem ok__law_are {P : Program} {w : World} {K : PySem.W.Frag} {mg : Str → Option Value} {base : Heap} (T : Tx K mg w) : FnOk P w K mg base (L2.CX P w) 1 T.d__law_are.f T.d__law_are.fd ["_law_thing", "_law_many", "_law_far"] (lift K SpLAre) := by
  refine def_ok T.d__law_are.F sc__law_are (fun xs M Φ Ψ h => by cases h <;> rfl) fun cdv A outer s H E hr => ⟨_, (pss_cons (ps_if (PW.pt (pw_or (pt_not (pt_val (pe_callB (q_isinstance K) (by rfl) T.n_isinstance b_isinstance (pa_cons (pv 0) (pa_cons (pe_bltn (v := .ty "tuple") (by rfl) T.n_tuple b_tuple rfl) pa_nil))))) (pw_or1 (pt_cmpR (q_ne K (hu64 hr)) (pe_callB (q_len K) (by rfl) T.n_len b_len (pa_cons (pv 0) pa_nil)) (pv 1) (nomark _)))))
  (pss_one (ps_ret pe_bl))
  pss_nil)
  (pss_cons (ps_setLc (i := 3) (own := [("_law_one", 4)]) (by rfl) sc__law_are.nd rfl rfl (sw_true rfl rfl rfl (by decide +kernel)) (q_seq K (pv 0)) (blkOk_by (N := ["_law_thing", "_law_many", "_law_far", "_law_some", "_law_one"]) (sc := (defScope s__law_are)) (by decide +kernel)) (fun _ _ _ _ _ => (pg_name (i := 4) sc__law_are.nd rfl (Or.inl rfl))) (fun _ _ _ _ _ => (pts_one (PW.pt (pw_and (pt_val (pe_callB (q_isinstance K) (by rfl) T.n_isinstance b_isinstance (pa_cons (pv 4) (pa_cons (pe_bltn (v := .ty "int") (by rfl) T.n_int b_int rfl) pa_nil)))) (pw_and (pt_not (pt_val (pe_callB (q_isinstance K) (by rfl) T.n_isinstance b_isinstance (pa_cons (pv 4) (pa_cons (pe_bltn (v := .ty "bool") (by rfl) T.n_bool b_bool rfl) pa_nil))))) (pw_and1 (pt_cmpR q_le (pe_callB q_abs (by rfl) T.n_abs b_abs (pa_cons (pv 4) pa_nil)) (pv 2) (nomark _)))))))) (fun _ _ _ _ _ => (pv 4)))
  (pss_one (ps_ret (pe_cmpR (q_eq K (hu64 hr)) (pe_callB (q_len K) (by rfl) T.n_len b_len (pa_cons (pv 3) pa_nil)) (pv 1) (nomark _)))))), fun xs M Φ Ψ h => ?_⟩
  obtain ⟨x, n, far, hx, hs, k⟩ := h
  k_search 5
  by_cases ht : ∃ xs, x = .tup xs
  · obtain ⟨xs, rfl⟩ := ht
    simp only [okD] at hx
    have hs2 : szDs xs ≤ 50000 := by simp only [szD] at hs; omega
    k_search 6
    · exact Bool.noConfusion (show false = true from hc)
    · exact wkE k (by
        show (decide (xs.length = n) && _) = false
        rw [decide_eq_false (by omega)]
        rfl)
    · rename_i h1
      obtain ⟨i, rfl⟩ := int_of (okDs_mem hx _ ha) h1 hc
      k_search 6
      refine ⟨?_, rfl, fun _ => ?_⟩
      · show _ = decide _
        split <;> exact decide_eq_decide.mpr ⟨fun h => by omega, fun h => by omega⟩
      · k_search 6
    · exact ⟨(isWh_bool hc).symm, rfl, fun z => by rw [isWh_bool hc] at z; cases z⟩
    · exact ⟨(isWh_int hc).symm, rfl, fun z => by rw [isWh_int hc] at z; cases z⟩
    · rename_i hl
      exact wkE k (by
        show (decide (xs.length = n) && xs.all _) = _
        rw [decide_eq_true (by omega : xs.length = n), Bool.eq_iff_iff]
        have h3 : (List.filter (fun a => isWh a (-far) far) xs).length = n ↔ ∀ a ∈ xs, isWh a (-far) far = true := by
          rw [show n = xs.length by omega, List.length_filter_eq_length_iff]
        simp only [Bool.true_and, List.all_eq_true, List.map_id', List.length_map, decide_eq_true_eq]
        constructor
        · intro h; have := h3.mpr h; show ((List.filter _ xs).length : Int) = _; omega
        · intro h; exact h3.mp (by have h : ((List.filter (fun a => isWh a (-far) far) xs).length : Int) = n := h; omega))
  · have e1 := isTup_not ht
    have e2 := tyI_isTup hx
    have e3 := areD_not (n := n) (far := far) ht
    k_search 6
    all_goals first | exact wkE k e3 | skip
    all_goals simp_all
end
inductive SpLIsCh : SpD
  | mk (x : D) (reads : Nat) {M : Mem} {Φ : D → Mem → Prop} {Ψ : Ex → Mem → Prop} (hr : reads ≤ 2) (hx : okD x) (hs : szD x ≤ 30000) (k : Φ (.bl (chkD reads x)) M) : SpLIsCh [x, .int reads] M Φ Ψ
theorem cut1 {w : D} {ps : List D} : cutD (w :: ps) (some 1) none = ps := cutD_from (n := 1) (xs := w :: ps) (by simp)
theorem in4 {k : Str} : L3.inF (.str k) [.str "flat", .str "left", .str "above", .str "slope"] = decide (k = "flat" ∨ k = "left" ∨ k = "above" ∨ k = "slope") := by
  by_cases h : k = "flat" ∨ k = "left" ∨ k = "above" ∨ k = "slope"
  · rw [decide_eq_true h]
    rcases h with rfl | rfl | rfl | rfl <;> decide +kernel
  · rw [decide_eq_false h]
    simp only [not_or] at h
    obtain ⟨h1, h2, h3, h4⟩ := h
    simp [L3.inF, eqF, Ne.symm h1, Ne.symm h2, Ne.symm h3, Ne.symm h4]
section
local macro_rules | `(tactic| k_search 30) => `(tactic| (with_reducible refine isiF ?_ (by decide) ?_))
local macro_rules | `(tactic| k_search 58) => `(tactic| first | ((with_reducible refine SlD.tupA ?_); (try rw [cut1])) | ((with_reducible refine OpD.inP (.tup _) rfl rfl ?_); (try rw [in4])))
local macro_rules | `(tactic| k_search 64) => `(tactic| first | (with_reducible refine OpD.neSc ?_) | (with_reducible refine OpD.eqSc ?_))
local macro_rules | `(tactic| k_search 61) => `(tactic| ((with_reducible refine Cal.of ?_); first | refine SpLRead.mk _ _ ?_ ?_ | refine SpLAre.mk _ _ _ ?_ ?_ ?_))
local macro_rules | `(tactic| k_search 48) => `(tactic| first
  | ((with_reducible show Option.isSome _ = true); first | exact rfl | exact okD_tn (by assumption))
  | ((with_reducible show szD _ ≤ _); assumption)
  | ((with_reducible show okD _); assumption))
theorem ok__law_is_choice {P : Program} {w : World} {K : PySem.W.Frag} {mg : Str → Option Value} {base : Heap} (T : Tx K mg w) : FnOk P w K mg base (L2.CX P w) 2 T.d__law_is_choice.f T.d__law_is_choice.fd ["_law_thing", "_law_reads"] (lift K SpLIsCh) := by
  refine def_ok T.d__law_is_choice.F sc__law_is_choice (fun xs M Φ Ψ h => by cases h <;> rfl) fun cdv A outer s H E hr => ⟨_, (pss_cons (ps_if (PW.pt (pw_or (pt_not (pt_val (pe_callB (q_isinstance K) (by rfl) T.n_isinstance b_isinstance (pa_cons (pv 0) (pa_cons (pe_bltn (v := .ty "tuple") (by rfl) T.n_tuple b_tuple rfl) pa_nil))))) (pw_or (pt_cmpR (q_eqT K (hu64 hr)) (pv 0) (pe_tup pa_nil) (nomark _)) (pw_or1 (pt_not (pt_val (pe_callB (q_isinstance K) (by rfl) T.n_isinstance b_isinstance (pa_cons (pe_ix (q_ix K) (pv 0) pe_int (fun _ _ => rfl)) (pa_cons (pe_bltn (v := .ty "str") (by rfl) T.n_str b_str rfl) pa_nil)))))))))
  (pss_one (ps_ret pe_bl))
  pss_nil)
  (pss_cons (ps_par (i := 2) (j := 3) rfl sc__law_is_choice.nd rfl rfl (by decide) rfl rfl (pa_cons (pe_ix (q_ix K) (pv 0) pe_int (fun _ _ => rfl)) (pa_cons (pe_slice (q_slA K) (pv 0) (po_some pe_int) po_none) pa_nil)) (by rfl))
  (pss_cons (ps_if (pt_cmpR (q_in K (hu64 hr)) (pv 2) (pe_tup (pa_cons pe_str (pa_cons pe_str (pa_cons pe_str (pa_cons pe_str pa_nil))))) rfl)
  (pss_one (ps_ret (pe_and (pe_cmpR (opOr (q_eq K (hu64 hr)) q_eqSc) (pe_callB (q_len K) (by rfl) T.n_len b_len (pa_cons (pv 3) pa_nil)) pe_int (nomark _)) (pe_one (pe_callSD (ok__law_are T) (hr.mono (by decide)) (by rfl) T.d__law_are.g T.d__law_are.F.kp T.d__law_are.b .nil (fun σ => pass_of) (pa_cons (pe_ix (q_ix K) (pv 3) pe_int (fun _ _ => rfl)) (pa_cons pe_int (pa_cons pe_int pa_nil))))))))
  pss_nil)
  (pss_cons (ps_if (pt_cmpR (opOr (q_eq K (hu64 hr)) q_eqSc) (pv 2) pe_str (nomark _))
  (pss_one (ps_ret (pe_and (pe_cmpR (opOr (q_eq K (hu64 hr)) q_eqSc) (pe_callB (q_len K) (by rfl) T.n_len b_len (pa_cons (pv 3) pa_nil)) pe_int (nomark _)) (pe_one (pe_callSD (ok__law_is_read T) (hr.mono (by decide)) (by rfl) T.d__law_is_read.g T.d__law_is_read.F.kp T.d__law_is_read.b .nil (fun σ => pass_of) (pa_cons (pe_ix (q_ix K) (pv 3) pe_int (fun _ _ => rfl)) (pa_cons (pv 1) pa_nil)))))))
  pss_nil)
  (pss_cons (ps_if (PW.pt (pw_and (pt_cmpR (opOr (q_eq K (hu64 hr)) q_eqSc) (pv 2) pe_str (nomark _)) (pw_and1 (pt_cmpR (opOr (q_eq K (hu64 hr)) q_eqSc) (pe_callB (q_len K) (by rfl) T.n_len b_len (pa_cons (pv 3) pa_nil)) pe_int (nomark _)))))
  (pss_one (ps_ret (pe_and (pe_callSD (ok__law_is_read T) (hr.mono (by decide)) (by rfl) T.d__law_is_read.g T.d__law_is_read.F.kp T.d__law_is_read.b .nil (fun σ => pass_of) (pa_cons (pe_ix (q_ix K) (pv 3) pe_int (fun _ _ => rfl)) (pa_cons (pv 1) pa_nil))) (pe_and (pe_callSD (ok__law_are T) (hr.mono (by decide)) (by rfl) T.d__law_are.g T.d__law_are.F.kp T.d__law_are.b .nil (fun σ => pass_of) (pa_cons (pe_ix (q_ix K) (pv 3) pe_int (fun _ _ => rfl)) (pa_cons pe_int (pa_cons pe_int pa_nil)))) (pe_one (pe_callSD (ok__law_are T) (hr.mono (by decide)) (by rfl) T.d__law_are.g T.d__law_are.F.kp T.d__law_are.b .nil (fun σ => pass_of) (pa_cons (pe_ix (q_ix K) (pv 3) pe_int (fun _ _ => rfl)) (pa_cons pe_int (pa_cons pe_int pa_nil)))))))))
  pss_nil)
  (pss_cons (ps_if (PW.pt (pw_and (pt_cmpR (opOr (q_eq K (hu64 hr)) q_eqSc) (pv 2) pe_str (nomark _)) (pw_and (pt_cmpR (opOr (q_eq K (hu64 hr)) q_eqSc) (pe_callB (q_len K) (by rfl) T.n_len b_len (pa_cons (pv 3) pa_nil)) pe_int (nomark _)) (pw_and1 (pt_cmpR (opOr (q_eq K (hu64 hr)) q_eqSc) (pv 1) pe_int (nomark _))))))
  (pss_one (ps_ret (pe_and (pe_callSD (ok__law_are T) (hr.mono (by decide)) (by rfl) T.d__law_are.g T.d__law_are.F.kp T.d__law_are.b .nil (fun σ => pass_of) (pa_cons (pe_ix (q_ix K) (pv 3) pe_int (fun _ _ => rfl)) (pa_cons pe_int (pa_cons pe_int pa_nil)))) (pe_and (pe_callSD (ok__law_are T) (hr.mono (by decide)) (by rfl) T.d__law_are.g T.d__law_are.F.kp T.d__law_are.b .nil (fun σ => pass_of) (pa_cons (pe_ix (q_ix K) (pv 3) pe_int (fun _ _ => rfl)) (pa_cons pe_int (pa_cons pe_int pa_nil)))) (pe_one (pe_callSD (ok__law_are T) (hr.mono (by decide)) (by rfl) T.d__law_are.g T.d__law_are.F.kp T.d__law_are.b .nil (fun σ => pass_of) (pa_cons (pe_ix (q_ix K) (pv 3) pe_int (fun _ _ => rfl)) (pa_cons pe_int (pa_cons pe_int pa_nil)))))))))
  pss_nil)
  (pss_one (ps_ret pe_bl)))))))), fun xs M Φ Ψ h => ?_⟩
  obtain ⟨x, reads, hr, hx, hs, k⟩ := h
  k_search 5
  by_cases ht : ∃ xs, x = .tup xs
  · obtain ⟨xs, rfl⟩ := ht
    cases xs with
    | nil =>
      k_search 6
      all_goals exact wkE k rfl
    | cons kd ps =>
      simp only [okD, okDs] at hx
      obtain ⟨hkd, hps⟩ := hx
      have hl : ps.length ≤ 15000 := by
        simp only [szD, szDs] at hs
        have := szDs_len ps
        omega
      by_cases hw : ∃ y, kd = .str y
      · obtain ⟨kk, rfl⟩ := hw
        rcases one_of (ps := ps) with ⟨p, rfl⟩ | hne1
        · simp only [okDs] at hps
          have hp := hps.1
          have hsp : szD p ≤ 50000 := by simp only [szD, szDs] at hs; omega
          k_search 6
          all_goals first | refine wkE k ?_ | exfalso
          all_goals clear k
          all_goals simp_all [chkD, chkS, tyI_tup, tyI_st]
        · rcases three_of (ps := ps) with ⟨x1, x2, x3, rfl⟩ | hne3
          · simp only [okDs] at hps
            obtain ⟨hx1, hx2, hx3, -⟩ := hps
            have hsx1 : szD x1 ≤ 50000 := by simp only [szD, szDs] at hs; omega
            have hsx2 : szD x2 ≤ 50000 := by simp only [szD, szDs] at hs; omega
            have hsx3 : szD x3 ≤ 50000 := by simp only [szD, szDs] at hs; omega
            k_search 6
            all_goals refine wkE k ?_
            all_goals clear k
            all_goals simp_all [chkD, chkS, tyI_tup, tyI_st]
            all_goals (intros; omega)
          · have e0 : chkD reads (.tup (.str kk :: ps)) = false := by
              show chkS reads kk ps = false
              unfold chkS
              split
              · exact one_no hne1
              · split
                · exact one_no hne1
                · split
                  · exact three_no hne3
                  · split
                    · exact three_no hne3
                    · rfl
            k_search 6
            all_goals first | exact wkE k e0 | (exfalso; omega)
      · have e1 := chkD_str (reads := reads) (ps := ps) hw
        have e2 := tyI_isSt hkd
        have e3 := isSt_not hw
        k_search 6
        all_goals first | exact wkE k e1 | skip
        all_goals simp_all
  · have e1 := isTup_not ht
    have e2 := tyI_isTup hx
    have e3 := chkD_tup (reads := reads) ht
    k_search 6
    all_goals first | exact wkE k e3 | skip
    all_goals simp_all
end
inductive SpLAreCh : SpD
  | mk (x : D) (m : Int) (reads : Nat) {M : Mem} {Φ : D → Mem → Prop} {Ψ : Ex → Mem → Prop} (hr : reads ≤ 2) (hx : okD x) (hs : szD x ≤ 30000) (k : Φ (.bl (arsD m reads x)) M) : SpLAreCh [x, .int m, .int reads] M Φ Ψ
section
local macro_rules | `(tactic| k_search 30) => `(tactic| (with_reducible refine isiF ?_ (by decide) ?_))
set_option hygiene false in
local macro_rules | `(tactic| k_search 61) => `(tactic| ((with_reducible refine Cal.of ?_); refine SpLIsCh.mk _ _ hr ?_ ?_ ?_))
local macro_rules | `(tactic| k_search 48) => `(tactic| first
  | ((with_reducible show Option.isSome _ = true); first | exact rfl | exact okD_tn (by assumption) | exact okDs_tn (by assumption) (by assumption))
  | ((with_reducible show List.length _ < _); exact szDs_lt (by assumption))
  | ((with_reducible show szD _ ≤ _); exact szD_of_mem (by assumption) (by assumption))
  | ((with_reducible show okD _); first | assumption | exact okDs_mem (by assumption) _ (by assumption)))
set_option hygiene false in
local macro_rules | `(tactic| k_search 62) => `(tactic| ((with_reducible apply W.lcF (f := fun a : D => a) (h := fun a : D => a) (c := fun a : D => !chkD reads a)); (k_search 13)))
theorem ok__law_are_choices {P : Program} {w : World} {K : PySem.W.Frag} {mg : Str → Option Value} {base : Heap} (T : Tx K mg w) : FnOk P w K mg base (L2.CX P w) 3 T.d__law_are_choices.f T.d__law_are_choices.fd ["_law_thing", "_law_many", "_law_reads"] (lift K SpLAreCh) := by
  refine def_ok T.d__law_are_choices.F sc__law_are_choices (fun xs M Φ Ψ h => by cases h <;> rfl) fun cdv A outer s H E hr => ⟨_, (pss_cons (ps_if (PW.pt (pw_or (pt_not (pt_val (pe_callB (q_isinstance K) (by rfl) T.n_isinstance b_isinstance (pa_cons (pv 0) (pa_cons (pe_bltn (v := .ty "tuple") (by rfl) T.n_tuple b_tuple rfl) pa_nil))))) (pw_or1 (pt_cmpR (q_ne K (hu64 hr)) (pe_callB (q_len K) (by rfl) T.n_len b_len (pa_cons (pv 0) pa_nil)) (pv 1) (nomark _)))))
  (pss_one (ps_ret pe_bl))
  pss_nil)
  (pss_one (ps_ret (pe_cmpR (q_eqE K (hu64 hr)) (pe_lc (own := [("_law_one", 3)]) (by rfl) sc__law_are_choices.nd (q_seq K (pv 0)) (blkOk_by (N := ["_law_thing", "_law_many", "_law_reads", "_law_one"]) (sc := (defScope s__law_are_choices)) (by decide +kernel)) (fun _ _ _ _ _ => (pg_name (i := 3) sc__law_are_choices.nd rfl (Or.inl rfl))) (fun _ _ _ _ _ => (pts_one (pt_not (pt_val (pe_callSD (ok__law_is_choice T) (hr.mono (by decide)) (by rfl) T.d__law_is_choice.g T.d__law_is_choice.F.kp T.d__law_is_choice.b .nil (fun σ => pass_blk) (pa_cons (pv 3) (pa_cons (pv 2) pa_nil))))))) (fun _ _ _ _ _ => (pv 3))) (pe_lst pa_nil) (nomark _))))), fun xs M Φ Ψ h => ?_⟩
  obtain ⟨x, m, reads, hr, hx, hs, k⟩ := h
  k_search 5
  by_cases ht : ∃ xs, x = .tup xs
  · obtain ⟨xs, rfl⟩ := ht
    simp only [okD] at hx
    have hs2 : szDs xs ≤ 50000 := by simp only [szD] at hs; omega
    have hs3 : szDs xs ≤ 30000 := by simp only [szD] at hs; omega
    k_search 6
    · exact Bool.noConfusion (show false = true from hc)
    · exact wkE k (by
        show (decide ((xs.length : Int) = m) && _) = false
        rw [decide_eq_false hc]
        rfl)
    · refine ⟨rfl, rfl, fun _ => ?_⟩
      k_search 6
    · exact wkE k (by
        show (decide ((xs.length : Int) = m) && _) = _
        rw [decide_eq_true hc, Bool.eq_iff_iff]
        simp [List.filter_eq_nil_iff])
  · have e1 := isTup_not ht
    have e2 := tyI_isTup hx
    have e3 := arsD_not (m := m) (reads := reads) ht
    k_search 6
    all_goals first | exact wkE k e3 | skip
    all_goals simp_all
end
def bnd (j : Nat) : Nat := match j with
  | 0 => 4000
  | 1 => 8100
  | _ => 16300
theorem bnd_1 {j : Nat} (h : j ≤ 1) : bnd j ≤ 10000 := by
  rcases (show j = 0 ∨ j = 1 by omega) with rfl | rfl <;> decide
theorem bnd_s {j : Nat} (h : j ≤ 1) : 2 * bnd j + 100 ≤ bnd (j + 1) := by
  rcases (show j = 0 ∨ j = 1 by omega) with rfl | rfl <;> decide
theorem bnd_le {j : Nat} : bnd j ≤ 16300 := by
  match j with
  | 0 => decide
  | 1 => decide
  | _ + 2 => exact Nat.le_refl _
theorem bnd_m {j : Nat} : bnd j ≤ bnd (j + 1) := by
  match j with
  | 0 => decide
  | 1 => decide
  | _ + 2 => exact Nat.le_refl _
theorem rest_fine {rs : List Int} (h : RsOk rs) : okD (tI rs) ∧ szD (tI rs) ≤ 243 ∧ dpD (tI rs) ≤ 1 ∧ areD 16 4000 (tI rs) = true := by
  obtain ⟨a, b, c⟩ := ints_ok (rs := rs) fun r m => by have := h.2 r m; omega
  have h1 := h.1
  refine ⟨by simp only [tI, okD]; exact a, by simp only [tI, szD]; omega, by simp only [tI, dpD]; omega, ?_⟩
  show (decide ((rs.map D.int).length = 16) && (rs.map D.int).all _) = true
  rw [decide_eq_true (by rw [List.length_map]; exact h1), Bool.true_and, List.all_eq_true]
  intro y m
  obtain ⟨r, hr, rfl⟩ := List.mem_map.mp m
  simpa [isWh] using h.2 r hr
theorem vec_fine {v : Int × Int} (h : VOk v) : okD (pD v) ∧ szD (pD v) ≤ 33 ∧ dpD (pD v) ≤ 1 ∧ areD 2 32 (pD v) = true := by
  obtain ⟨h1, h2, h3, h4⟩ := h
  obtain ⟨a, b⟩ := int_ok (i := v.1) (by omega)
  obtain ⟨c, d⟩ := int_ok (i := v.2) (by omega)
  refine ⟨?_, ?_, ?_, ?_⟩
  · simp only [okD, okDs]
    exact ⟨by simpa only [okD] using a, by simpa only [okD] using c, trivial⟩
  · have e : szD (pD v) = szD (.int v.1) + 2 + (szD (.int v.2) + 2 + 0) + 3 := by simp only [szD, szDs]
    omega
  · simp only [dpD, dpDs]
    decide
  · simp [areD, isWh, h1, h2, h3, h4]
theorem kd_fine (m : Nat) : szD (.str (kdOf m)) ≤ 10 := by
  rcases kd_cases (m := m) with e | e | e | e <;> rw [e] <;> simp only [szD] <;> decide +kernel
theorem kw_fine : szD (.str "as") ≤ 10 ∧ szD (.str "moved") ≤ 10 ∧ szD (.str "both") ≤ 10 := by
  simp only [szD]
  decide +kernel
theorem ch_fine {reads : Nat} {c : Ch} (hr : reads ≤ 2) (h : ChV reads c) : okD (chD c) ∧ szD (chD c) ≤ 400 ∧ dpD (chD c) ≤ 2 ∧ chkD reads (chD c) = true := by
  obtain ⟨w1, w2, w3⟩ := kw_fine
  cases c with
  | bes m rs =>
    obtain ⟨hm, hrs⟩ := h
    obtain ⟨a, b, c, d⟩ := rest_fine hrs
    have w := kd_fine m
    refine ⟨?_, ?_, ?_, ?_⟩
    · show okD (.tup [.str (kdOf m), tI rs])
      rw [okD]
      exact okDs_of fun y hy => by
        simp only [List.mem_cons, List.not_mem_nil, or_false] at hy
        rcases hy with rfl | rfl
        · simp only [okD]
        · exact a
    · have e : szD (chD (.bes m rs)) = szD (.str (kdOf m)) + 2 + (szD (tI rs) + 2 + 0) + 3 := by simp only [chD, szD, szDs]
      omega
    · have e : dpD (chD (.bes m rs)) = max 0 (max (dpD (tI rs)) 0) + 1 := by simp only [chD, dpD, dpDs]
      omega
    · show chkD reads (.tup (.str (kdOf m) :: [tI rs])) = true
      rw [chkD_b (kd_cases (m := m))]
      exact d
  | as r =>
    have h : r < reads := h
    obtain ⟨a, b⟩ := int_ok (i := (r : Int)) (by omega)
    refine ⟨?_, ?_, ?_, ?_⟩
    · show okD (.tup [.str "as", .int r])
      rw [okD]
      exact okDs_of fun y hy => by
        simp only [List.mem_cons, List.not_mem_nil, or_false] at hy
        rcases hy with rfl | rfl
        · simp only [okD]
        · exact a
    · have e : szD (chD (.as r)) = szD (.str "as") + 2 + (szD (.int r) + 2 + 0) + 3 := by simp only [chD, szD, szDs]
      omega
    · simp only [chD, dpD, dpDs]
      decide
    · show chkD reads (.tup (.str "as" :: [.int r])) = true
      rw [chkD_a]
      show decide _ = true
      exact decide_eq_true ⟨by omega, by omega⟩
  | mov r v rs =>
    obtain ⟨h0, hv, hrs⟩ := h
    obtain ⟨a, b⟩ := int_ok (i := (r : Int)) (by omega)
    obtain ⟨a2, b2, c2, d2⟩ := vec_fine hv
    obtain ⟨a3, b3, c3, d3⟩ := rest_fine hrs
    refine ⟨?_, ?_, ?_, ?_⟩
    · show okD (.tup [.str "moved", .int r, pD v, tI rs])
      rw [okD]
      exact okDs_of fun y hy => by
        simp only [List.mem_cons, List.not_mem_nil, or_false] at hy
        rcases hy with rfl | rfl | rfl | rfl
        · simp only [okD]
        · exact a
        · exact a2
        · exact a3
    · have e : szD (chD (.mov r v rs)) = szD (.str "moved") + 2 + (szD (.int r) + 2 + (szD (pD v) + 2 + (szD (tI rs) + 2 + 0))) + 3 := by simp only [chD, szD, szDs]
      omega
    · have e : dpD (chD (.mov r v rs)) = max 0 (max 0 (max (dpD (pD v)) (max (dpD (tI rs)) 0))) + 1 := by simp only [chD, dpD, dpDs]
      omega
    · show chkD reads (.tup (.str "moved" :: [.int r, pD v, tI rs])) = true
      rw [chkD_m]
      show (decide _ && _ && _) = true
      rw [d2, d3, decide_eq_true ⟨by omega, by omega⟩]
      rfl
  | both v u rs =>
    obtain ⟨h0, hv, hu, hrs⟩ := h
    obtain ⟨a1, b1, c1, d1⟩ := vec_fine hv
    obtain ⟨a2, b2, c2, d2⟩ := vec_fine hu
    obtain ⟨a3, b3, c3, d3⟩ := rest_fine hrs
    refine ⟨?_, ?_, ?_, ?_⟩
    · show okD (.tup [.str "both", pD v, pD u, tI rs])
      rw [okD]
      exact okDs_of fun y hy => by
        simp only [List.mem_cons, List.not_mem_nil, or_false] at hy
        rcases hy with rfl | rfl | rfl | rfl
        · simp only [okD]
        · exact a1
        · exact a2
        · exact a3
    · have e : szD (chD (.both v u rs)) = szD (.str "both") + 2 + (szD (pD v) + 2 + (szD (pD u) + 2 + (szD (tI rs) + 2 + 0))) + 3 := by simp only [chD, szD, szDs]
      omega
    · have e : dpD (chD (.both v u rs)) = max 0 (max (dpD (pD v)) (max (dpD (pD u)) (max (dpD (tI rs)) 0))) + 1 := by simp only [chD, dpD, dpDs]
      omega
    · show chkD reads (.tup (.str "both" :: [pD v, pD u, tI rs])) = true
      rw [chkD_w]
      show (decide _ && _ && _ && _) = true
      rw [d1, d2, d3, decide_eq_true h0]
      rfl
theorem chs_fine {reads : Nat} (hr : reads ≤ 2) : ∀ {cs : List Ch}, (∀ c ∈ cs, ChV reads c) → FineL (402 * cs.length) 2 (cs.map chD) ∧ (cs.map chD).all (chkD reads) = true
  | [], _ => ⟨⟨by simp only [List.map_nil, okDs], by simp only [List.map_nil, szDs]; omega, by simp only [List.map_nil, dpDs]; omega⟩, rfl⟩
  | c :: cs, h => by
    obtain ⟨a, b, c', d⟩ := ch_fine hr (h c List.mem_cons_self)
    obtain ⟨e, f⟩ := chs_fine hr fun x m => h x (List.mem_cons_of_mem _ m)
    have e1 := e.sz
    have e2 := e.dp
    refine ⟨⟨by simp only [List.map_cons, okDs]; exact ⟨a, e.ok⟩, by simp only [List.map_cons, szDs, List.length_cons]; omega, by simp only [List.map_cons, dpDs]; omega⟩, ?_⟩
    rw [List.map_cons, List.all_cons, d, f]
    rfl
theorem odd_no (y : D) (h : y ∈ [D.non, .int 0, .bl true, .str "flat", .lst [], .dic [], .tup [.str "flat"], .tup [.non], .tup [.tup [.str "flat"]], .tup [.tup [.str "flat", .non]], .int 10000000000000000000000000000000000000000]) : okD y ∧ szD y ≤ 30000 ∧ arsD 1 0 y = false := by
  simp only [List.mem_cons, List.not_mem_nil, or_false] at h
  rcases h with rfl | rfl | rfl | rfl | rfl | rfl | rfl | rfl | rfl | rfl | rfl <;>
    exact ⟨by simp only [okD, okDs] <;> decide +kernel, by simp only [szD, szDs]; decide +kernel, by decide +kernel⟩
section
local macro_rules | `(tactic| k_search 58) => `(tactic| first | (with_reducible refine CbD.reprB ?_) | (with_reducible refine CbD.reprD (n := 20000) (k := 6) (by assumption) (by decide) (by decide) (by assumption) ?_))
set_option hygiene false in
local macro_rules | `(tactic| k_search 61) => `(tactic| ((with_reducible refine Cal.of ?_); first | refine SpAreCh.mk _ _ rd hrd ?_ ?_ ?_ | refine SpLAreCh.mk _ _ rd hrd ?_ ?_ ?_ | refine SpAreCh.mk _ _ f2 hf2 ?_ ?_ ?_ | refine SpLAreCh.mk _ _ f2 hf2 ?_ ?_ ?_ | refine SpAreCh.mk _ _ 0 (by decide) ?_ ?_ ?_))
local macro_rules | `(tactic| k_search 64) => `(tactic| first | (with_reducible refine OpD.neSc ?_) | (with_reducible refine OpD.eqSc ?_))
theorem ok_law {P : Program} {w : World} {K : PySem.W.Frag} {mg : Str → Option Value} {base : Heap} (T : Tx K mg w) (hmd : ∃ mm, base.Ns sysModules mm) : LawOk P w K mg base (L2.CX P w) T.d_law.f T.d_law.fd ["_law_script"] (lift K spLaw) := by
  refine law_okA (k := 9) T.d_law.F sc_law (fun xs M Φ Ψ h => ?_) ⟨rfl, by decide, by decide⟩ fun cdv A outer s H E hgd hr => ⟨_, (pss_cons (ps_set (i := 1) sc_law.nd rfl (Or.inr rfl) (pe_callSD (ok__law_begin T) (hr.mono (by decide)) (by rfl) T.d__law_begin.g T.d__law_begin.F.kp T.d__law_begin.b .nil (fun σ => pass_of) (pa_cons (pv 0) pa_nil)))
  (pss_cons (ps_for own_of rfl (pi_range1 (by rfl) T.n_range (pa_cons (pe_callB (q_max K rfl) (by rfl) T.n_max b_max (pa_cons pe_int (pa_cons (pe_callB (q_min K rfl) (by rfl) T.n_min b_min (pa_cons (pe_callB (q_len K) (by rfl) T.n_len b_len (pa_cons (pv 0) pa_nil)) (pa_cons pe_int pa_nil))) pa_nil))) pa_nil)) (pg_name (i := 2) sc_law.nd rfl (Or.inl rfl))
  (pss_cons (ps_asg (pe_tup (pa_cons (pe_callSD (ok__law_next T) (hr.mono (by decide)) (by rfl) T.d__law_next.g T.d__law_next.F.kp T.d__law_next.b .nil (fun σ => pass_of) (pa_cons (pv 1) (pa_cons pe_int pa_nil))) (pa_cons (pe_op (q_add K) pe_int (pe_callSD (ok__law_next T) (hr.mono (by decide)) (by rfl) T.d__law_next.g T.d__law_next.F.kp T.d__law_next.b .nil (fun σ => pass_of) (pa_cons (pv 1) (pa_cons pe_int pa_nil)))) pa_nil))) (q_gseq K (n := 2) rfl (pgs_cons (pg_name (i := 3) sc_law.nd rfl (Or.inr rfl)) (pgs_cons (pg_name (i := 4) sc_law.nd rfl (Or.inl rfl)) pgs_nil))))
  (pss_cons (ps_set (i := 5) sc_law.nd rfl (Or.inl rfl) (pe_callTy (q_tuple K) (by rfl) T.n_tuple b_tuple (pa_cons (pe_lc (own := [("_law_k", 12)]) (by rfl) sc_law.nd (pi_range1 (by rfl) T.n_range (pa_cons (pv 4) pa_nil)) (blkOk_by (N := ["_law_script", "_law_state", "_law_turn", "_law_reads", "_law_many", "_law_thing", "_law_other", "_law_fewer", "_law_time", "_law_kept", "_law_found", "_law_odd", "_law_k", "_law_one"]) (sc := (defScope s_law)) (by decide +kernel)) (fun _ _ _ _ _ => (pg_name (i := 12) sc_law.nd rfl (Or.inl rfl))) (fun _ _ _ _ _ => pts_nil) (fun _ _ _ _ _ => (pe_callSD (ok__law_choice T) (hr.mono (by decide)) (by rfl) T.d__law_choice.g T.d__law_choice.F.kp T.d__law_choice.b .nil (fun σ => pass_blk) (pa_cons (pv 1) (pa_cons (pv 3) pa_nil))))) pa_nil)))
  (pss_cons (ps_if (pt_cmpR q_isnotB (pe_callSD (ok_are_choices T) (hr.mono (by decide)) (by rfl) T.d_are_choices.g T.d_are_choices.F.kp T.d_are_choices.b .nil (fun σ => pass_of) (pa_cons (pv 5) (pa_cons (pv 4) (pa_cons (pv 3) pa_nil)))) pe_bl (nomark _))
  (pss_one (ps_ret pe_bl))
  pss_nil)
  (pss_cons (ps_for own_of rfl (q_seq K (pe_lst (pa_cons (pe_tup (pa_cons (pe_op (q_add K) (pv 4) pe_int) (pa_cons (pv 3) pa_nil))) (pa_cons (pe_tup (pa_cons (pe_op q_sub (pv 4) pe_int) (pa_cons (pv 3) pa_nil))) (pa_cons (pe_tup (pa_cons (pv 4) (pa_cons pe_int pa_nil))) (pa_cons (pe_tup (pa_cons (pv 4) (pa_cons pe_int pa_nil))) (pa_cons (pe_tup (pa_cons (pv 4) (pa_cons pe_int pa_nil))) pa_nil))))))) (q_gseq K (n := 2) rfl (pgs_cons (pg_name (i := 6) sc_law.nd rfl (Or.inl rfl)) (pgs_cons (pg_name (i := 7) sc_law.nd rfl (Or.inl rfl)) pgs_nil)))
  (pss_one (ps_if (pt_cmpR (opOr (q_ne K (hu64 hr)) q_neSc) (pe_callB (q_repr K (guards_deeper hgd) hmd (hu64 hr)) (by rfl) T.n_repr b_repr (pa_cons (pe_callSD (ok_are_choices T) (hr.mono (by decide)) (by rfl) T.d_are_choices.g T.d_are_choices.F.kp T.d_are_choices.b .nil (fun σ => pass_of) (pa_cons (pv 5) (pa_cons (pv 6) (pa_cons (pv 7) pa_nil)))) pa_nil)) (pe_callB (q_repr K (guards_deeper hgd) hmd (hu64 hr)) (by rfl) T.n_repr b_repr (pa_cons (pe_callSD (ok__law_are_choices T) (hr.mono (by decide)) (by rfl) T.d__law_are_choices.g T.d__law_are_choices.F.kp T.d__law_are_choices.b .nil (fun σ => pass_of) (pa_cons (pv 5) (pa_cons (pv 6) (pa_cons (pv 7) pa_nil)))) pa_nil)) (nomark _))
  (pss_one (ps_ret pe_bl))
  pss_nil)))
  (pss_cons (ps_for own_of rfl (pi_range1 (by rfl) T.n_range (pa_cons (pe_op (q_add K) pe_int (pe_callSD (ok__law_next T) (hr.mono (by decide)) (by rfl) T.d__law_next.g T.d__law_next.F.kp T.d__law_next.b .nil (fun σ => pass_of) (pa_cons (pv 1) (pa_cons pe_int pa_nil)))) pa_nil)) (pg_name (i := 8) sc_law.nd rfl (Or.inl rfl))
  (pss_one (ps_if (pt_val (pe_callB (q_isinstance K) (by rfl) T.n_isinstance b_isinstance (pa_cons (pv 5) (pa_cons (pe_bltn (v := .ty "tuple") (by rfl) T.n_tuple b_tuple rfl) pa_nil))))
  (pss_one (ps_set (i := 5) sc_law.nd rfl (Or.inl rfl) (pe_callSD (ok__law_bent T) (hr.mono (by decide)) (by rfl) T.d__law_bent.g T.d__law_bent.F.kp T.d__law_bent.b .nil (fun σ => pass_of) (pa_cons (pv 1) (pa_cons (pv 5) pa_nil)))))
  pss_nil)))
  (pss_cons (ps_set (i := 9) sc_law.nd rfl (Or.inl rfl) (pe_callB (q_repr K (guards_deeper hgd) hmd (hu64 hr)) (by rfl) T.n_repr b_repr (pa_cons (pv 5) pa_nil)))
  (pss_cons (ps_set (i := 10) sc_law.nd rfl (Or.inl rfl) (pe_callSD (ok_are_choices T) (hr.mono (by decide)) (by rfl) T.d_are_choices.g T.d_are_choices.F.kp T.d_are_choices.b .nil (fun σ => pass_of) (pa_cons (pv 5) (pa_cons (pv 4) (pa_cons (pv 3) pa_nil)))))
  (pss_one (ps_if (PW.pt (pw_or (pt_cmpR (opOr (q_ne K (hu64 hr)) q_neSc) (pe_callB (q_repr K (guards_deeper hgd) hmd (hu64 hr)) (by rfl) T.n_repr b_repr (pa_cons (pv 10) pa_nil)) (pe_callB (q_repr K (guards_deeper hgd) hmd (hu64 hr)) (by rfl) T.n_repr b_repr (pa_cons (pe_callSD (ok__law_are_choices T) (hr.mono (by decide)) (by rfl) T.d__law_are_choices.g T.d__law_are_choices.F.kp T.d__law_are_choices.b .nil (fun σ => pass_of) (pa_cons (pv 5) (pa_cons (pv 4) (pa_cons (pv 3) pa_nil)))) pa_nil)) (nomark _)) (pw_or1 (pt_cmpR (opOr (q_ne K (hu64 hr)) q_neSc) (pe_callB (q_repr K (guards_deeper hgd) hmd (hu64 hr)) (by rfl) T.n_repr b_repr (pa_cons (pv 5) pa_nil)) (pv 9) (nomark _)))))
  (pss_one (ps_ret pe_bl))
  pss_nil))))))))))
  (pss_cons (ps_set (i := 11) sc_law.nd rfl (Or.inl rfl) (pe_lst (pa_cons pe_non (pa_cons pe_int (pa_cons pe_bl (pa_cons pe_str (pa_cons (pe_lst pa_nil) (pa_cons (q_dF pe_dnewK) (pa_cons (pe_tup (pa_cons pe_str pa_nil)) (pa_cons (pe_tup (pa_cons pe_non pa_nil)) (pa_cons (pe_tup (pa_cons (pe_tup (pa_cons pe_str pa_nil)) pa_nil)) (pa_cons (pe_tup (pa_cons (pe_tup (pa_cons pe_str (pa_cons pe_non pa_nil))) pa_nil)) (pa_cons (pe_op q_pow pe_int pe_int) pa_nil)))))))))))))
  (pss_one (ps_ret (pe_cmpR (q_eqE K (hu64 hr)) (pe_lc (own := [("_law_one", 13)]) (by rfl) sc_law.nd (q_seq K (pv 11)) (blkOk_by (N := ["_law_script", "_law_state", "_law_turn", "_law_reads", "_law_many", "_law_thing", "_law_other", "_law_fewer", "_law_time", "_law_kept", "_law_found", "_law_odd", "_law_k", "_law_one"]) (sc := (defScope s_law)) (by decide +kernel)) (fun _ _ _ _ _ => (pg_name (i := 13) sc_law.nd rfl (Or.inl rfl))) (fun _ _ _ _ _ => (pts_one (pt_cmpR q_isnotB (pe_callSD (ok_are_choices T) (hr.mono (by decide)) (by rfl) T.d_are_choices.g T.d_are_choices.F.kp T.d_are_choices.b .nil (fun σ => pass_blk) (pa_cons (pv 13) (pa_cons pe_int (pa_cons pe_int pa_nil)))) pe_bl (nomark _)))) (fun _ _ _ _ _ => (pv 13))) (pe_lst pa_nil) (nomark _))))))), fun xs M Φ Ψ h => ?_⟩
  · obtain ⟨ns, rfl, _⟩ := h; rfl
  obtain ⟨ns, rfl, rfl, hl, _, k⟩ := h
  k_search 5
  k_search 6
  apply S.forU [some (.scr ns), some (.ref q), none, none, none, none, none, none, none, none, none, none, none, none]
  k_search 63
  · refine S.toI (σ := Nat × Nat) (fun t => [some (.scr ns), some (.ref q), some (.int (i : Int)), some (.int t.1), some (.int t.2), none, none, none, none, none, none, none, none, none]) (fun _ => [(q, .drw)]) (fun t => t.1 ≤ 2 ∧ 1 ≤ t.2 ∧ t.2 ≤ 8) ?_ ?_
    · k_search 6
      rename_i z' _ _
      obtain ⟨r, rfl⟩ : ∃ a : Nat, z' = (a : Int) := ⟨z'.toNat, by omega⟩
      obtain ⟨m, rfl⟩ : ∃ a : Nat, z = (a : Int) := ⟨z.toNat, by omega⟩
      rw [show (1 : Int) + (m : Int) = ((1 + m : Nat) : Int) by omega]
      exact .mk' (r, 1 + m) ⟨by dsimp only; omega, by dsimp only; omega, by dsimp only; omega⟩ (by k_search 16) (by k_search 49)
    rintro ⟨rd, many⟩ ⟨hrd, hm1, hm8⟩
    dsimp only at hrd hm1 hm8 ⊢
    refine S.toI (σ := List Ch) (fun cs => [some (.scr ns), some (.ref q), some (.int (i : Int)), some (.int rd), some (.int many), some (.tup (cs.map chD)), none, none, none, none, none, none, none, none]) (fun _ => [(q, .drw)]) (fun cs => cs.length = many ∧ ∀ c ∈ cs, ChV rd c) ?_ ?_
    · k_search 25
      apply W.lcP chD (ChV rd)
      k_search 13
      k_search 6
      · intro c hc
        exact LcE.mk hc
      intro bs hb hP
      k_search 6
      exact .mk' bs ⟨by simpa using hb, hP⟩ (by k_search 16) (by k_search 49)
    rintro cs ⟨hlen, hcv⟩
    obtain ⟨hf0, hall⟩ := chs_fine hrd hcv
    have hf : FineL 4000 2 (cs.map chD) := hf0.le (by omega) (Nat.le_refl _)
    have hmn : (cs.map chD).length = many := by rw [List.length_map]; exact hlen
    have har : arsD many rd (.tup (cs.map chD)) = true := by
      show (decide (((cs.map chD).length : Int) = (many : Int)) && _) = true
      rw [decide_eq_true (by omega), hall]
      rfl
    generalize cs.map chD = xs at hf hmn har ⊢
    clear hall hf0 hcv hlen
    have hok : okD (.tup xs) := by simp only [okD]; exact hf.ok
    have hsz : szD (.tup xs) ≤ 30000 := by simp only [szD]; have := hf.sz; omega
    k_search 6
    apply S.forU [some (.scr ns), some (.ref q), some (.int (i : Int)), some (.int rd), some (.int many), some (.tup xs), none, none, none, none, none, none, none, none]
    k_search 25
    k_search 20
    · intro j a' ha
      obtain ⟨o, f2, rfl, hf2⟩ : ∃ (o : Int) (f2 : Nat), a' = .tup [.int o, .int f2] ∧ f2 ≤ 2 := by
        have hm := List.mem_of_getElem? ha
        simp only [List.mem_cons, List.not_mem_nil, or_false] at hm
        rcases hm with rfl | rfl | rfl | rfl | rfl
        · exact ⟨_, rd, rfl, hrd⟩
        · exact ⟨_, rd, rfl, hrd⟩
        · exact ⟨_, 0, rfl, by omega⟩
        · exact ⟨_, 1, rfl, by omega⟩
        · exact ⟨_, 2, rfl, by omega⟩
      k_search 6
    refine Fin.ws ?_
    refine WS.seq ?_
    apply S.forQ (σ := D) (fun y => [some (.scr ns), some (.ref q), some (.int (i : Int)), some (.int rd), some (.int many), some (y), none, none, none, none, none, none, none, none]) (fun _ => [(q, .drw)]) (fun i y => ∃ ys, (y = .tup ys ∨ y = .lst ys) ∧ FineL (bnd i) (2 + i) ys)
    k_search 6
    refine ⟨(1 + z).toNat, ?_⟩
    k_search 6
    · exact ⟨.tup xs, ⟨xs, .inl rfl, hf⟩, by k_search 16, by k_search 49⟩
    · rintro j a' y hj ⟨ys, hy, hfy⟩
      obtain ⟨hj, rfl⟩ := range_get hj
      rcases hy with rfl | rfl
      · have hb : FineL 10000 (2 + j) ys := hfy.le (bnd_1 (by omega)) (Nat.le_refl _)
        have hs := hfy.sz
        k_search 6
        · intro zs hz
          have hz2 : FineL (bnd (j + 1)) (2 + (j + 1)) zs := hz.le (Nat.le_trans (by omega) (bnd_s (j := j) (by omega))) (by omega)
          constructor
          · k_search 6
            exact .mk' (.tup zs) ⟨zs, .inl rfl, hz2⟩ (by k_search 16) (by k_search 49)
          · k_search 6
            exact .mk' (.lst zs) ⟨zs, .inr rfl, hz2⟩ (by k_search 16) (by k_search 49)
      · have hb : FineL (bnd (j + 1)) (2 + (j + 1)) ys := hfy.le bnd_m (by omega)
        k_search 6
        exact .mk' (.lst ys) ⟨ys, .inr rfl, hb⟩ (by k_search 16) (by k_search 49)
    · rintro y ⟨ys, hy, hfy⟩
      have hlen : (List.range (1 + z).toNat).length ≤ 2 := by rw [List.length_range]; omega
      have hs := hfy.sz
      have hb := bnd_le (j := (List.range (1 + z).toNat).length)
      have hshw : Shw 20000 6 y := by
        rcases hy with rfl | rfl
        · exact ⟨by simp only [okD]; exact hfy.ok, by simp only [szD]; omega, by simp only [dpD]; have := hfy.dp; omega⟩
        · exact ⟨by simp only [okD]; exact hfy.ok, by simp only [szD]; omega, by simp only [dpD]; have := hfy.dp; omega⟩
      have hto : (∃ xs, y = .tup xs) ∨ ∃ xs, y = .lst xs := hy.elim (fun h => .inl ⟨_, h⟩) fun h => .inr ⟨_, h⟩
      have hok := hshw.ok
      have hsz : szD y ≤ 30000 := Nat.le_trans hshw.sz (by omega)
      clear hy hfy hs hb
      k_search 6
  · k_search 25
    refine Fin.ws ?_
    k_search 25
    apply W.lcF (f := fun a : D => a) (h := fun a : D => a) (c := fun _ => false)
    k_search 13
    k_search 6
    · exact (odd_no _ ha).1
    · exact (odd_no _ ha).2.1
    · exact ⟨by rw [(odd_no _ ha).2.2]; rfl, rfl, fun z => Bool.noConfusion z⟩
end
theorem all_mk {P : Program} {w : World} {K : PySem.W.Frag} {h : Heap} {mg : Str → Option Value} {fa : Addr} (X : K.In h) (G : h.Ns mainGlobals mg) (hfa : mg "law" = some (.ref fa))
    {f1 : Addr} {od1 an1 : Option Addr} {sl1 : Array (Option Value)} {oc1 kV1 dc1 pm1 cd1 ct1 : Value}
    (a1 : PySem.W.nsIn K mainGlobals "is_whole" = some (some (.ref f1))) (l1 : K.lookup f1 = some ⟨oc1, od1, .func (PySem.W.fnOf "is_whole" "is_whole" (defArgs s_is_whole) (defBody s_is_whole) (defScope s_is_whole) .none kV1 dc1 pm1 an1 cd1 ct1), sl1⟩) (c1 : PySem.W.codeIn K cd1 "is_whole" = true) (k1 : PySem.W.keepIn K (.ref f1) = true)
    {f2 : Addr} {od2 an2 : Option Addr} {sl2 : Array (Option Value)} {oc2 kV2 dc2 pm2 cd2 ct2 : Value}
    (a2 : PySem.W.nsIn K mainGlobals "kinds_for" = some (some (.ref f2))) (l2 : K.lookup f2 = some ⟨oc2, od2, .func (PySem.W.fnOf "kinds_for" "kinds_for" (defArgs s_kinds_for) (defBody s_kinds_for) (defScope s_kinds_for) .none kV2 dc2 pm2 an2 cd2 ct2), sl2⟩) (c2 : PySem.W.codeIn K cd2 "kinds_for" = true) (k2 : PySem.W.keepIn K (.ref f2) = true)
    {f3 : Addr} {od3 an3 : Option Addr} {sl3 : Array (Option Value)} {oc3 kV3 dc3 pm3 cd3 ct3 : Value}
    (a3 : PySem.W.nsIn K mainGlobals "is_vector" = some (some (.ref f3))) (l3 : K.lookup f3 = some ⟨oc3, od3, .func (PySem.W.fnOf "is_vector" "is_vector" (defArgs s_is_vector) (defBody s_is_vector) (defScope s_is_vector) .none kV3 dc3 pm3 an3 cd3 ct3), sl3⟩) (c3 : PySem.W.codeIn K cd3 "is_vector" = true) (k3 : PySem.W.keepIn K (.ref f3) = true)
    {f4 : Addr} {od4 an4 : Option Addr} {sl4 : Array (Option Value)} {oc4 kV4 dc4 pm4 cd4 ct4 : Value}
    (a4 : PySem.W.nsIn K mainGlobals "is_rest" = some (some (.ref f4))) (l4 : K.lookup f4 = some ⟨oc4, od4, .func (PySem.W.fnOf "is_rest" "is_rest" (defArgs s_is_rest) (defBody s_is_rest) (defScope s_is_rest) .none kV4 dc4 pm4 an4 cd4 ct4), sl4⟩) (c4 : PySem.W.codeIn K cd4 "is_rest" = true) (k4 : PySem.W.keepIn K (.ref f4) = true)
    {f5 : Addr} {od5 an5 : Option Addr} {sl5 : Array (Option Value)} {oc5 kV5 dc5 pm5 cd5 ct5 : Value}
    (a5 : PySem.W.nsIn K mainGlobals "is_part" = some (some (.ref f5))) (l5 : K.lookup f5 = some ⟨oc5, od5, .func (PySem.W.fnOf "is_part" "is_part" (defArgs s_is_part) (defBody s_is_part) (defScope s_is_part) .none kV5 dc5 pm5 an5 cd5 ct5), sl5⟩) (c5 : PySem.W.codeIn K cd5 "is_part" = true) (k5 : PySem.W.keepIn K (.ref f5) = true)
    {f6 : Addr} {od6 an6 : Option Addr} {sl6 : Array (Option Value)} {oc6 kV6 dc6 pm6 cd6 ct6 : Value}
    (a6 : PySem.W.nsIn K mainGlobals "is_choice" = some (some (.ref f6))) (l6 : K.lookup f6 = some ⟨oc6, od6, .func (PySem.W.fnOf "is_choice" "is_choice" (defArgs s_is_choice) (defBody s_is_choice) (defScope s_is_choice) .none kV6 dc6 pm6 an6 cd6 ct6), sl6⟩) (c6 : PySem.W.codeIn K cd6 "is_choice" = true) (k6 : PySem.W.keepIn K (.ref f6) = true)
    {f7 : Addr} {od7 an7 : Option Addr} {sl7 : Array (Option Value)} {oc7 kV7 dc7 pm7 cd7 ct7 : Value}
    (a7 : PySem.W.nsIn K mainGlobals "are_choices" = some (some (.ref f7))) (l7 : K.lookup f7 = some ⟨oc7, od7, .func (PySem.W.fnOf "are_choices" "are_choices" (defArgs s_are_choices) (defBody s_are_choices) (defScope s_are_choices) .none kV7 dc7 pm7 an7 cd7 ct7), sl7⟩) (c7 : PySem.W.codeIn K cd7 "are_choices" = true) (k7 : PySem.W.keepIn K (.ref f7) = true)
    {f8 : Addr} {od8 an8 : Option Addr} {sl8 : Array (Option Value)} {oc8 kV8 dc8 pm8 cd8 ct8 : Value}
    (a8 : PySem.W.nsIn K mainGlobals "_law_begin" = some (some (.ref f8))) (l8 : K.lookup f8 = some ⟨oc8, od8, .func (PySem.W.fnOf "_law_begin" "_law_begin" (defArgs s__law_begin) (defBody s__law_begin) (defScope s__law_begin) .none kV8 dc8 pm8 an8 cd8 ct8), sl8⟩) (c8 : PySem.W.codeIn K cd8 "_law_begin" = true) (k8 : PySem.W.keepIn K (.ref f8) = true)
    {f9 : Addr} {od9 an9 : Option Addr} {sl9 : Array (Option Value)} {oc9 kV9 dc9 pm9 cd9 ct9 : Value}
    (a9 : PySem.W.nsIn K mainGlobals "_law_more" = some (some (.ref f9))) (l9 : K.lookup f9 = some ⟨oc9, od9, .func (PySem.W.fnOf "_law_more" "_law_more" (defArgs s__law_more) (defBody s__law_more) (defScope s__law_more) .none kV9 dc9 pm9 an9 cd9 ct9), sl9⟩) (c9 : PySem.W.codeIn K cd9 "_law_more" = true) (k9 : PySem.W.keepIn K (.ref f9) = true)
    {f10 : Addr} {od10 an10 : Option Addr} {sl10 : Array (Option Value)} {oc10 kV10 dc10 pm10 cd10 ct10 : Value}
    (a10 : PySem.W.nsIn K mainGlobals "_law_next" = some (some (.ref f10))) (l10 : K.lookup f10 = some ⟨oc10, od10, .func (PySem.W.fnOf "_law_next" "_law_next" (defArgs s__law_next) (defBody s__law_next) (defScope s__law_next) .none kV10 dc10 pm10 an10 cd10 ct10), sl10⟩) (c10 : PySem.W.codeIn K cd10 "_law_next" = true) (k10 : PySem.W.keepIn K (.ref f10) = true)
    {f11 : Addr} {od11 an11 : Option Addr} {sl11 : Array (Option Value)} {oc11 kV11 dc11 pm11 cd11 ct11 : Value}
    (a11 : PySem.W.nsIn K mainGlobals "_law_pick" = some (some (.ref f11))) (l11 : K.lookup f11 = some ⟨oc11, od11, .func (PySem.W.fnOf "_law_pick" "_law_pick" (defArgs s__law_pick) (defBody s__law_pick) (defScope s__law_pick) .none kV11 dc11 pm11 an11 cd11 ct11), sl11⟩) (c11 : PySem.W.codeIn K cd11 "_law_pick" = true) (k11 : PySem.W.keepIn K (.ref f11) = true)
    {f12 : Addr} {od12 an12 : Option Addr} {sl12 : Array (Option Value)} {oc12 kV12 dc12 pm12 cd12 ct12 : Value}
    (a12 : PySem.W.nsIn K mainGlobals "_law_rest" = some (some (.ref f12))) (l12 : K.lookup f12 = some ⟨oc12, od12, .func (PySem.W.fnOf "_law_rest" "_law_rest" (defArgs s__law_rest) (defBody s__law_rest) (defScope s__law_rest) .none kV12 dc12 pm12 an12 cd12 ct12), sl12⟩) (c12 : PySem.W.codeIn K cd12 "_law_rest" = true) (k12 : PySem.W.keepIn K (.ref f12) = true)
    {f13 : Addr} {od13 an13 : Option Addr} {sl13 : Array (Option Value)} {oc13 kV13 dc13 pm13 cd13 ct13 : Value}
    (a13 : PySem.W.nsIn K mainGlobals "_law_any_vector" = some (some (.ref f13))) (l13 : K.lookup f13 = some ⟨oc13, od13, .func (PySem.W.fnOf "_law_any_vector" "_law_any_vector" (defArgs s__law_any_vector) (defBody s__law_any_vector) (defScope s__law_any_vector) .none kV13 dc13 pm13 an13 cd13 ct13), sl13⟩) (c13 : PySem.W.codeIn K cd13 "_law_any_vector" = true) (k13 : PySem.W.keepIn K (.ref f13) = true)
    {f14 : Addr} {od14 an14 : Option Addr} {sl14 : Array (Option Value)} {oc14 kV14 dc14 pm14 cd14 ct14 : Value}
    (a14 : PySem.W.nsIn K mainGlobals "_law_choice" = some (some (.ref f14))) (l14 : K.lookup f14 = some ⟨oc14, od14, .func (PySem.W.fnOf "_law_choice" "_law_choice" (defArgs s__law_choice) (defBody s__law_choice) (defScope s__law_choice) .none kV14 dc14 pm14 an14 cd14 ct14), sl14⟩) (c14 : PySem.W.codeIn K cd14 "_law_choice" = true) (k14 : PySem.W.keepIn K (.ref f14) = true)
    {f15 : Addr} {od15 an15 : Option Addr} {sl15 : Array (Option Value)} {oc15 kV15 dc15 pm15 cd15 ct15 : Value}
    (a15 : PySem.W.nsIn K mainGlobals "_law_bent" = some (some (.ref f15))) (l15 : K.lookup f15 = some ⟨oc15, od15, .func (PySem.W.fnOf "_law_bent" "_law_bent" (defArgs s__law_bent) (defBody s__law_bent) (defScope s__law_bent) .none kV15 dc15 pm15 an15 cd15 ct15), sl15⟩) (c15 : PySem.W.codeIn K cd15 "_law_bent" = true) (k15 : PySem.W.keepIn K (.ref f15) = true)
    {f16 : Addr} {od16 an16 : Option Addr} {sl16 : Array (Option Value)} {oc16 kV16 dc16 pm16 cd16 ct16 : Value}
    (a16 : PySem.W.nsIn K mainGlobals "_law_are" = some (some (.ref f16))) (l16 : K.lookup f16 = some ⟨oc16, od16, .func (PySem.W.fnOf "_law_are" "_law_are" (defArgs s__law_are) (defBody s__law_are) (defScope s__law_are) .none kV16 dc16 pm16 an16 cd16 ct16), sl16⟩) (c16 : PySem.W.codeIn K cd16 "_law_are" = true) (k16 : PySem.W.keepIn K (.ref f16) = true)
    {f17 : Addr} {od17 an17 : Option Addr} {sl17 : Array (Option Value)} {oc17 kV17 dc17 pm17 cd17 ct17 : Value}
    (a17 : PySem.W.nsIn K mainGlobals "_law_is_read" = some (some (.ref f17))) (l17 : K.lookup f17 = some ⟨oc17, od17, .func (PySem.W.fnOf "_law_is_read" "_law_is_read" (defArgs s__law_is_read) (defBody s__law_is_read) (defScope s__law_is_read) .none kV17 dc17 pm17 an17 cd17 ct17), sl17⟩) (c17 : PySem.W.codeIn K cd17 "_law_is_read" = true) (k17 : PySem.W.keepIn K (.ref f17) = true)
    {f18 : Addr} {od18 an18 : Option Addr} {sl18 : Array (Option Value)} {oc18 kV18 dc18 pm18 cd18 ct18 : Value}
    (a18 : PySem.W.nsIn K mainGlobals "_law_is_choice" = some (some (.ref f18))) (l18 : K.lookup f18 = some ⟨oc18, od18, .func (PySem.W.fnOf "_law_is_choice" "_law_is_choice" (defArgs s__law_is_choice) (defBody s__law_is_choice) (defScope s__law_is_choice) .none kV18 dc18 pm18 an18 cd18 ct18), sl18⟩) (c18 : PySem.W.codeIn K cd18 "_law_is_choice" = true) (k18 : PySem.W.keepIn K (.ref f18) = true)
    {f19 : Addr} {od19 an19 : Option Addr} {sl19 : Array (Option Value)} {oc19 kV19 dc19 pm19 cd19 ct19 : Value}
    (a19 : PySem.W.nsIn K mainGlobals "_law_are_choices" = some (some (.ref f19))) (l19 : K.lookup f19 = some ⟨oc19, od19, .func (PySem.W.fnOf "_law_are_choices" "_law_are_choices" (defArgs s__law_are_choices) (defBody s__law_are_choices) (defScope s__law_are_choices) .none kV19 dc19 pm19 an19 cd19 ct19), sl19⟩) (c19 : PySem.W.codeIn K cd19 "_law_are_choices" = true) (k19 : PySem.W.keepIn K (.ref f19) = true)
    {f20 : Addr} {od20 an20 : Option Addr} {sl20 : Array (Option Value)} {oc20 kV20 dc20 pm20 cd20 ct20 : Value}
    (a20 : PySem.W.nsIn K mainGlobals "law" = some (some (.ref f20))) (l20 : K.lookup f20 = some ⟨oc20, od20, .func (PySem.W.fnOf "law" "law" (defArgs s_law) (defBody s_law) (defScope s_law) .none kV20 dc20 pm20 an20 cd20 ct20), sl20⟩) (c20 : PySem.W.codeIn K cd20 "law" = true) (k20 : PySem.W.keepIn K (.ref f20) = true)
    (z_abs : PySem.W.nsIn K mainGlobals "abs" = some none)
    (z_all : PySem.W.nsIn K mainGlobals "all" = some none)
    (z_bool : PySem.W.nsIn K mainGlobals "bool" = some none)
    (z_enumerate : PySem.W.nsIn K mainGlobals "enumerate" = some none)
    (z_int : PySem.W.nsIn K mainGlobals "int" = some none)
    (z_isinstance : PySem.W.nsIn K mainGlobals "isinstance" = some none)
    (z_len : PySem.W.nsIn K mainGlobals "len" = some none)
    (z_list : PySem.W.nsIn K mainGlobals "list" = some none)
    (z_max : PySem.W.nsIn K mainGlobals "max" = some none)
    (z_min : PySem.W.nsIn K mainGlobals "min" = some none)
    (z_range : PySem.W.nsIn K mainGlobals "range" = some none)
    (z_repr : PySem.W.nsIn K mainGlobals "repr" = some none)
    (z_str : PySem.W.nsIn K mainGlobals "str" = some none)
    (z_tuple : PySem.W.nsIn K mainGlobals "tuple" = some none)
    (z_zip : PySem.W.nsIn K mainGlobals "zip" = some none)
    {t_MOST_REST : Tok} (z_MOST_REST : PySem.W.nsIn K mainGlobals "MOST_REST" = some (some (.int (4000) t_MOST_REST)))
    {t_MOST_VECTOR : Tok} (z_MOST_VECTOR : PySem.W.nsIn K mainGlobals "MOST_VECTOR" = some (some (.int (32) t_MOST_VECTOR)))
    {a_BESIDE : Addr} {nn_BESIDE : Nat} {sl_BESIDE : Array (Option Value)} {t_BESIDE_0 t_BESIDE_1 t_BESIDE_2 t_BESIDE_3 : Tok} (z_BESIDE : PySem.W.nsIn K mainGlobals "BESIDE" = some (some (.ref a_BESIDE))) (w_BESIDE : K.lookup a_BESIDE = some ⟨.type "tuple", none, .seq #[.str "flat" t_BESIDE_0, .str "left" t_BESIDE_1, .str "above" t_BESIDE_2, .str "slope" t_BESIDE_3] nn_BESIDE, sl_BESIDE⟩)
    {a_FORMS : Addr} {es_FORMS : Array DictEntry} {nn_FORMS : Nat} (z_FORMS : PySem.W.nsIn K mainGlobals "FORMS" = some (some (.ref a_FORMS))) (w_FORMS : K.lookup a_FORMS = some ⟨.type "dict", none, .dict es_FORMS nn_FORMS, #[]⟩) (kl_FORMS : PySem.W.KeysLit w.params es_FORMS.toList)
    {t_FORMS_0 : Tok} (e_FORMS_0 : PySem.W.nsIn K a_FORMS "flat" = some (some (.str "s" t_FORMS_0)))
    {t_FORMS_1 : Tok} (e_FORMS_1 : PySem.W.nsIn K a_FORMS "left" = some (some (.str "s" t_FORMS_1)))
    {t_FORMS_2 : Tok} (e_FORMS_2 : PySem.W.nsIn K a_FORMS "above" = some (some (.str "s" t_FORMS_2)))
    {t_FORMS_3 : Tok} (e_FORMS_3 : PySem.W.nsIn K a_FORMS "slope" = some (some (.str "s" t_FORMS_3)))
    {t_FORMS_4 : Tok} (e_FORMS_4 : PySem.W.nsIn K a_FORMS "as" = some (some (.str "r" t_FORMS_4)))
    {t_FORMS_5 : Tok} (e_FORMS_5 : PySem.W.nsIn K a_FORMS "moved" = some (some (.str "rvs" t_FORMS_5)))
    {t_FORMS_6 : Tok} (e_FORMS_6 : PySem.W.nsIn K a_FORMS "both" = some (some (.str "vvs" t_FORMS_6))) :
    ∃ fd : FuncData, (∀ (s : Shared) (u : Value), BindsTo s fd ⟨[u], []⟩ [("_law_script", u)]) ∧ ∀ base : Heap, K.In base → base.Ns mainGlobals mg → (∃ mm, base.Ns sysModules mm) → LawOk P w K mg base (L2.CX P w) fa fd ["_law_script"] (lift K spLaw) := by
  have e := hfa.symm.trans (PySem.W.mg_of X G a20)
  cases e
  have F1 := fun_mk (st := s_is_whole) l1 c1 k1
  have b1 := F1.binds (ps := ["thing", "least", "most"]) fun _ _ _ _ _ _ us hl => match us, hl with | [_, _, _], _ => rfl
  have F2 := fun_mk (st := s_kinds_for) l2 c2 k2
  have b2 := F2.binds (ps := ["reads"]) fun _ _ _ _ _ _ us hl => match us, hl with | [_], _ => rfl
  have F3 := fun_mk (st := s_is_vector) l3 c3 k3
  have b3 := F3.binds (ps := ["thing"]) fun _ _ _ _ _ _ us hl => match us, hl with | [_], _ => rfl
  have F4 := fun_mk (st := s_is_rest) l4 c4 k4
  have b4 := F4.binds (ps := ["thing"]) fun _ _ _ _ _ _ us hl => match us, hl with | [_], _ => rfl
  have F5 := fun_mk (st := s_is_part) l5 c5 k5
  have b5 := F5.binds (ps := ["sign", "thing", "reads"]) fun _ _ _ _ _ _ us hl => match us, hl with | [_, _, _], _ => rfl
  have F6 := fun_mk (st := s_is_choice) l6 c6 k6
  have b6 := F6.binds (ps := ["thing", "reads"]) fun _ _ _ _ _ _ us hl => match us, hl with | [_, _], _ => rfl
  have F7 := fun_mk (st := s_are_choices) l7 c7 k7
  have b7 := F7.binds (ps := ["thing", "many", "reads"]) fun _ _ _ _ _ _ us hl => match us, hl with | [_, _, _], _ => rfl
  have F8 := fun_mk (st := s__law_begin) l8 c8 k8
  have b8 := F8.binds (ps := ["_law_script"]) fun _ _ _ _ _ _ us hl => match us, hl with | [_], _ => rfl
  have F9 := fun_mk (st := s__law_more) l9 c9 k9
  have b9 := F9.binds (ps := ["_law_state"]) fun _ _ _ _ _ _ us hl => match us, hl with | [_], _ => rfl
  have F10 := fun_mk (st := s__law_next) l10 c10 k10
  have b10 := F10.binds (ps := ["_law_state", "_law_most"]) fun _ _ _ _ _ _ us hl => match us, hl with | [_, _], _ => rfl
  have F11 := fun_mk (st := s__law_pick) l11 c11 k11
  have b11 := F11.binds (ps := ["_law_state", "_law_some"]) fun _ _ _ _ _ _ us hl => match us, hl with | [_, _], _ => rfl
  have F12 := fun_mk (st := s__law_rest) l12 c12 k12
  have b12 := F12.binds (ps := ["_law_state"]) fun _ _ _ _ _ _ us hl => match us, hl with | [_], _ => rfl
  have F13 := fun_mk (st := s__law_any_vector) l13 c13 k13
  have b13 := F13.binds (ps := ["_law_state"]) fun _ _ _ _ _ _ us hl => match us, hl with | [_], _ => rfl
  have F14 := fun_mk (st := s__law_choice) l14 c14 k14
  have b14 := F14.binds (ps := ["_law_state", "_law_reads"]) fun _ _ _ _ _ _ us hl => match us, hl with | [_, _], _ => rfl
  have F15 := fun_mk (st := s__law_bent) l15 c15 k15
  have b15 := F15.binds (ps := ["_law_state", "_law_thing"]) fun _ _ _ _ _ _ us hl => match us, hl with | [_, _], _ => rfl
  have F16 := fun_mk (st := s__law_are) l16 c16 k16
  have b16 := F16.binds (ps := ["_law_thing", "_law_many", "_law_far"]) fun _ _ _ _ _ _ us hl => match us, hl with | [_, _, _], _ => rfl
  have F17 := fun_mk (st := s__law_is_read) l17 c17 k17
  have b17 := F17.binds (ps := ["_law_thing", "_law_reads"]) fun _ _ _ _ _ _ us hl => match us, hl with | [_, _], _ => rfl
  have F18 := fun_mk (st := s__law_is_choice) l18 c18 k18
  have b18 := F18.binds (ps := ["_law_thing", "_law_reads"]) fun _ _ _ _ _ _ us hl => match us, hl with | [_, _], _ => rfl
  have F19 := fun_mk (st := s__law_are_choices) l19 c19 k19
  have b19 := F19.binds (ps := ["_law_thing", "_law_many", "_law_reads"]) fun _ _ _ _ _ _ us hl => match us, hl with | [_, _, _], _ => rfl
  have F20 := fun_mk (st := s_law) l20 c20 k20
  have b20 := F20.binds (ps := ["_law_script"]) fun _ _ _ _ _ _ us hl => match us, hl with | [_], _ => rfl
  let T : Tx K mg w := { d_is_whole := ⟨_, _, F1, PySem.W.mg_of X G a1, b1⟩, d_kinds_for := ⟨_, _, F2, PySem.W.mg_of X G a2, b2⟩, d_is_vector := ⟨_, _, F3, PySem.W.mg_of X G a3, b3⟩, d_is_rest := ⟨_, _, F4, PySem.W.mg_of X G a4, b4⟩, d_is_part := ⟨_, _, F5, PySem.W.mg_of X G a5, b5⟩, d_is_choice := ⟨_, _, F6, PySem.W.mg_of X G a6, b6⟩, d_are_choices := ⟨_, _, F7, PySem.W.mg_of X G a7, b7⟩, d__law_begin := ⟨_, _, F8, PySem.W.mg_of X G a8, b8⟩, d__law_more := ⟨_, _, F9, PySem.W.mg_of X G a9, b9⟩, d__law_next := ⟨_, _, F10, PySem.W.mg_of X G a10, b10⟩, d__law_pick := ⟨_, _, F11, PySem.W.mg_of X G a11, b11⟩, d__law_rest := ⟨_, _, F12, PySem.W.mg_of X G a12, b12⟩, d__law_any_vector := ⟨_, _, F13, PySem.W.mg_of X G a13, b13⟩, d__law_choice := ⟨_, _, F14, PySem.W.mg_of X G a14, b14⟩, d__law_bent := ⟨_, _, F15, PySem.W.mg_of X G a15, b15⟩, d__law_are := ⟨_, _, F16, PySem.W.mg_of X G a16, b16⟩, d__law_is_read := ⟨_, _, F17, PySem.W.mg_of X G a17, b17⟩, d__law_is_choice := ⟨_, _, F18, PySem.W.mg_of X G a18, b18⟩, d__law_are_choices := ⟨_, _, F19, PySem.W.mg_of X G a19, b19⟩, d_law := ⟨_, _, F20, PySem.W.mg_of X G a20, b20⟩, n_abs := PySem.W.mg_none_of X G z_abs, n_all := PySem.W.mg_none_of X G z_all, n_bool := PySem.W.mg_none_of X G z_bool, n_enumerate := PySem.W.mg_none_of X G z_enumerate, n_int := PySem.W.mg_none_of X G z_int, n_isinstance := PySem.W.mg_none_of X G z_isinstance, n_len := PySem.W.mg_none_of X G z_len, n_list := PySem.W.mg_none_of X G z_list, n_max := PySem.W.mg_none_of X G z_max, n_min := PySem.W.mg_none_of X G z_min, n_range := PySem.W.mg_none_of X G z_range, n_repr := PySem.W.mg_none_of X G z_repr, n_str := PySem.W.mg_none_of X G z_str, n_tuple := PySem.W.mg_none_of X G z_tuple, n_zip := PySem.W.mg_none_of X G z_zip, t_MOST_REST := t_MOST_REST, c_MOST_REST := PySem.W.mg_of X G z_MOST_REST, t_MOST_VECTOR := t_MOST_VECTOR, c_MOST_VECTOR := PySem.W.mg_of X G z_MOST_VECTOR, g_BESIDE := a_BESIDE, c_BESIDE := PySem.W.mg_of X G z_BESIDE, q_BESIDE := ⟨_, w_BESIDE, rfl, rfl⟩, v_BESIDE := gtup (vs := [.str "flat", .str "left", .str "above", .str "slope"]) w_BESIDE (by show 4 ≤ sizeLine; decide) (.cons ⟨_, rfl⟩ (.cons ⟨_, rfl⟩ (.cons ⟨_, rfl⟩ (.cons ⟨_, rfl⟩ .nil)))) (fun F => (.cons (.str _) (.cons (.str _) (.cons (.str _) (.cons (.str _) .nil))))), g_FORMS := a_FORMS, c_FORMS := PySem.W.mg_of X G z_FORMS, s_FORMS_0 := ⟨_, _, _, w_FORMS, kl_FORMS, e_FORMS_0, ⟨_, rfl⟩⟩, s_FORMS_1 := ⟨_, _, _, w_FORMS, kl_FORMS, e_FORMS_1, ⟨_, rfl⟩⟩, s_FORMS_2 := ⟨_, _, _, w_FORMS, kl_FORMS, e_FORMS_2, ⟨_, rfl⟩⟩, s_FORMS_3 := ⟨_, _, _, w_FORMS, kl_FORMS, e_FORMS_3, ⟨_, rfl⟩⟩, s_FORMS_4 := ⟨_, _, _, w_FORMS, kl_FORMS, e_FORMS_4, ⟨_, rfl⟩⟩, s_FORMS_5 := ⟨_, _, _, w_FORMS, kl_FORMS, e_FORMS_5, ⟨_, rfl⟩⟩, s_FORMS_6 := ⟨_, _, _, w_FORMS, kl_FORMS, e_FORMS_6, ⟨_, rfl⟩⟩ }
  exact ⟨_, fun s v => .of_eq rfl, fun base _ _ hm => ok_law T hm⟩
theorem walk {l : PySem.W.OpenLaw} {q : Program} {loose : List Str} {XP : (Str → Option Value) → Heap → Prop} {YP : World → Heap → Prop} {d : DefRec} {K : Params → PySem.W.Frag} (hn : l.most = some 63) (hdf : d.params.defaults = []) (hi : PyProof.Rows.importsNone q = true)
    (hY : ∀ (w : World) (h : Heap), YP w h → (K w.params).In h)
    (F : ∀ (w : World) (mg : Str → Option Value) (fa : Addr) (h : Heap), (K w.params).In h → h.Ns mainGlobals mg → mg d.name = some (.ref fa) →
      ∃ fd : FuncData, (∀ (s : Shared) (u : Value), BindsTo s fd ⟨[u], []⟩ [("_law_script", u)]) ∧ ∀ base : Heap, (K w.params).In base → base.Ns mainGlobals mg → (∃ mm, base.Ns sysModules mm) → LawOk l.prog w (K w.params) mg base (L2.CX l.prog w) fa fd ["_law_script"] (lift (K w.params) spLaw)) :
    PySem.W.WalkO q loose XP YP l.row.toRowW d [] (fun f vs => PySem.call f vs) :=
  walk_ofG (n := 63) (x := "_law_script") (CX := fun w => L2.CX l.prog w) (sp := fun w => lift (K w.params) spLaw) hn (by decide) hdf hi hY F (fun _ H a ns hl hb _ hS => law_start hl hb hS) fun w H s e s' z => cx_none z

end Lw
open PySem PySem.W PyProof.Rows in
set_option maxRecDepth 100000 in
set_option maxHeartbeats 0 in
theorem PySem.Challenge.cw_sameshown_k14_what_are_choices_holds : PySem.Challenge.rw_sameshown_k14_what_are_choices.Holds := by
  refine Lw.look ?_
  w_on; k_head; (case hw => w_witness2)
  k_fill
  refine Lw.walk (l := PySem.Challenge.rw_sameshown_k14_what_are_choices) rfl rfl ?hi (fun w h Y => PySem.W.kIn_of Y) ?F
  case hi => rfl
  case F =>
    intro w mg fa h KX G hmg
    refine' Lw.all_mk KX G hmg ?a1 ?l1 ?c1 ?k1 ?a2 ?l2 ?c2 ?k2 ?a3 ?l3 ?c3 ?k3 ?a4 ?l4 ?c4 ?k4 ?a5 ?l5 ?c5 ?k5 ?a6 ?l6 ?c6 ?k6 ?a7 ?l7 ?c7 ?k7 ?a8 ?l8 ?c8 ?k8 ?a9 ?l9 ?c9 ?k9 ?a10 ?l10 ?c10 ?k10 ?a11 ?l11 ?c11 ?k11 ?a12 ?l12 ?c12 ?k12 ?a13 ?l13 ?c13 ?k13 ?a14 ?l14 ?c14 ?k14 ?a15 ?l15 ?c15 ?k15 ?a16 ?l16 ?c16 ?k16 ?a17 ?l17 ?c17 ?k17 ?a18 ?l18 ?c18 ?k18 ?a19 ?l19 ?c19 ?k19 ?a20 ?l20 ?c20 ?k20 ?z_abs ?z_all ?z_bool ?z_enumerate ?z_int ?z_isinstance ?z_len ?z_list ?z_max ?z_min ?z_range ?z_repr ?z_str ?z_tuple ?z_zip ?z_MOST_REST ?z_MOST_VECTOR ?z_BESIDE ?w_BESIDE ?z_FORMS ?w_FORMS ?kl_FORMS ?e_FORMS_0 ?e_FORMS_1 ?e_FORMS_2 ?e_FORMS_3 ?e_FORMS_4 ?e_FORMS_5 ?e_FORMS_6
    (case a1 => k_is)
    (case l1 => k_is)
    (case c1 => k_is)
    (case k1 => k_is)
    (case a2 => k_is)
    (case l2 => k_is)
    (case c2 => k_is)
    (case k2 => k_is)
    (case a3 => k_is)
    (case l3 => k_is)
    (case c3 => k_is)
    (case k3 => k_is)
    (case a4 => k_is)
    (case l4 => k_is)
    (case c4 => k_is)
    (case k4 => k_is)
    (case a5 => k_is)
    (case l5 => k_is)
    (case c5 => k_is)
    (case k5 => k_is)
    (case a6 => k_is)
    (case l6 => k_is)
    (case c6 => k_is)
    (case k6 => k_is)
    (case a7 => k_is)
    (case l7 => k_is)
    (case c7 => k_is)
    (case k7 => k_is)
    (case a8 => k_is)
    (case l8 => k_is)
    (case c8 => k_is)
    (case k8 => k_is)
    (case a9 => k_is)
    (case l9 => k_is)
    (case c9 => k_is)
    (case k9 => k_is)
    (case a10 => k_is)
    (case l10 => k_is)
    (case c10 => k_is)
    (case k10 => k_is)
    (case a11 => k_is)
    (case l11 => k_is)
    (case c11 => k_is)
    (case k11 => k_is)
    (case a12 => k_is)
    (case l12 => k_is)
    (case c12 => k_is)
    (case k12 => k_is)
    (case a13 => k_is)
    (case l13 => k_is)
    (case c13 => k_is)
    (case k13 => k_is)
    (case a14 => k_is)
    (case l14 => k_is)
    (case c14 => k_is)
    (case k14 => k_is)
    (case a15 => k_is)
    (case l15 => k_is)
    (case c15 => k_is)
    (case k15 => k_is)
    (case a16 => k_is)
    (case l16 => k_is)
    (case c16 => k_is)
    (case k16 => k_is)
    (case a17 => k_is)
    (case l17 => k_is)
    (case c17 => k_is)
    (case k17 => k_is)
    (case a18 => k_is)
    (case l18 => k_is)
    (case c18 => k_is)
    (case k18 => k_is)
    (case a19 => k_is)
    (case l19 => k_is)
    (case c19 => k_is)
    (case k19 => k_is)
    (case a20 => k_is)
    (case l20 => k_is)
    (case c20 => k_is)
    (case k20 => k_is)
    (case z_abs => k_is)
    (case z_all => k_is)
    (case z_bool => k_is)
    (case z_enumerate => k_is)
    (case z_int => k_is)
    (case z_isinstance => k_is)
    (case z_len => k_is)
    (case z_list => k_is)
    (case z_max => k_is)
    (case z_min => k_is)
    (case z_range => k_is)
    (case z_repr => k_is)
    (case z_str => k_is)
    (case z_tuple => k_is)
    (case z_zip => k_is)
    (case z_MOST_REST => k_is)
    (case z_MOST_VECTOR => k_is)
    (case z_BESIDE => k_is)
    (case w_BESIDE => k_is)
    (case z_FORMS => k_is)
    (case w_FORMS => k_is)
    (case kl_FORMS => (repeat' (first | exact True.intro | refine ⟨⟨_, _, rfl, rfl⟩, ?_⟩)))
    (case e_FORMS_0 => k_is)
    (case e_FORMS_1 => k_is)
    (case e_FORMS_2 => k_is)
    (case e_FORMS_3 => k_is)
    (case e_FORMS_4 => k_is)
    (case e_FORMS_5 => k_is)
    (case e_FORMS_6 => k_is)

