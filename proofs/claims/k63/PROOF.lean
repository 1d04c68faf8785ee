import PyProof.Rows.All
import Wide.All
import OpenK.AllK
import Wide.FinOn
import HandS.ForMost
import HandS.ForExc
import HandS.CallSlots
import HandS.WordsExc
import HandS.Defaults
import HandS.ExcCtx
import HandS.SuiteRaise
import HandS.Style
import HandS.TupAny
import HandS.TupMul
import HandS.Zip
import HandS.IsInst
import HandS.Conv
import HandS.Sort
import KE.KExcSuper
import KE.KSuper
import HandS.ExcInit
import HandS.Nested
import HandS.FStr
import HandS.HotCalls
import HandS.ExcIs
import HandS.ExcField
import HandS.HeadHook1
import HandS.HeadHook2
import PyProof.ReprRoads
import HandS.OwnEq
import HandS.Head0
import HandS.Head1
import HandS.Head2
import HandS.HeadEnd
import HandS.Ends
import HandS.WideBits
import PyProof.ReprBulk
import PySem.Challenge.RW_framesays_k63_algebra_faults
set_option Elab.async false
set_option linter.all false
set_option maxRecDepth 100000
/-! The data layer: readings over plain data (D), the heap hidden. Data that never change are values; what a def changes stands in a store M of cells. -/
namespace DL
open PySem PySem.Spec PyProof.Rows L2

/-- G knows all that F knows -/
structure Le (F G : Hp) : Prop where
  of : ∀ {b : Addr} {u : HO}, F b = some u → G b = some u
theorem Le.rfl' (F : Hp) : Le F F := ⟨fun h => h⟩
theorem Le.then' {F G J : Hp} (p : Le F G) (q : Le G J) : Le F J := ⟨fun h => q.of (p.of h)⟩
theorem known_ne {F : Hp} {p b : Addr} {u : HO} (h : F p = none) (e : F b = some u) : b ≠ p := by
  intro z
  subst z
  rw [h] at e
  cases e
theorem Le.add {F : Hp} {p : Addr} {u : HO} (h : F p = none) : Le F (upd F p u) := ⟨fun {b v} e => by
  rw [upd_ne (known_ne h e)]
  exact e⟩
/-- a place that F does not know may change -/
theorem Le.past {F G : Hp} {p : Addr} {u : HO} (e : Le F G) (h : F p = none) : Le F (upd G p u) := ⟨fun {b v} k => by
  rw [upd_ne (known_ne h k)]
  exact e.of k⟩
theorem Le.off {F G : Hp} {p : Addr} (e : Le F G) (h : G p = none) : F p = none := by
  cases k : F p with
  | none => rfl
  | some u =>
    rw [e.of k] at h
    cases h
theorem Le.rd {F G : Hp} (e : Le F G) {b : Addr} {u : HO} (h : Rd F b u) : Rd G b u := by
  rcases h with h | ⟨o, h⟩
  · exact .inl (e.of h)
  · exact .inr ⟨o, e.of h⟩
theorem Le.sql {F G : Hp} (e : Le F G) {K : PySem.W.Frag} {b : Addr} {xs : List V} (h : SqL K F b xs) : SqL K G b xs := by
  rcases h with h | h
  · exact .inl (e.rd h)
  · exact .inr h
theorem Le.sqt {F G : Hp} (e : Le F G) {K : PySem.W.Frag} {b : Addr} {xs : List V} (h : SqT K F b xs) : SqT K G b xs := by
  rcases h with h | h
  · exact .inl (e.rd h)
  · exact .inr h

/-- the program's own objects: what an object of each form looks like -/
class Obs where
  Ob : Type
  rel : PySem.W.Frag → Hp → Addr → Ob → Prop
  mono : ∀ {K : PySem.W.Frag} {F G : Hp} {a : Addr} {x : Ob}, Le F G → rel K F a x → rel K G a x

/-- data -/
inductive D [B : Obs] where
  | non | bl (b : Bool) | int (i : Int) | str (x : Str) | ty (n : String) | ref (a : Addr)
  | lst (xs : List D) | tup (xs : List D) | rng (lo hi : Int) | ob (x : B.Ob) | scr (ns : List Int)
  | exc (a C dd : Addr) (ns : List Str) (ds : List D) | ins (C : Addr) (ns : List Str) (ds : List D)
variable [B : Obs]

/-- a part that may lack -/
def optP {α : Type} (o : Option α) (P : α → Prop) : Prop := match o with
  | some x => P x
  | none => False
theorem optP_some {α : Type} {x : α} {P : α → Prop} : optP (some x) P = P x := rfl
theorem optP_out {α : Type} {o : Option α} {P : α → Prop} (h : optP o P) : ∃ x, o = some x ∧ P x := by
  cases o with
  | none => exact h.elim
  | some x => exact ⟨x, rfl, h⟩
theorem optP_in {α : Type} {o : Option α} {P : α → Prop} {x : α} (e : o = some x) (h : P x) : optP o P := by
  subst e
  exact h
mutual
/-- the value v bears the datum d -/
inductive Rp (K : PySem.W.Frag) (F : Hp) : V → D → Prop
  | non : Rp K F .non .non
  | bl (b : Bool) : Rp K F (.bl b) (.bl b)
  | int (i : Int) : Rp K F (.int i) (.int i)
  | str (x : Str) : Rp K F (.str x) (.str x)
  | ty (n : String) : Rp K F (.ty n) (.ty n)
  | ref (a : Addr) : Rp K F (.ref a) (.ref a)
  | lst {a : Addr} {vs : List V} {ds : List D} (h : F a = some (.lst vs)) (r : Rps K F vs ds) : Rp K F (.ref a) (.lst ds)
  | tup {a : Addr} {vs : List V} {ds : List D} (h : SqT K F a vs) (r : Rps K F vs ds) : Rp K F (.ref a) (.tup ds)
  | rng {a : Addr} {lo hi : Int} (h : F a = some (.rng lo hi)) : Rp K F (.ref a) (.rng lo hi)
  | ob {a : Addr} {x : B.Ob} (h : B.rel K F a x) : Rp K F (.ref a) (.ob x)
  | scr {a : Addr} {ns : List Int} (h : SqL K F a (ns.map V.int)) : Rp K F (.ref a) (.scr ns)
  | exc {a C dd : Addr} {ns : List Str} {vs : List V} {ds : List D} (h : F dd = some (.xd (ns.zip vs))) (r : Rps K F vs ds) : Rp K F (.ref a) (.exc a C dd ns ds)
  | ins {a C dx : Addr} {ns : List Str} {vs : List V} {ds : List D} (h : F a = some (.ins C dx (ns.zip vs))) (r : Rps K F vs ds) : Rp K F (.ref a) (.ins C ns ds)
inductive Rps (K : PySem.W.Frag) (F : Hp) : List V → List D → Prop
  | nil : Rps K F [] []
  | cons {v : V} {d : D} {vs : List V} {ds : List D} (h : Rp K F v d) (t : Rps K F vs ds) : Rps K F (v :: vs) (d :: ds)
end

mutual
theorem Rp.mono {K : PySem.W.Frag} {F G : Hp} (e : Le F G) {v : V} {d : D} (h : Rp K F v d) : Rp K G v d := by
  cases h with
  | non => exact .non
  | bl b => exact .bl b
  | int i => exact .int i
  | str x => exact .str x
  | ty n => exact .ty n
  | ref a => exact .ref a
  | lst h r => exact .lst (e.of h) (Rps.mono e r)
  | scr h => exact .scr (e.sql h)
  | tup h r => exact .tup (e.sqt h) (Rps.mono e r)
  | rng h => exact .rng (e.of h)
  | ob h => exact .ob (B.mono e h)
  | exc h r => exact .exc (e.of h) (Rps.mono e r)
  | ins h r => exact .ins (e.of h) (Rps.mono e r)
theorem Rps.mono {K : PySem.W.Frag} {F G : Hp} (e : Le F G) {vs : List V} {ds : List D} (h : Rps K F vs ds) : Rps K G vs ds := by
  cases h with
  | nil => exact .nil
  | cons h t => exact .cons (Rp.mono e h) (Rps.mono e t)
end

section
variable {K : PySem.W.Frag} {F : Hp}
theorem Rps.len {vs : List V} {ds : List D} : Rps K F vs ds → vs.length = ds.length := by
  intro h
  induction vs generalizing ds with
  | nil =>
    cases h
    rfl
  | cons v vs ih =>
    cases h with
    | cons h t => exact congrArg Nat.succ (ih t)
theorem Rps.app {vs ws : List V} {ds es : List D} (h : Rps K F vs ds) (g : Rps K F ws es) : Rps K F (vs ++ ws) (ds ++ es) := by
  induction vs generalizing ds with
  | nil =>
    cases h
    exact g
  | cons v vs ih =>
    cases h with
    | cons h t => exact .cons h (ih t)
theorem Rps.one {v : V} {d : D} (h : Rp K F v d) : Rps K F [v] [d] := .cons h .nil
theorem Rps.at' {vs : List V} {ds : List D} (h : Rps K F vs ds) : ∀ {i : Nat} {d : D}, ds[i]? = some d → ∃ v, vs[i]? = some v ∧ Rp K F v d := by
  induction vs generalizing ds with
  | nil =>
    cases h
    intro i d e
    simp at e
  | cons v vs ih =>
    cases h with
    | cons h t =>
      intro i d e
      cases i with
      | zero =>
        have e1 : _ = d := Option.some.inj e
        subst e1
        exact ⟨v, rfl, h⟩
      | succ i => exact ih t (i := i) e
theorem Rps.put {vs : List V} {ds : List D} (h : Rps K F vs ds) {v : V} {d : D} (r : Rp K F v d) : ∀ i : Nat, Rps K F (vs.set i v) (ds.set i d) := by
  induction vs generalizing ds with
  | nil =>
    cases h
    exact fun _ => .nil
  | cons w vs ih =>
    cases h with
    | cons h t =>
      intro i
      cases i with
      | zero => exact .cons r t
      | succ i => exact .cons h (ih t i)
theorem Rps.drop' {vs : List V} {ds : List D} (h : Rps K F vs ds) : ∀ i : Nat, Rps K F (vs.drop i) (ds.drop i) := by
  induction vs generalizing ds with
  | nil =>
    cases h
    intro i
    rw [List.drop_nil, List.drop_nil]
    exact .nil
  | cons w vs ih =>
    cases h with
    | cons h t =>
      intro i
      cases i with
      | zero => exact .cons h t
      | succ i => exact ih t i
theorem Rps.take' {vs : List V} {ds : List D} (h : Rps K F vs ds) : ∀ i : Nat, Rps K F (vs.take i) (ds.take i) := by
  induction vs generalizing ds with
  | nil =>
    cases h
    intro i
    rw [List.take_nil, List.take_nil]
    exact .nil
  | cons w vs ih =>
    cases h with
    | cons h t =>
      intro i
      cases i with
      | zero => exact .nil
      | succ i => exact .cons h (ih t i)
theorem Rps.init {vs : List V} {ds : List D} (h : Rps K F vs ds) : Rps K F vs.dropLast ds.dropLast := by
  rw [List.dropLast_eq_take, List.dropLast_eq_take, h.len]
  exact h.take' _
theorem Rps.erase {vs : List V} {ds : List D} (h : Rps K F vs ds) (i : Nat) : Rps K F (vs.eraseIdx i) (ds.eraseIdx i) := by
  rw [List.eraseIdx_eq_take_drop_succ, List.eraseIdx_eq_take_drop_succ]
  exact (h.take' _).app (h.drop' _)
theorem Rps.back {vs : List V} {ds : List D} (h : Rps K F vs ds) : Rps K F vs.reverse ds.reverse := by
  induction vs generalizing ds with
  | nil =>
    cases h
    exact .nil
  | cons w vs ih =>
    cases h with
    | cons h t =>
      rw [List.reverse_cons, List.reverse_cons]
      exact (ih t).app (.one h)
theorem Rps.ints : ∀ ns : List Int, Rps K F (ns.map V.int) (ns.map D.int)
  | [] => .nil
  | n :: ns => .cons (.int n) (Rps.ints ns)
theorem Rps.of_ints {vs : List V} : ∀ {ns : List Int}, Rps K F vs (ns.map D.int) → vs = ns.map V.int := by
  intro ns h
  induction ns generalizing vs with
  | nil =>
    cases h
    rfl
  | cons n ns ih =>
    cases h with
    | cons h t =>
      cases h
      rw [ih t]
      rfl
end

/-- fields by their names -/
abbrev Flds := List (Str × D)
def Rfs (K : PySem.W.Frag) (F : Hp) : List (Str × V) → Flds → Prop := Paired fun p q => p.1 = q.1 ∧ Rp K F p.2 q.2

/-- what a cell of the store holds -/
inductive MC where
  | lst (ds : List D) | ins (C : Addr) (fs : Flds) | dic (kvs : List (Key × D)) | dit (kvs : List (List Key × D))
abbrev Md := Addr → Option MC
def put (M : Md) (a : Addr) (c : MC) : Md := fun b => if b = a then some c else M b
def cut (M : Md) (a : Addr) : Md := fun b => if b = a then none else M b
theorem put_same {M : Md} {a : Addr} {c : MC} : put M a c a = some c := if_pos rfl
theorem put_ne {M : Md} {a b : Addr} {c : MC} (h : b ≠ a) : put M a c b = M b := if_neg h
theorem cut_same {M : Md} {a : Addr} : cut M a a = none := if_pos rfl
theorem cut_ne {M : Md} {a b : Addr} (h : b ≠ a) : cut M a b = M b := if_neg h
theorem put_put {M : Md} {a : Addr} {c e : MC} : put (put M a c) a e = put M a e := by
  funext b
  unfold put
  split <;> rfl
theorem cut_put {M : Md} {a : Addr} {c : MC} (h : M a = none) : cut (put M a c) a = M := by
  funext b
  unfold cut put
  by_cases e : b = a
  · subst e
    rw [if_pos rfl, h]
  · rw [if_neg e, if_neg e]

/-- a cell in the heap -/
def Rc (K : PySem.W.Frag) (F H : Hp) (a : Addr) : MC → Prop
  | .lst ds => ∃ vs, H a = some (.lst vs) ∧ Rps K F vs ds
  | .ins C fs => ∃ dx vs, H a = some (.ins C dx vs) ∧ Rfs K F vs fs
  | .dic kvs => ∃ vs, H a = some (.dK vs) ∧ Paired (fun (p : Key × V) (q : Key × D) => p.1 = q.1 ∧ Rp K F p.2 q.2) vs kvs
  | .dit kvs => ∃ vs, H a = some (.dT vs) ∧ Paired (fun (p : List Key × V) (q : List Key × D) => p.1 = q.1 ∧ Rp K F p.2 q.2) vs kvs
theorem paired_imp {α β : Type} {P Q : α → β → Prop} (h : ∀ a b, P a b → Q a b) : ∀ {l : List α} {m : List β}, Paired P l m → Paired Q l m
  | _, _, .nil => .nil
  | _, _, .cons p t => .cons (h _ _ p) (paired_imp h t)
theorem Rfs.mono {K : PySem.W.Frag} {F G : Hp} (e : Le F G) {vs : List (Str × V)} {fs : Flds} (h : Rfs K F vs fs) : Rfs K G vs fs := paired_imp (fun _ _ q => ⟨q.1, q.2.mono e⟩) h
theorem Rc.mono {K : PySem.W.Frag} {F G H J : Hp} {a : Addr} {c : MC} (e : Le F G) (k : H a = J a) (h : Rc K F H a c) : Rc K G J a c := by
  cases c with
  | lst ds =>
    obtain ⟨vs, p, r⟩ := h
    exact ⟨vs, k ▸ p, r.mono e⟩
  | ins C fs =>
    obtain ⟨dx, vs, p, r⟩ := h
    exact ⟨dx, vs, k ▸ p, r.mono e⟩
  | dic kvs =>
    obtain ⟨vs, p, r⟩ := h
    exact ⟨vs, k ▸ p, paired_imp (fun _ _ q => ⟨q.1, q.2.mono e⟩) r⟩
  | dit kvs =>
    obtain ⟨vs, p, r⟩ := h
    exact ⟨vs, k ▸ p, paired_imp (fun _ _ q => ⟨q.1, q.2.mono e⟩) r⟩
theorem Rc.there {K : PySem.W.Frag} {F H : Hp} {a : Addr} {c : MC} (h : Rc K F H a c) : ∃ u, H a = some u := by
  cases c with
  | lst ds =>
    obtain ⟨vs, p, r⟩ := h
    exact ⟨_, p⟩
  | ins C fs =>
    obtain ⟨dx, vs, p, r⟩ := h
    exact ⟨_, p⟩
  | dic kvs =>
    obtain ⟨vs, p, r⟩ := h
    exact ⟨_, p⟩
  | dit kvs =>
    obtain ⟨vs, p, r⟩ := h
    exact ⟨_, p⟩

/-- the heap H: the part F stands for ever, the cells of M lie beside it -/
structure Rl (K : PySem.W.Frag) (F H : Hp) (M : Md) : Prop where
  sub : Le F H
  cell : ∀ a c, M a = some c → F a = none ∧ Rc K F H a c
section
variable {K : PySem.W.Frag} {F G H : Hp} {M : Md} {p : Addr}
theorem Rl.free (l : Rl K F H M) (h : H p = none) : F p = none ∧ M p = none := by
  refine ⟨l.sub.off h, ?_⟩
  cases e : M p with
  | none => rfl
  | some c =>
    obtain ⟨u, k⟩ := (l.cell p c e).2.there
    rw [h] at k
    cases k
/-- a new object that never changes -/
theorem Rl.keep (l : Rl K F H M) (h : H p = none) (u : HO) : Rl K (upd F p u) (upd H p u) M ∧ Le F (upd F p u) := by
  obtain ⟨hf, hm⟩ := l.free h
  refine ⟨⟨⟨fun {b v} e => ?_⟩, fun a c e => ?_⟩, Le.add hf⟩
  · by_cases z : b = p
    · subst z
      rw [upd_same] at e ⊢
      exact e
    · rw [upd_ne z] at e ⊢
      exact l.sub.of e
  · have z : a ≠ p := by
      intro z
      subst z
      rw [hm] at e
      cases e
    obtain ⟨k1, k2⟩ := l.cell a c e
    refine ⟨by rw [upd_ne z]; exact k1, k2.mono (Le.add hf) (by rw [upd_ne z])⟩
/-- a new object that nobody tells of -/
theorem Rl.lost (l : Rl K F H M) (h : H p = none) (u : HO) : Rl K F (upd H p u) M := by
  obtain ⟨hf, hm⟩ := l.free h
  refine ⟨l.sub.past hf, fun a c e => ?_⟩
  have z : a ≠ p := by
    intro z
    subst z
    rw [hm] at e
    cases e
  obtain ⟨k1, k2⟩ := l.cell a c e
  exact ⟨k1, k2.mono (Le.rfl' F) (by rw [upd_ne z])⟩
/-- a new cell, or a cell changed -/
theorem Rl.cellput (l : Rl K F H M) (hf : F p = none) {u : HO} {c : MC} (r : Rc K F (upd H p u) p c) : Rl K F (upd H p u) (put M p c) := by
  refine ⟨l.sub.past hf, fun a e k => ?_⟩
  by_cases z : a = p
  · subst z
    rw [put_same] at k
    cases k
    exact ⟨hf, r⟩
  · rw [put_ne z] at k
    obtain ⟨k1, k2⟩ := l.cell a e k
    exact ⟨k1, k2.mono (Le.rfl' F) (by rw [upd_ne z])⟩
/-- cells forgotten -/
theorem Rl.less (l : Rl K F H M) {N : Md} (h : ∀ a c, N a = some c → M a = some c) : Rl K F H N := ⟨l.sub, fun a c e => l.cell a c (h a c e)⟩
theorem Rl.cutc (l : Rl K F H M) : Rl K F H (cut M p) := l.less fun a c e => by
  by_cases z : a = p
  · subst z
    rw [cut_same] at e
    cases e
  · rw [cut_ne z] at e
    exact e
/-- a cell that from now on never changes -/
theorem Rl.froze (l : Rl K F H M) {u : HO} (hp : H p = some u) (hf : F p = none) : Rl K (upd F p u) H (cut M p) ∧ Le F (upd F p u) := by
  refine ⟨⟨⟨fun {b v} e => ?_⟩, fun a c e => ?_⟩, Le.add hf⟩
  · by_cases z : b = p
    · subst z
      rw [upd_same] at e
      rw [← e]
      exact hp
    · rw [upd_ne z] at e
      exact l.sub.of e
  · by_cases z : a = p
    · subst z
      rw [cut_same] at e
      cases e
    · rw [cut_ne z] at e
      obtain ⟨k1, k2⟩ := l.cell a c e
      exact ⟨by rw [upd_ne z]; exact k1, k2.mono (Le.add hf) rfl⟩
end

/-! ### slots -/
abbrev SD := List (Option D)
def RpO (K : PySem.W.Frag) (F : Hp) : Option V → Option D → Prop
  | _, none => True
  | some v, some d => Rp K F v d
  | none, some _ => False
def Sls (K : PySem.W.Frag) (F : Hp) : L2.St → SD → Prop := Paired (RpO K F)
theorem Sls.mono {K : PySem.W.Frag} {F G : Hp} (e : Le F G) {σ : L2.St} {δ : SD} (h : Sls K F σ δ) : Sls K G σ δ := paired_imp (fun a b q => by
  cases b with
  | none => trivial
  | some d =>
    cases a with
    | none => exact q
    | some v => exact Rp.mono e q) h
theorem Sls.get {K : PySem.W.Frag} {F : Hp} : ∀ {σ : L2.St} {δ : SD} {i : Nat} {d : D}, Sls K F σ δ → δ[i]? = some (some d) → ∃ v, σ[i]? = some (some v) ∧ Rp K F v d
  | _, _, _, _, .nil, h => by simp at h
  | s :: _, _, 0, d, .cons p _, h => by
    have e := Option.some.inj h
    subst e
    cases s with
    | none => exact False.elim p
    | some v => exact ⟨v, rfl, p⟩
  | _, _, i + 1, d, .cons _ t, h => Sls.get (i := i) t h
theorem Sls.set' {K : PySem.W.Frag} {F : Hp} {x : Option V} {y : Option D} (r : RpO K F x y) : ∀ {σ : L2.St} {δ : SD} (i : Nat), Sls K F σ δ → Sls K F (σ.set i x) (δ.set i y)
  | _, _, _, .nil => .nil
  | _, _, 0, .cons _ t => .cons r t
  | _, _, i + 1, .cons p t => .cons p (Sls.set' r i t)
theorem Sls.put' {K : PySem.W.Frag} {F : Hp} {v : V} {d : D} (r : Rp K F v d) {σ : L2.St} {δ : SD} (i : Nat) (h : Sls K F σ δ) : Sls K F (σ.set i (some v)) (δ.set i (some d)) := Sls.set' (x := some v) (y := some d) r i h

/-! ### readings -/
abbrev VD := D → Md → Prop
/-- what is wanted of an exception: its class, its fields, the store -/
abbrev XD := Addr → Flds → Md → Prop
abbrev TEd := XD → SD → Md → VD → Prop
abbrev TTd := XD → SD → Md → (Bool → Md → Prop) → Prop
abbrev TAd := XD → SD → Md → (List D → Md → Prop) → Prop
structure EndsD where
  nx : SD → Md → Prop
  rt : VD
  bk : SD → Md → Prop := fun _ _ => False
  ct : SD → Md → Prop := fun _ _ => False
  xx : Addr → Flds → SD → Md → Prop := fun _ _ _ _ => False
abbrev TSd := EndsD → SD → Md → Prop
def EndsD.xk (E : EndsD) (δ : SD) : XD := fun C fs M => E.xx C fs δ M

structure Kv (K : PySem.W.Frag) (F : Hp) (Qd : VD) (Q : VK) : Prop where
  go : ∀ {d : D} {M : Md} {v : V} {G H : Hp}, Le F G → Rl K G H M → Rp K G v d → Qd d M → Q v H
structure Kb (K : PySem.W.Frag) (F : Hp) (Qd : Bool → Md → Prop) (Q : Bool → Hp → Prop) : Prop where
  go : ∀ {b : Bool} {M : Md} {G H : Hp}, Le F G → Rl K G H M → Qd b M → Q b H
structure Ka (K : PySem.W.Frag) (F : Hp) (Qd : List D → Md → Prop) (Q : List V → Hp → Prop) : Prop where
  go : ∀ {ds : List D} {M : Md} {vs : List V} {G H : Hp}, Le F G → Rl K G H M → Rps K G vs ds → Qd ds M → Q vs H
structure Ks (K : PySem.W.Frag) (F : Hp) (Qd : SD → Md → Prop) (Q : L2.St → Hp → Prop) : Prop where
  go : ∀ {δ : SD} {M : Md} {σ : L2.St} {G H : Hp}, Le F G → Rl K G H M → Sls K G σ δ → Qd δ M → Q σ H
/-- an exception's own dict holds its fields; without fields it may have none -/
def Xf (K : PySem.W.Frag) (F H : Hp) (dx : Option Addr) (fs : Flds) : Prop := (fs = [] ∧ dx = none) ∨ ∃ d vs, dx = some d ∧ F d = none ∧ H d = some (.xd vs) ∧ Rfs K F vs fs
structure Kx (K : PySem.W.Frag) (F : Hp) (Xd : XD) (E : XK) : Prop where
  go : ∀ {C : Addr} {fs : Flds} {M : Md} {dx : Option Addr} {G H : Hp}, Le F G → Rl K G H M → Xf K G H dx fs → Xd C fs M → E (.ref C) dx H
section
variable {K : PySem.W.Frag} {F G : Hp}
theorem Kv.mono {Qd : VD} {Q : VK} (k : Kv K F Qd Q) (e : Le F G) : Kv K G Qd Q := ⟨fun g l r q => k.go (e.then' g) l r q⟩
theorem Kb.mono {Qd : Bool → Md → Prop} {Q : Bool → Hp → Prop} (k : Kb K F Qd Q) (e : Le F G) : Kb K G Qd Q := ⟨fun g l q => k.go (e.then' g) l q⟩
theorem Ka.mono {Qd : List D → Md → Prop} {Q : List V → Hp → Prop} (k : Ka K F Qd Q) (e : Le F G) : Ka K G Qd Q := ⟨fun g l r q => k.go (e.then' g) l r q⟩
theorem Ks.mono {Qd : SD → Md → Prop} {Q : L2.St → Hp → Prop} (k : Ks K F Qd Q) (e : Le F G) : Ks K G Qd Q := ⟨fun g l r q => k.go (e.then' g) l r q⟩
theorem Kx.mono {Xd : XD} {E : XK} (k : Kx K F Xd E) (e : Le F G) : Kx K G Xd E := ⟨fun g l r q => k.go (e.then' g) l r q⟩
end
/-- the ends of a statement -/
structure LT (K : PySem.W.Frag) (W : WX) (F : Hp) (Dd : EndsD) (E : Ends) : Prop where
  nx : Ks K F Dd.nx E.nx
  rt : Kv K F Dd.rt E.rt
  bk : Ks K F Dd.bk E.bk
  ct : Ks K F Dd.ct E.ct
  xx : ∀ {δ : SD} {σ : L2.St} {G : Hp}, Le F G → Sls K G σ δ → Kx K G (Dd.xk δ) (WE W σ)
theorem LT.mono {K : PySem.W.Frag} {W : WX} {F G : Hp} {Dd : EndsD} {E : Ends} (l : LT K W F Dd E) (e : Le F G) : LT K W G Dd E :=
  ⟨l.nx.mono e, l.rt.mono e, l.bk.mono e, l.ct.mono e, fun g s => l.xx (e.then' g) s⟩

/-! ### a reading over data, as a reading over the heap -/
def low (K : PySem.W.Frag) (W : WX) (t : TEd) : TE := fun σ H Q => ∃ F δ M Qd Xd, Rl K F H M ∧ Sls K F σ δ ∧ Kv K F Qd Q ∧ Kx K F Xd (WE W σ) ∧ t Xd δ M Qd
def lowT (K : PySem.W.Frag) (W : WX) (t : TTd) : TT := fun σ H Q => ∃ F δ M Qd Xd, Rl K F H M ∧ Sls K F σ δ ∧ Kb K F Qd Q ∧ Kx K F Xd (WE W σ) ∧ t Xd δ M Qd
def lowA (K : PySem.W.Frag) (W : WX) (t : TAd) : TA := fun σ H Q => ∃ F δ M Qd Xd, Rl K F H M ∧ Sls K F σ δ ∧ Ka K F Qd Q ∧ Kx K F Xd (WE W σ) ∧ t Xd δ M Qd
def lowS (K : PySem.W.Frag) (W : WX) (t : TSd) : TS := fun E σ H => ∃ F δ M Dd, Rl K F H M ∧ Sls K F σ δ ∧ LT K W F Dd E ∧ t Dd δ M
abbrev TGd := XD → D → SD → Md → (SD → Md → Prop) → Prop
def lowG (K : PySem.W.Frag) (W : WX) (t : TGd) : TG := fun v σ H Q => ∃ F δ M d Qd Xd, Rl K F H M ∧ Sls K F σ δ ∧ Rp K F v d ∧ Ks K F Qd Q ∧ Kx K F Xd (WE W σ) ∧ t Xd d δ M Qd
abbrev TGsd := List D → SD → Md → (SD → Md → Prop) → Prop
def lowGs (K : PySem.W.Frag) (t : TGsd) : TGs := fun v σ H Q => ∃ F δ M d Qd, Rl K F H M ∧ Sls K F σ δ ∧ Rps K F v d ∧ Ks K F Qd Q ∧ t d δ M Qd
/-- nothing is wished of exceptions -/
def X0 : XD := fun _ _ _ => False
theorem kx0 {K : PySem.W.Frag} {F : Hp} {E : XK} : Kx K F X0 E := ⟨fun _ _ _ h => h.elim⟩
abbrev PEd (X : Cx) (W : WX) (e : Expr) (t : TEd) : Prop := PE X e (low X.K W t)
abbrev PTd (X : Cx) (W : WX) (e : Expr) (t : TTd) : Prop := PT X e (lowT X.K W t)
abbrev PWd (X : Cx) (W : WX) (e : Expr) (t : TTd) : Prop := PW X e (lowT X.K W t)
abbrev PAd (X : Cx) (W : WX) (es : List Expr) (t : TAd) : Prop := PA X es (lowA X.K W t)
abbrev PSd (X : Cx) (W : WX) (s : Stmt) (t : TSd) : Prop := PS X s (lowS X.K W t)
abbrev PSsd (X : Cx) (W : WX) (s : List Stmt) (t : TSd) : Prop := PSs X s (lowS X.K W t)
abbrev PGd (X : Cx) (W : WX) (e : Expr) (t : TGd) : Prop := PG X e (lowG X.K W t)
abbrev PGsd (X : Cx) (es : List Expr) (t : TGsd) : Prop := PGs X es (lowGs X.K t)
section
variable {X : Cx}
theorem pe_imp {e : Expr} {t u : TE} (h : PE X e u) (k : ∀ σ H Q, t σ H Q → u σ H Q) : PE X e t := ⟨fun pins s σ H Q I q => h.run pins s σ H Q I (k σ H Q q)⟩
theorem pt_imp {e : Expr} {t u : TT} (h : PT X e u) (k : ∀ σ H Q, t σ H Q → u σ H Q) : PT X e t := ⟨fun pins s σ H Q I q => h.run pins s σ H Q I (k σ H Q q)⟩
theorem pw_imp {e : Expr} {t u : TT} (h : PW X e u) (k : ∀ σ H Q, t σ H Q → u σ H Q) : PW X e t := ⟨fun w pins s σ H Q I q => h.run w pins s σ H Q I (k σ H Q q)⟩
theorem pa_imp {e : List Expr} {t u : TA} (h : PA X e u) (k : ∀ σ H Q, t σ H Q → u σ H Q) : PA X e t := ⟨fun pos pins s σ H Q I q => h.run pos pins s σ H Q I (k σ H Q q)⟩
theorem ps_imp {e : Stmt} {t u : TS} (h : PS X e u) (k : ∀ E σ H, t E σ H → u E σ H) : PS X e t := ⟨fun pins s σ H E I q => h.run pins s σ H E I (k E σ H q)⟩
theorem pss_imp {e : List Stmt} {t u : TS} (h : PSs X e u) (k : ∀ E σ H, t E σ H → u E σ H) : PSs X e t := ⟨fun pins s σ H E I q => h.run pins s σ H E I (k E σ H q)⟩
end
end DL
/-! The data layer: expressions. -/
namespace DL
open PySem PySem.Spec PyProof.Rows L2
variable [B : Obs]
section
variable {X : Cx} {W : WX} {K : PySem.W.Frag} {a b c e : Expr} {es : List Expr} {pos p apos : Pos} {x m : Str} {ta tb tc : TEd} {tt tu : TTd} {tes : TAd}
/-- the step from one reading to the next -/
theorem low_then {F H : Hp} {σ : L2.St} {δ : SD} {M : Md} {Xd : XD} {t : TEd} {Qd : VD} {Q : VK} (l : Rl K F H M) (s : Sls K F σ δ) (kx : Kx K F Xd (WE W σ)) (h : t Xd δ M Qd) (k : Kv K F Qd Q) : low K W t σ H Q := ⟨F, δ, M, Qd, Xd, l, s, k, kx, h⟩
theorem lowT_then {F H : Hp} {σ : L2.St} {δ : SD} {M : Md} {Xd : XD} {t : TTd} {Qd : Bool → Md → Prop} {Q : Bool → Hp → Prop} (l : Rl K F H M) (s : Sls K F σ δ) (kx : Kx K F Xd (WE W σ)) (h : t Xd δ M Qd) (k : Kb K F Qd Q) : lowT K W t σ H Q := ⟨F, δ, M, Qd, Xd, l, s, k, kx, h⟩
theorem lowA_then {F H : Hp} {σ : L2.St} {δ : SD} {M : Md} {Xd : XD} {t : TAd} {Qd : List D → Md → Prop} {Q : List V → Hp → Prop} (l : Rl K F H M) (s : Sls K F σ δ) (kx : Kx K F Xd (WE W σ)) (h : t Xd δ M Qd) (k : Ka K F Qd Q) : lowA K W t σ H Q := ⟨F, δ, M, Qd, Xd, l, s, k, kx, h⟩

/-! ### names, constants -/
def tV (i : Nat) : TEd := fun _ δ M Q => match δ[i]? with
  | some (some d) => Q d M
  | _ => False
theorem pvd {i : Nat} (hN : X.N[i]? = some x) (hv : Vis X.env.scope x) (hd : (x == ("__debug__" : Str)) = false := by decide) (hcd : (x == ("__classdict__" : Str)) = false := by decide) : PEd X W (.Name x pos) (tV i) :=
  pe_imp (pe_var hN hv hd hcd) fun σ H Q ⟨F, δ, M, Qd, Xd, l, s, k, kx, h⟩ => by
    unfold tV at h
    split at h
    · rename_i d q
      obtain ⟨v, q1, r⟩ := s.get q
      exact ⟨v, q1, k.go (.rfl' F) l r h⟩
    · exact h.elim
def tK (d : D) : TEd := fun _ _ M Q => Q d M
theorem pk_of {v : V} {d : D} (h : PE X e (tC v)) (r : ∀ F, Rp X.K F v d) : PEd X W e (tK d) := pe_imp h fun σ H Q ⟨F, δ, M, Qd, Xd, l, s, k, kx, q⟩ => k.go (.rfl' F) l (r F) q
theorem pint {i : Int} {j pos} : PEd X W (.Constant (.int i) j pos) (tK (.int i)) := pk_of pe_int fun _ => .int i
theorem pbl {b : Bool} {j pos} : PEd X W (.Constant (.bool b) j pos) (tK (.bl b)) := pk_of pe_bl fun _ => .bl b
theorem pnon {j pos} : PEd X W (.Constant .none j pos) (tK .non) := pk_of pe_non fun _ => .non
theorem pstr {z : Str} {j pos} : PEd X W (.Constant (.str z) j pos) (tK (.str z)) := pk_of pe_str fun _ => .str z
theorem pglob {v : V} {u : Value} {d : D} (hg : Gl X x) (hm : X.mg x = some u) (r : RelV v u) (q : ∀ F, Rp X.K F v d) (hd : (x == ("__debug__" : Str)) = false := by decide) : PEd X W (.Name x pos) (tK d) := pk_of (pe_glob hg hm r hd) q

/-! ### two operands -/
abbrev R2d := D → D → Md → VD → Prop
def tO (r : R2d) (ta tb : TEd) : TEd := fun Xd δ M Q => ta Xd δ M fun x M1 => tb Xd δ M1 fun y M2 => r x y M2 Q
structure OK2 (K : PySem.W.Frag) (r : R2) (rd : R2d) : Prop where
  go : ∀ {F H : Hp} {M : Md} {x y : V} {d e : D} {Qd : VD} {Q : VK}, Rl K F H M → Rp K F x d → Rp K F y e → Kv K F Qd Q → rd d e M Qd → r x y H Q
theorem low_O {r : R2} {rd : R2d} (ok : OK2 K r rd) {σ : L2.St} {H : Hp} {Q : VK} (h : low K W (tO rd ta tb) σ H Q) : tOp r (low K W ta) (low K W tb) σ H Q := by
  obtain ⟨F, δ, M, Qd, Xd, l, s, k, kx, h⟩ := h
  refine low_then l s kx h ⟨fun {d M1 v G H1} g l1 r1 h1 => ?_⟩
  refine low_then l1 (s.mono g) (kx.mono g) h1 ⟨fun {d2 M2 v2 G2 H2} g2 l2 r2 h2 => ?_⟩
  exact ok.go l2 (r1.mono g2) r2 (k.mono (g.then' g2)) h2
theorem pbin {op : Operator} {r : R2} {rd : R2d} (ho : OpR X (binaryOp op) r) (ok : OK2 X.K r rd) (pa : PEd X W a ta) (pb : PEd X W b tb) : PEd X W (.BinOp a op b pos) (tO rd ta tb) := pe_imp (pe_op ho pa pb) fun _ _ _ h => low_O ok h
theorem pcmp {op : CmpOp} {r : R2} {rd : R2d} (ho : OpR X (compareOp op) r) (ok : OK2 X.K r rd) (pa : PEd X W a ta) (pb : PEd X W b tb) (hm : behindInMarks op b = false) : PEd X W (.Compare a [op] [b] pos) (tO rd ta tb) := pe_imp (pe_cmpR ho pa pb hm) fun _ _ _ h => low_O ok h
def tTs (t : TEd) : TTd := fun Xd δ M Q => t Xd δ M fun d M1 => match d with
  | .bl b => Q b M1
  | _ => False
theorem low_Ts {t : TEd} {u : TE} {σ : L2.St} {H : Hp} {Q : Bool → Hp → Prop} (hu : ∀ Q', low K W t σ H Q' → u σ H Q') (h : lowT K W (tTs t) σ H Q) : tTest u σ H Q := by
  obtain ⟨F, δ, M, Qd, Xd, l, s, k, kx, h⟩ := h
  refine hu _ (low_then l s kx h ⟨fun {d M1 v G H1} g l1 r1 h1 => ?_⟩)
  cases r1 with
  | bl b => exact ⟨b, rfl, k.go g l1 h1⟩
  | _ => exact h1.elim
theorem ptcmp {op : CmpOp} {r : R2} {rd : R2d} (ho : OpR X (compareOp op) r) (ok : OK2 X.K r rd) (pa : PEd X W a ta) (pb : PEd X W b tb) (hm : behindInMarks op b = false) : PTd X W (.Compare a [op] [b] pos) (tTs (tO rd ta tb)) :=
  pt_imp (pt_cmpR ho pa pb hm) fun _ _ _ h => low_Ts (fun _ => low_O ok) h
theorem pix {r : R2} {rd : R2d} (ho : IxR X r) (ok : OK2 X.K r rd) (pa : PEd X W a ta) (pb : PEd X W b tb) (hs : PlainIx b) : PEd X W (.Subscript a b pos) (tO rd ta tb) := pe_imp (pe_ix ho pa pb hs) fun _ _ _ h => low_O ok h

/-! ### one operand -/
abbrev R1d := D → Md → VD → Prop
def tU (r : R1d) (ta : TEd) : TEd := fun Xd δ M Q => ta Xd δ M fun x M1 => r x M1 Q
structure OK1 (K : PySem.W.Frag) (r : V → Hp → VK → Prop) (rd : R1d) : Prop where
  go : ∀ {F H : Hp} {M : Md} {x : V} {d : D} {Qd : VD} {Q : VK}, Rl K F H M → Rp K F x d → Kv K F Qd Q → rd d M Qd → r x H Q
theorem low_U {r : V → Hp → VK → Prop} {rd : R1d} (ok : OK1 K r rd) {σ : L2.St} {H : Hp} {Q : VK} (h : low K W (tU rd ta) σ H Q) : tUn r (low K W ta) σ H Q := by
  obtain ⟨F, δ, M, Qd, Xd, l, s, k, kx, h⟩ := h
  exact low_then l s kx h ⟨fun {d M1 v G H1} g l1 r1 h1 => ok.go l1 r1 (k.mono g) h1⟩
theorem punop {op : UnaryOp} {r : V → Hp → VK → Prop} {rd : R1d} (ho : UnR X (unaryOp op) r) (ok : OK1 X.K r rd) (pa : PEd X W a ta) : PEd X W (.UnaryOp op a pos) (tU rd ta) := pe_imp (pe_un ho pa) fun _ _ _ h => low_U ok h

/-! ### tests -/
theorem ptval (pa : PEd X W a ta) (ht : ∀ whole, isTrue a X.env whole = isTrue a X.env (eval a X.env) := by intros; rfl) : PEd X W a ta := pa
theorem low_B {t : TEd} {σ : L2.St} {H : Hp} {Q : Bool → Hp → Prop} (h : lowT K W (tTs t) σ H Q) : tB (low K W t) σ H Q := low_Ts (u := low K W t) (fun _ q => q) h
def tNo (t : TTd) : TTd := fun Xd δ M Q => t Xd δ M fun c M1 => Q (!c) M1
def tAn (t u : TTd) : TTd := fun Xd δ M Q => t Xd δ M fun c M1 => if c = true then u Xd δ M1 Q else Q false M1
def tOr' (t u : TTd) : TTd := fun Xd δ M Q => t Xd δ M fun c M1 => if c = true then Q true M1 else u Xd δ M1 Q
theorem ptnot (h : PTd X W a tt) : PTd X W (.UnaryOp .Not a pos) (tNo tt) := pt_imp (pt_not h) fun σ H Q ⟨F, δ, M, Qd, Xd, l, s, k, kx, q⟩ => lowT_then l s kx q ⟨fun g l1 h1 => k.go g l1 h1⟩
theorem pwand1 (h : PTd X W a tt) : PWd X W (.BoolOp .And [a] pos) tt := pw_and1 h
theorem pwor1 (h : PTd X W a tt) : PWd X W (.BoolOp .Or [a] pos) tt := pw_or1 h
theorem low_An {σ : L2.St} {H : Hp} {Q : Bool → Hp → Prop} (h : lowT K W (tAn tt tu) σ H Q) : tAnd (lowT K W tt) (lowT K W tu) σ H Q := by
  obtain ⟨F, δ, M, Qd, Xd, l, s, k, kx, h⟩ := h
  refine lowT_then l s kx h ⟨fun {b M1 G H1} g l1 h1 => ?_⟩
  cases b with
  | true => exact lowT_then l1 (s.mono g) (kx.mono g) (show tu Xd δ M1 Qd from h1) (k.mono g)
  | false => exact k.go g l1 (show Qd false M1 from h1)
theorem low_Or {σ : L2.St} {H : Hp} {Q : Bool → Hp → Prop} (h : lowT K W (tOr' tt tu) σ H Q) : tOr (lowT K W tt) (lowT K W tu) σ H Q := by
  obtain ⟨F, δ, M, Qd, Xd, l, s, k, kx, h⟩ := h
  refine lowT_then l s kx h ⟨fun {b M1 G H1} g l1 h1 => ?_⟩
  cases b with
  | false => exact lowT_then l1 (s.mono g) (kx.mono g) (show tu Xd δ M1 Qd from h1) (k.mono g)
  | true => exact k.go g l1 (show Qd true M1 from h1)
theorem pwand {rest : List Expr} (h : PTd X W a tt) (g : PWd X W (.BoolOp .And (b :: rest) pos) tu) : PWd X W (.BoolOp .And (a :: b :: rest) pos) (tAn tt tu) := pw_imp (pw_and h g) fun _ _ _ q => low_An q
theorem pwor {rest : List Expr} (h : PTd X W a tt) (g : PWd X W (.BoolOp .Or (b :: rest) pos) tu) : PWd X W (.BoolOp .Or (a :: b :: rest) pos) (tOr' tt tu) := pw_imp (pw_or h g) fun _ _ _ q => low_Or q
/-- and, or, not as values: Bools -/
def tAnV (ta tb : TEd) : TEd := fun Xd δ M Q => ta Xd δ M fun d M1 => match d with
  | .bl c => if c = true then tb Xd δ M1 Q else Q (.bl false) M1
  | _ => False
def tOrV' (ta tb : TEd) : TEd := fun Xd δ M Q => ta Xd δ M fun d M1 => match d with
  | .bl c => if c = true then Q (.bl true) M1 else tb Xd δ M1 Q
  | _ => False
def tNoV (ta : TEd) : TEd := fun Xd δ M Q => ta Xd δ M fun d M1 => match d with
  | .bl c => Q (.bl (!c)) M1
  | _ => False
theorem pone {op : BoolOp} (h : PEd X W a ta) : PEd X W (.BoolOp op [a] pos) ta := pe_one h
theorem pand {rest : List Expr} (h : PEd X W a ta) (g : PEd X W (.BoolOp .And (b :: rest) pos) tb) : PEd X W (.BoolOp .And (a :: b :: rest) pos) (tAnV ta tb) := pe_imp (pe_and h g) fun σ H Q ⟨F, δ, M, Qd, Xd, l, s, k, kx, q⟩ =>
  low_then l s kx q ⟨fun {d M1 v G H1} g l1 r1 h1 => by
    cases r1 with
    | bl c =>
      refine ⟨c, rfl, ?_⟩
      cases c with
      | true => exact low_then l1 (s.mono g) (kx.mono g) (show tb Xd δ M1 Qd from h1) (k.mono g)
      | false => exact k.go g l1 (.bl false) (show Qd (.bl false) M1 from h1)
    | _ => exact h1.elim⟩
theorem por {rest : List Expr} (h : PEd X W a ta) (g : PEd X W (.BoolOp .Or (b :: rest) pos) tb) : PEd X W (.BoolOp .Or (a :: b :: rest) pos) (tOrV' ta tb) := pe_imp (pe_or h g) fun σ H Q ⟨F, δ, M, Qd, Xd, l, s, k, kx, q⟩ =>
  low_then l s kx q ⟨fun {d M1 v G H1} g l1 r1 h1 => by
    cases r1 with
    | bl c =>
      refine ⟨c, rfl, ?_⟩
      cases c with
      | false => exact low_then l1 (s.mono g) (kx.mono g) (show tb Xd δ M1 Qd from h1) (k.mono g)
      | true => exact k.go g l1 (.bl true) (show Qd (.bl true) M1 from h1)
    | _ => exact h1.elim⟩
theorem pnot (h : PEd X W a ta) : PEd X W (.UnaryOp .Not a pos) (tNoV ta) := pe_imp (pe_not h) fun σ H Q ⟨F, δ, M, Qd, Xd, l, s, k, kx, q⟩ =>
  low_then l s kx q ⟨fun {d M1 v G H1} g l1 r1 h1 => by
    cases r1 with
    | bl c => exact ⟨c, rfl, k.go g l1 (.bl _) h1⟩
    | _ => exact h1.elim⟩
def tIfE (t : TTd) (ta tb : TEd) : TEd := fun Xd δ M Q => t Xd δ M fun c M1 => if c = true then ta Xd δ M1 Q else tb Xd δ M1 Q
theorem pife (h : PTd X W c tt) (pa : PEd X W a ta) (pb : PEd X W b tb) : PEd X W (.IfExp c a b pos) (tIfE tt ta tb) := pe_imp (pe_ifExp h pa pb) fun σ H Q ⟨F, δ, M, Qd, Xd, l, s, k, kx, q⟩ =>
  lowT_then l s kx q ⟨fun {d M1 G H1} g l1 h1 => by
    cases d with
    | true => exact low_then l1 (s.mono g) (kx.mono g) (show ta Xd δ M1 Qd from h1) (k.mono g)
    | false => exact low_then l1 (s.mono g) (kx.mono g) (show tb Xd δ M1 Qd from h1) (k.mono g)⟩

/-! ### arguments, displays -/
def tN0 : TAd := fun _ _ M Q => Q [] M
def tCo (t : TEd) (u : TAd) : TAd := fun Xd δ M Q => t Xd δ M fun d M1 => u Xd δ M1 fun ds M2 => Q (d :: ds) M2
theorem pa0 : PAd X W [] tN0 := pa_imp pa_nil fun σ H Q ⟨F, δ, M, Qd, Xd, l, s, k, kx, q⟩ => k.go (.rfl' F) l .nil q
theorem pac (h : PEd X W e ta) (g : PAd X W es tes) (hs : starEach (e :: es) X.env = (false, eval e X.env) :: starEach es X.env := by rfl) : PAd X W (e :: es) (tCo ta tes) := pa_imp (pa_cons h g hs) fun σ H Q ⟨F, δ, M, Qd, Xd, l, s, k, kx, q⟩ =>
  low_then l s kx q ⟨fun {d M1 v G H1} g l1 r1 h1 => lowA_then l1 (s.mono g) (kx.mono g) h1 ⟨fun {ds M2 vs G2 H2} g2 l2 r2 h2 => k.go (g.then' g2) l2 (.cons (r1.mono g2) r2) h2⟩⟩
def tTu (t : TAd) : TEd := fun Xd δ M Q => t Xd δ M fun ds M1 => ds.length ≤ sizeLine ∧ Q (.tup ds) M1
theorem ptup {x1 : Nat} (h : PAd X W es tes) : PEd X W (.Tuple es x1 pos) (tTu tes) := pe_imp (pe_tup h) fun σ H Q ⟨F, δ, M, Qd, Xd, l, s, k, kx, q⟩ =>
  lowA_then l s kx q ⟨fun {ds M1 vs G H1} g l1 r1 h1 => ⟨by rw [r1.len]; exact h1.1, fun p hp => by
    obtain ⟨l2, e2⟩ := l1.keep hp (.tup vs)
    exact k.go (g.then' e2) l2 (.tup (.inl (.inl upd_same)) (r1.mono e2)) h1.2⟩⟩
/-- a list that is not changed from now on -/
def tLs (t : TAd) : TEd := fun Xd δ M Q => t Xd δ M fun ds M1 => ds.length ≤ sizeLine ∧ Q (.lst ds) M1
theorem plst (h : PAd X W es tes) : PEd X W (.List es pos) (tLs tes) := pe_imp (pe_lst h) fun σ H Q ⟨F, δ, M, Qd, Xd, l, s, k, kx, q⟩ =>
  lowA_then l s kx q ⟨fun {ds M1 vs G H1} g l1 r1 h1 => ⟨by rw [r1.len]; exact h1.1, fun p hp => by
    obtain ⟨l2, e2⟩ := l1.keep hp (.lst vs)
    exact k.go (g.then' e2) l2 (.lst upd_same (r1.mono e2)) h1.2⟩⟩
/-- a list that is a cell of the store -/
def tLsM (t : TAd) : TEd := fun Xd δ M Q => t Xd δ M fun ds M1 => ds.length ≤ sizeLine ∧ ∀ p, M1 p = none → Q (.ref p) (put M1 p (.lst ds))
theorem plstM (h : PAd X W es tes) : PEd X W (.List es pos) (tLsM tes) := pe_imp (pe_lst h) fun σ H Q ⟨F, δ, M, Qd, Xd, l, s, k, kx, q⟩ =>
  lowA_then l s kx q ⟨fun {ds M1 vs G H1} g l1 r1 h1 => ⟨by rw [r1.len]; exact h1.1, fun p hp => by
    obtain ⟨n1, n2⟩ := l1.free hp
    exact k.go g (l1.cellput (u := .lst vs) (c := .lst ds) n1 ⟨vs, upd_same, r1⟩) (.ref p) (h1.2 p n2)⟩⟩

/-! ### built-in functions by their values -/
abbrev RCd := List D → Md → VD → Prop
def tCl (r : RCd) (t : TAd) : TEd := fun Xd δ M Q => t Xd δ M fun ds M1 => r ds M1 Q
structure OKC (K : PySem.W.Frag) (r : List V → Hp → VK → Prop) (rd : RCd) : Prop where
  go : ∀ {F H : Hp} {M : Md} {vs : List V} {ds : List D} {Qd : VD} {Q : VK}, Rl K F H M → Rps K F vs ds → Kv K F Qd Q → rd ds M Qd → r vs H Q
theorem low_Cl {r : List V → Hp → VK → Prop} {rd : RCd} (ok : OKC K r rd) {σ : L2.St} {H : Hp} {Q : VK} (h : low K W (tCl rd tes) σ H Q) : tCB r (lowA K W tes) σ H Q := by
  obtain ⟨F, δ, M, Qd, Xd, l, s, k, kx, h⟩ := h
  exact lowA_then l s kx h ⟨fun {ds M1 vs G H1} g l1 r1 h1 => ok.go l1 r1 (k.mono g) h1⟩
theorem pcallB {id : String} {r : List V → Hp → VK → Prop} {rd : RCd} (hc : CallR X (.builtin id) r) (ok : OKC X.K r rd) (hg : Gl X x) (hm : X.mg x = none) (hv : bootBuiltins x = some (.builtin id)) (ha : PAd X W (e :: es) tes) (hn : x ≠ "__name__" := by decide) (hdb : (x == ("__debug__" : Str)) = false := by decide)
    (he : starEach (e :: es) X.env = (false, eval e X.env) :: starEach es X.env := by rfl) (hpl : (backTo pos (starEach es X.env)).any (·.1) = false := by rfl) : PEd X W (.Call (.Name x p) (e :: es) [] pos) (tCl rd tes) := pe_imp (pe_callB hc hg hm hv ha hn hdb he hpl) fun _ _ _ h => low_Cl ok h
theorem pcallTy {id : String} {r : List V → Hp → VK → Prop} {rd : RCd} (hc : CallR X (.type id) r) (ok : OKC X.K r rd) (hg : Gl X x) (hm : X.mg x = none) (hv : bootBuiltins x = some (.type id)) (ha : PAd X W (e :: es) tes) (hn : x ≠ "__name__" := by decide) (hdb : (x == ("__debug__" : Str)) = false := by decide)
    (he : starEach (e :: es) X.env = (false, eval e X.env) :: starEach es X.env := by rfl) (hpl : (backTo pos (starEach es X.env)).any (·.1) = false := by rfl) : PEd X W (.Call (.Name x p) (e :: es) [] pos) (tCl rd tes) := pe_imp (pe_callTy hc hg hm hv ha hn hdb he hpl) fun _ _ _ h => low_Cl ok h

/-! ### methods of built-in types -/
abbrev RMd := D → List D → Md → VD → Prop
def tMt (r : RMd) (t : TEd) (u : TAd) : TEd := fun Xd δ M Q => t Xd δ M fun o M1 => u Xd δ M1 fun ds M2 => r o ds M2 Q
end
end DL
/-! The data layer: defs, their promises and their calls. -/
namespace DL
open PySem PySem.Spec PyProof.Rows L2
variable [B : Obs]

/-! ### what a def keeps: as FnOk, where no repr is under way -/
structure FnG (P : Program) (w : World) (K : PySem.W.Frag) (mg : Str → Option Value) (base : Heap) (k : Nat) (f : Addr) (fd : FuncData) (ps : List Str) (sp : Sp) : Prop where
  many : ∀ {vs H Q E}, sp vs H Q E → vs.length = ps.length
  goes : ∀ {A : Around} {outer : List Env} {s : Shared} {H : Hp} {args : Args} {us : List Value} {vs : List V} {Q : VK} {E : XK},
    Room k A → A.guards = some [] → Env0 P w K mg base A outer s H → BindsTo s fd args (ps.zip us) → Vals vs us → sp vs H Q E →
    codeAny (model P w) A (.call (.ref f) args) (CR (L2N.CX P w) outer P w H s Q E) s
theorem FnG.up {P : Program} {w : World} {K : PySem.W.Frag} {mg : Str → Option Value} {base : Heap} {j k : Nat} {f : Addr} {fd : FuncData} {ps : List Str} {sp : Sp}
    (F : FnG P w K mg base j f fd ps sp) (h : j ≤ k) : FnG P w K mg base k f fd ps sp := ⟨F.many, fun r => F.goes (r.mono h)⟩
theorem guards_deeper {A : Around} {env : Env} (h : A.guards = some []) : (A.deeper env).guards = some [] := h
theorem guards_make {A : Around} {C : Addr} {us : List Value} (h : A.guards = some []) : (A.under (.builtin "type.__call__" ⟨.ref C :: us, []⟩)).guards = some [] := by
  simp [Around.under, h, Code.guards, Code.isGuard, guardIds]
  all_goals rfl

/-- a promise over data -/
abbrev SpD := List D → Md → VD → XD → Prop
def toSp (K : PySem.W.Frag) (sp : SpD) : Sp := fun vs H Q E => ∃ F M ds Qd Xd, Rl K F H M ∧ Rps K F vs ds ∧ Kv K F Qd Q ∧ Kx K F Xd E ∧ sp ds M Qd Xd
abbrev FnD (P : Program) (w : World) (K : PySem.W.Frag) (mg : Str → Option Value) (base : Heap) (k : Nat) (f : Addr) (fd : FuncData) (ps : List Str) (sp : SpD) : Prop := FnG P w K mg base k f fd ps (toSp K sp)

/-! ### what holds all through a body -/
structure Cd (X : Cx) (W : WX) (k : Nat) : Prop where
  nd : X.N.Nodup
  calm : X.calm = true
  tk : L2N.Takes X W
  hp : PassesOwn (model X.prog X.w) X.A X.env X.xe
  rm : Room k X.A
  gd : X.A.guards = some []
section
variable {X : Cx} {W : WX} {k n : Nat} {f C : Addr} {fd : FuncData} {ps : List Str} {sp : Sp} {spd : SpD} {ds : List Value} {dvs : List V} {dds : List D} {x m : Str} {p pos apos : Pos} {e o : Expr} {es : List Expr} {t : TA} {tes : TAd} {te : TEd}
theorem goes_fn {pins : List (Addr × Obj)} {σ : L2.St} {H : Hp} {s : Shared} {Q : VK} {us : List Value} {vs : List V} (c : Cd X W n) (F : FnG X.prog X.w X.K X.mg X.base k f fd ps sp) (hk : k ≤ n) (hb : Binds X.K fd ps ds) (hd : Vals dvs ds)
    (I : Inv X pins σ H s) (r : Vals vs us) (h : sp (vs ++ dvs) H Q (WE W σ)) : wpAny (model X.prog X.w) X.A (call (.ref f) us) (EP X pins σ Q) X.xe s := by
  have rr := r.append hd
  have many : (us ++ ds).length = ps.length := rr.length.symm.trans (F.many h)
  refine wpAny_call (codeAny_mono (F.goes (c.rm.mono hk) c.gd I.env0 (hb s us I.kIn many) rr h) fun z s' q => ?_)
  match z, q with
  | .error u, q => exact L2N.passAt c.tk σ pins H s u s' I q
  | .ok (.ret u), q => exact I.after q
  | .ok .next, q => exact q.elim
  | .ok .brk, q => exact q.elim
  | .ok .cont, q => exact q.elim
def tFnS (W : WX) (sp : Sp) (dvs : List V) (t : TA) : TE := fun σ H Q => t σ H fun vs H1 => sp (vs ++ dvs) H1 Q (WE W σ)
theorem pe_goes (c : Cd X W n) (F : FnG X.prog X.w X.K X.mg X.base k f fd ps sp) (hk : k ≤ n) (hg : Gl X x) (hm : X.mg x = some (.ref f)) (kp : PySem.W.keepIn X.K (.ref f) = true) (hb : Binds X.K fd ps ds) (hd : Vals dvs ds)
    (ha : PA X (e :: es) t) (hdb : (x == ("__debug__" : Str)) = false := by decide) (he : starEach (e :: es) X.env = (false, eval e X.env) :: starEach es X.env := by rfl)
    (hpl : (backTo pos (starEach es X.env)).any (·.1) = false := by rfl) : PE X (.Call (.Name x p) (e :: es) [] pos) (tFnS W sp dvs t) :=
  ⟨fun pins s σ H Q I h => wpAny_Call_Name_kw (ld_glob I hg hm (PySem.W.callWith_K (h₀ := X.base) I.ok.mod.kin kp
    (thn (ha.run pos pins s σ H _ I h) fun us s1 ⟨vs, H1, I1, r, q⟩ => ⟨I1.kIn, goes_fn c F hk hb hd I1 r q⟩) he hpl) hdb)⟩
theorem pe_goes0 (c : Cd X W n) (F : FnG X.prog X.w X.K X.mg X.base k f fd ps sp) (hk : k ≤ n) (hg : Gl X x) (hm : X.mg x = some (.ref f)) (kp : PySem.W.keepIn X.K (.ref f) = true) (hb : Binds X.K fd ps ds) (hd : Vals dvs ds)
    (hdb : (x == ("__debug__" : Str)) = false := by decide) : PE X (.Call (.Name x p) [] [] pos) (tFnS W sp dvs tNil) :=
  ⟨fun pins s σ H Q I h => wpAny_Call_Name_kw (ld_glob I hg hm (PySem.W.callWith_K0 I.kIn kp (goes_fn (us := []) c F hk hb hd I .nil h)) hdb)⟩
/-- f(e, ..): the promise at the arguments and the defaults -/
def tFn (sp : SpD) (dds : List D) (t : TAd) : TEd := fun Xd δ M Q => t Xd δ M fun ds M1 => sp (ds ++ dds) M1 Q Xd
theorem low_Fn {K : PySem.W.Frag} {σ : L2.St} {H : Hp} {Q : VK} (hq : ∀ F, Rps K F dvs dds) (h : low K W (tFn spd dds tes) σ H Q) : tFnS W (toSp K spd) dvs (lowA K W tes) σ H Q := by
  obtain ⟨F, δ, M, Qd, Xd, l, s, kq, kx, h⟩ := h
  exact lowA_then l s kx h ⟨fun {ds M1 vs G H1} g l1 r1 h1 => ⟨G, M1, _, Qd, Xd, l1, r1.app (hq G), kq.mono g, kx.mono g, h1⟩⟩
theorem pfn (c : Cd X W n) (F : FnD X.prog X.w X.K X.mg X.base k f fd ps spd) (hk : k ≤ n) (hg : Gl X x) (hm : X.mg x = some (.ref f)) (kp : PySem.W.keepIn X.K (.ref f) = true) (hb : Binds X.K fd ps []) (ha : PAd X W (e :: es) tes)
    (hdb : (x == ("__debug__" : Str)) = false := by decide) (he : starEach (e :: es) X.env = (false, eval e X.env) :: starEach es X.env := by rfl) (hpl : (backTo pos (starEach es X.env)).any (·.1) = false := by rfl) :
    PEd X W (.Call (.Name x p) (e :: es) [] pos) (tFn spd [] tes) := pe_imp (pe_goes c F hk hg hm kp hb .nil ha hdb he hpl) fun _ _ _ h => low_Fn (fun _ => .nil) h
theorem pfnD (c : Cd X W n) (F : FnD X.prog X.w X.K X.mg X.base k f fd ps spd) (hk : k ≤ n) (hg : Gl X x) (hm : X.mg x = some (.ref f)) (kp : PySem.W.keepIn X.K (.ref f) = true) (hb : Binds X.K fd ps ds) (hd : Vals dvs ds) (hq : ∀ F, Rps X.K F dvs dds) (ha : PAd X W (e :: es) tes)
    (hdb : (x == ("__debug__" : Str)) = false := by decide) (he : starEach (e :: es) X.env = (false, eval e X.env) :: starEach es X.env := by rfl) (hpl : (backTo pos (starEach es X.env)).any (·.1) = false := by rfl) :
    PEd X W (.Call (.Name x p) (e :: es) [] pos) (tFn spd dds tes) := pe_imp (pe_goes c F hk hg hm kp hb hd ha hdb he hpl) fun _ _ _ h => low_Fn hq h
theorem pfn0 (c : Cd X W n) (F : FnD X.prog X.w X.K X.mg X.base k f fd ps spd) (hk : k ≤ n) (hg : Gl X x) (hm : X.mg x = some (.ref f)) (kp : PySem.W.keepIn X.K (.ref f) = true) (hb : Binds X.K fd ps [])
    (hdb : (x == ("__debug__" : Str)) = false := by decide) : PEd X W (.Call (.Name x p) [] [] pos) (tFn spd [] tN0) := pe_imp (pe_goes0 c F hk hg hm kp hb .nil hdb) fun σ H Q ⟨F, δ, M, Qd, Xd, l, s, kq, kx, h⟩ => ⟨F, M, [], Qd, Xd, l, .nil, kq, kx, h⟩
end

/-! ### a def by its body -/
def startD (N : List Str) (ds : List D) : SD := ds.map some ++ List.replicate (N.length - ds.length) none
theorem start_rel {K : PySem.W.Frag} {F : Hp} {N : List Str} {vs : List V} {ds : List D} (h : Rps K F vs ds) : Sls K F (L2.start N vs) (startD N ds) := by
  unfold L2.start startD
  rw [h.len]
  generalize N.length - ds.length = n
  induction vs generalizing ds with
  | nil =>
    cases h
    induction n with
    | zero => exact .nil
    | succ n ih => exact .cons trivial ih
  | cons v vs ih =>
    cases h with
    | cons h t => exact .cons h (ih t)
/-- how a def ends: what it hands back may be told otherwise, its own cells forgotten -/
structure Fin (M : Md) (d : D) (M' : Md) (d' : D) : Prop where
  go : ∀ {K : PySem.W.Frag} {F H : Hp} {v : V}, Rl K F H M → Rp K F v d → ∃ G, Le F G ∧ Rl K G H M' ∧ Rp K G v d'
def outD (Qd : VD) (Xd : XD) : EndsD := { nx := fun _ M => ∃ M', (∀ a c, M' a = some c → M a = some c) ∧ Qd .non M', rt := fun d M => ∃ M' d', Fin M d M' d' ∧ Qd d' M', xx := fun C fs _ M => ∃ M', (∀ a c, M' a = some c → M a = some c) ∧ Xd C fs M' }
theorem lt_out {K : PySem.W.Frag} {F : Hp} {Qd : VD} {Xd : XD} {Q : VK} {E : XK} (kq : Kv K F Qd Q) (kx : Kx K F Xd E) : LT K (fun c d _ H => E c d H) F (outD Qd Xd) { nx := fun _ H => Q .non H, rt := Q } where
  nx := ⟨fun g l _ ⟨M', h1, h2⟩ => kq.go g (l.less h1) .non h2⟩
  rt := ⟨fun g l r ⟨M', d', f, h⟩ => by
    obtain ⟨J, e, l', r'⟩ := f.go l r
    exact kq.go (g.then' e) l' r' h⟩
  bk := ⟨fun _ _ _ h => h⟩
  ct := ⟨fun _ _ _ h => h⟩
  xx := fun g _ => ⟨fun g2 l f ⟨M', h1, h2⟩ => kx.go (g.then' g2) (l.less h1) f h2⟩
section
variable {P : Program} {w : World} {K : PySem.W.Frag} {mg : Str → Option Value} {base : Heap} {k : Nat} {f : Addr} {fd : FuncData} {name qual : Str} {params : Arguments} {body : List Stmt} {scope : Scope} {dvs : List V} {kws : List (Str × V)} {N ps : List Str} {sp : Sp} {spd : SpD}
theorem fn_goes (F : FunD K name qual params body scope dvs kws f fd) (S : FnScope N ps scope) (len : ∀ {vs H Q E}, sp vs H Q E → vs.length = ps.length)
    (hbody : ∀ (cdv : Value) (A : Around) (outer : List Env) (s : Shared) (H : Hp) (vs : List V) (Q : VK) (E : XK), Room k (A.deeper (envOfC qual scope s.heap.objs.size f cdv)) → A.guards = some [] → sp vs H Q E →
      ∃ t, PSs (cxOf (L2N.CX P w) P w K mg base N qual scope f cdv A outer s H E) body t ∧ t { nx := fun _ H' => Q .non H', rt := Q } (L2.start N vs) H) : FnG P w K mg base (k + 1) f fd ps sp := by
  obtain ⟨oc, od, dV, kV, doc, pm, an, cdv, ct, osl, rfl, lk, hcd, _, _⟩ := F.ex
  refine ⟨len, fun {A outer s H args us vs Q E} hr hg e0 hb r hsp => ?_⟩
  have old : ∀ b o, base.get? b = some o → s.heap.get? b = some o := fun b o e => (e0.bs b o e).1
  have KX : K.In s.heap := e0.mod.kin.keeps old
  have kinds : ∀ y ∈ ps.zip us, scope.names.lookup y.1 = some .local ∨ (scope.names.lookup y.1 = some .cell ∧ ((cellsFrom (s.heap.objs.size + 1) scope.names []).lookup y.1).isSome = true) := by
    intro y hy
    rcases S.par y.1 (List.of_mem_zip hy).1 with q | q
    · exact Or.inl q
    · exact Or.inr ⟨q, PySem.W.cellsFrom_some _ _ _ (Or.inl q)⟩
  refine codeAny_call_function hr.depth (KX _ _ lk) rfl S.co S.gen rfl (PySem.W.codeRec_of KX hcd) (hb _ _ _ _ (wpAny_newFunctionEnv_cells S.kind kinds fun env he s1 x => ?_))
  subst he
  refine ⟨(e0.mod.nolimit.keeps old).keeps x.toInCall.keep, codeAny_func ?_⟩
  obtain ⟨t, ht, hq⟩ := hbody cdv A outer s H vs Q E (hr.deeper _) hg hsp
  refine wpAny_mono (ht.run [] s1 _ H _ (inv_start S hr.hd e0 (len hsp) r x) hq) (fun fl s' hs => ?_) fun u s' z => z
  match fl, hs with
  | .ret u, ⟨v, σ', H', J, rv, q⟩ => exact ⟨v, H', J.os, J.bare, J.base, J.hok, rv, q⟩
  | .next, ⟨σ', H', J, q⟩ => exact ⟨.non, H', J.os, J.bare, J.base, J.hok, rfl, q⟩
  | .brk, ⟨_, _, _, q⟩ => exact q.elim
  | .cont, ⟨_, _, _, q⟩ => exact q.elim
/-- THE RULE: the body's reading over data, shown from the promise -/
theorem fn_data (F : FunD K name qual params body scope dvs kws f fd) (S : FnScope N ps scope) (len : ∀ {ds M Qd Xd}, spd ds M Qd Xd → ds.length = ps.length) {td : TSd}
    (hbody : ∀ (cdv : Value) (A : Around) (outer : List Env) (s : Shared) (H : Hp) (E : XK), Cd (cxOf (L2N.CX P w) P w K mg base N qual scope f cdv A outer s H E) (fun c d _ H => E c d H) k →
      PSsd (cxOf (L2N.CX P w) P w K mg base N qual scope f cdv A outer s H E) (fun c d _ H => E c d H) body td)
    (pure_ : ∀ {ds M Qd Xd}, spd ds M Qd Xd → td (outD Qd Xd) (startD N ds) M) : FnD P w K mg base (k + 1) f fd ps spd := by
  refine fn_goes F S (fun h => ?_) fun cdv A outer s H vs Q E hr hg h => ?_
  · obtain ⟨G, M, ds, Qd, Xd, l, r, kq, kx, q⟩ := h
    rw [r.len]
    exact len q
  · obtain ⟨G, M, ds, Qd, Xd, l, r, kq, kx, q⟩ := h
    refine ⟨_, hbody cdv A outer s H E ⟨S.nd, rfl, L2N.takes_of rfl rfl rfl rfl, passes_of rfl, hr, guards_deeper hg⟩, ?_⟩
    exact ⟨G, startD N ds, M, outD Qd Xd, l, start_rel r, lt_out kq kx, pure_ q⟩
end
end DL
/-! The data layer: statements, loops. -/
namespace DL
open PySem PySem.Spec PyProof.Rows L2
variable [B : Obs]
section
variable {X : Cx} {W : WX} {n : Nat} {K : PySem.W.Frag} {a b c e o tg iter : Expr} {es : List Expr} {st : Stmt} {sts body els : List Stmt} {pos p pos' : Pos} {x : Str} {te ta tb : TEd} {tt : TTd} {tes : TAd} {td tu : TSd} {gd : TGd} {gs : TGsd}
theorem lowS_then {F H : Hp} {σ : L2.St} {δ : SD} {M : Md} {t : TSd} {Dd : EndsD} {E : Ends} (l : Rl K F H M) (s : Sls K F σ δ) (lt : LT K W F Dd E) (h : t Dd δ M) : lowS K W t E σ H := ⟨F, δ, M, Dd, l, s, lt, h⟩
/-! ### in a row -/
def tNx : TSd := fun D δ M => D.nx δ M
def tSq (t u : TSd) : TSd := fun D δ M => t { D with nx := u D } δ M
theorem ss0 : PSsd X W [] tNx := pss_imp pss_nil fun E σ H ⟨F, δ, M, Dd, l, s, lt, h⟩ => lt.nx.go (.rfl' F) l s h
theorem ssc (h : PSd X W st td) (g : PSsd X W sts tu) : PSsd X W (st :: sts) (tSq td tu) := pss_imp (pss_cons h g) fun E σ H ⟨F, δ, M, Dd, l, s, lt, q⟩ =>
  lowS_then (Dd := { Dd with nx := tu Dd }) l s ⟨⟨fun {δ1 M1 σ1 G H1} g1 l1 s1 h1 => lowS_then l1 s1 (lt.mono g1) h1⟩, lt.rt, lt.bk, lt.ct, lt.xx⟩ q
theorem ss1 (h : PSd X W st td) : PSsd X W [st] td := pss_one h
/-- what is told of the slots and the store may be told otherwise -/
structure Vs (δ : SD) (M : Md) (δ' : SD) (M' : Md) : Prop where
  go : ∀ {K : PySem.W.Frag} {F H : Hp} {σ : L2.St}, Rl K F H M → Sls K F σ δ → ∃ G, Le F G ∧ Rl K G H M' ∧ Sls K G σ δ'
def tVs (t : TSd) : TSd := fun D δ M => ∃ δ' M', Vs δ M δ' M' ∧ t D δ' M'
theorem ssv (h : PSsd X W sts td) : PSsd X W sts (tVs td) := pss_imp h fun E σ H ⟨F, δ, M, Dd, l, s, lt, δ', M', v, q⟩ => by
  obtain ⟨G, g, l', s'⟩ := v.go l s
  exact lowS_then l' s' (lt.mono g) q
theorem sv (h : PSd X W st td) : PSd X W st (tVs td) := ps_imp h fun E σ H ⟨F, δ, M, Dd, l, s, lt, δ', M', v, q⟩ => by
  obtain ⟨G, g, l', s'⟩ := v.go l s
  exact lowS_then l' s' (lt.mono g) q
/-! ### simple statements -/
def tBk : TSd := fun D δ M => D.bk δ M
def tCt : TSd := fun D δ M => D.ct δ M
theorem spass : PSd X W (.Pass pos) tNx := ps_imp ps_pass fun E σ H ⟨F, δ, M, Dd, l, s, lt, h⟩ => lt.nx.go (.rfl' F) l s h
theorem sbreak : PSd X W (.Break pos) tBk := ps_imp ps_break fun E σ H ⟨F, δ, M, Dd, l, s, lt, h⟩ => lt.bk.go (.rfl' F) l s h
theorem scont : PSd X W (.Continue pos) tCt := ps_imp ps_continue fun E σ H ⟨F, δ, M, Dd, l, s, lt, h⟩ => lt.ct.go (.rfl' F) l s h
def tEx (t : TEd) : TSd := fun D δ M => t (D.xk δ) δ M fun _ M1 => D.nx δ M1
theorem sexpr (h : PEd X W e te) (hs : swapsWith e none pos.line X.env = pure false := by rfl) : PSd X W (.Expr e pos) (tEx te) := ps_imp (ps_expr h hs) fun E σ H ⟨F, δ, M, Dd, l, s, lt, q⟩ =>
  low_then l s (lt.xx (.rfl' F) s) q ⟨fun g l1 _ h1 => lt.nx.go g l1 (s.mono g) h1⟩
def tRt (t : TEd) : TSd := fun D δ M => t (D.xk δ) δ M D.rt
theorem sret (h : PEd X W e te) : PSd X W (.Return (some e) pos) (tRt te) := ps_imp (ps_ret h) fun E σ H ⟨F, δ, M, Dd, l, s, lt, q⟩ =>
  low_then l s (lt.xx (.rfl' F) s) q ⟨fun g l1 r1 h1 => lt.rt.go g l1 r1 h1⟩
def tRt0 : TSd := fun D δ M => D.rt .non M
theorem sret0 : PSd X W (.Return none pos) tRt0 := ps_imp ps_retN fun E σ H ⟨F, δ, M, Dd, l, s, lt, q⟩ => lt.rt.go (.rfl' F) l .non q
def tIf' (t : TTd) (u v : TSd) : TSd := fun D δ M => t (D.xk δ) δ M fun c M1 => if c = true then u D δ M1 else v D δ M1
theorem sif (h : PTd X W c tt) (g1 : PSsd X W body td) (g2 : PSsd X W els tu) : PSd X W (.If c body els pos) (tIf' tt td tu) := ps_imp (ps_if h g1 g2) fun E σ H ⟨F, δ, M, Dd, l, s, lt, q⟩ =>
  lowT_then l s (lt.xx (.rfl' F) s) q ⟨fun {b M1 G H1} g l1 h1 => by
    cases b with
    | true => exact lowS_then l1 (s.mono g) (lt.mono g) (show td Dd δ M1 from h1)
    | false => exact lowS_then l1 (s.mono g) (lt.mono g) (show tu Dd δ M1 from h1)⟩
/-- a statement that is never reached -/
def tNv : TSd := fun _ _ _ => False
theorem snever : PSd X W st tNv := ps_imp ps_never fun E σ H ⟨F, δ, M, Dd, l, s, lt, q⟩ => q
theorem ssnever : PSsd X W sts tNv := pss_imp pss_never fun E σ H ⟨F, δ, M, Dd, l, s, lt, q⟩ => q
/-! ### targets -/
def gN (i : Nat) : TGd := fun _ d δ M Q => Q (δ.set i (some d)) M
theorem low_gN {i : Nat} {v : V} {σ : L2.St} {H : Hp} {Q : L2.St → Hp → Prop} (h : lowG K W (gN i) v σ H Q) : gName i v σ H Q := by
  obtain ⟨F, δ, M, d, Qd, Xd, l, sl, rd, k, kx, h⟩ := h
  exact k.go (.rfl' F) l (sl.put' rd i) h
theorem pg_imp {t u : TG} (h : PG X e u) (k : ∀ v σ H Q, t v σ H Q → u v σ H Q) : PG X e t := ⟨fun pins s σ H v u Q I r q => h.run pins s σ H v u Q I r (k v σ H Q q)⟩
theorem pgs_imp {t u : TGs} (h : PGs X es u) (k : ∀ v σ H Q, t v σ H Q → u v σ H Q) : PGs X es t := ⟨fun pins s σ H v u Q I r q => h.run pins s σ H v u Q I r (k v σ H Q q)⟩
theorem gname {i : Nat} (hN : X.N.Nodup) (hi : X.N[i]? = some x) (hx : Loc X.env.scope x) (hf : X.fn x = true ∨ X.env.scope.names.lookup x = some .local := by first | exact .inl rfl | exact .inr rfl | assumption) : PGd X W (.Name x pos) (gN i) := pg_imp (pg_name hN hi hx hf) fun _ _ _ _ h => low_gN h
def gs0 : TGsd := fun ds δ M Q => match ds with
  | [] => Q δ M
  | _ => False
def gsc (t : TGd) (u : TGsd) : TGsd := fun ds δ M Q => match ds with
  | d :: r => t X0 d δ M fun δ' M' => u r δ' M' Q
  | [] => False
theorem gnil : PGsd X [] gs0 := pgs_imp pgs_nil fun v σ H Q ⟨F, δ, M, ds, Qd, l, sl, rd, k, h⟩ => by
  cases rd with
  | nil => exact ⟨rfl, k.go (.rfl' F) l sl h⟩
  | cons _ _ => exact h.elim
theorem gcons (h : PGd X W e gd) (g : PGsd X es gs) (he : (assignEach (e :: es) X.env).map (·.2) = assign e X.env :: (assignEach es X.env).map (·.2) := by rfl) : PGsd X (e :: es) (gsc gd gs) := pgs_imp (pgs_cons h g he) fun v σ H Q ⟨F, δ, M, ds, Qd, l, sl, rd, k, h⟩ => by
  cases rd with
  | nil => exact h.elim
  | cons r t => exact ⟨_, _, rfl, F, δ, M, _, _, X0, l, sl, r, ⟨fun {δ1 M1 σ1 G H1} g1 l1 s1 h1 => ⟨G, δ1, M1, _, Qd, l1, s1, t.mono g1, k.mono g1, h1⟩⟩, kx0, h⟩
/-- a, b = a tuple -/
def gT (n : Nat) (t : TGsd) : TGd := fun _ d δ M Q => match d with
  | .tup ds => ds.length = n ∧ t ds δ M Q
  | _ => False
theorem gtup {k m : Nat} (hc : X.calm = true) (h : PGsd X es gs) (hn : (assignEach es X.env).length = m := by rfl) (hst : (assignEach es X.env).findIdx? (·.1) = none := by rfl) : PGd X W (.Tuple es k pos) (gT m gs) :=
  pg_imp (pg_tup hc h hn hst) fun v σ H Q ⟨F, δ, M, d, Qd, Xd, l, sl, rd, k, kx, h⟩ => by
    cases rd with
    | tup hq r => exact ⟨_, _, rfl, l.sub.sqt hq, r.len.trans h.1, F, δ, M, _, Qd, l, sl, r, k, h.2⟩
    | _ => exact h.elim
/-! ### assignments -/
def tAs (t : TEd) (g : TGd) : TSd := fun D δ M => t (D.xk δ) δ M fun d M1 => g (D.xk δ) d δ M1 D.nx
theorem sasg (he : PEd X W e te) (hg : PGd X W tg gd) (hs : swapsWithSole [tg] e pos.line X.env = pure false := by rfl) (hw : swappedStores [tg] e X.env = pure none := by rfl)
    (h1 : (assignEach [tg] X.env).map (·.2) = [assign tg X.env] := by rfl) : PSd X W (.Assign [tg] e pos) (tAs te gd) := ps_imp (ps_asg he hg hs hw h1) fun E σ H ⟨F, δ, M, Dd, l, s, lt, q⟩ =>
  low_then l s (lt.xx (.rfl' F) s) q ⟨fun {d M1 v G H1} g l1 r1 h1 => ⟨G, δ, M1, d, Dd.nx, Dd.xk δ, l1, s.mono g, r1, lt.nx.mono g, lt.xx g (s.mono g), h1⟩⟩
def tSe (t : TEd) (i : Nat) : TSd := fun D δ M => t (D.xk δ) δ M fun d M1 => D.nx (δ.set i (some d)) M1
theorem sset {i : Nat} (hN : X.N.Nodup) (hi : X.N[i]? = some x) (hx : Loc X.env.scope x) (he : PEd X W e te) (hs : swapsWith e (some (.Name x pos')) pos.line X.env = pure false := by rfl)
    (hf : X.fn x = true ∨ X.env.scope.names.lookup x = some .local := by first | exact .inl rfl | exact .inr rfl | assumption) : PSd X W (.Assign [.Name x pos'] e pos) (tSe te i) := ps_imp (ps_set hN hi hx he hs hf) fun E σ H ⟨F, δ, M, Dd, l, s, lt, q⟩ =>
  low_then l s (lt.xx (.rfl' F) s) q ⟨fun {d M1 v G H1} g l1 r1 h1 => lt.nx.go g l1 ((s.mono g).put' r1 i) h1⟩
/-- x op= e -/
structure OKP (K : PySem.W.Frag) (r : TIp) (rd : R2d) : Prop where
  go : ∀ {F H : Hp} {M : Md} {x y : V} {d e : D} {Qd : VD} {Q : VK}, Rl K F H M → Rp K F x d → Rp K F y e → Kv K F Qd Q → rd d e M Qd → r x y H Q
def tAu (i : Nat) (t : TEd) (rd : R2d) : TSd := fun D δ M => match δ[i]? with
  | some (some d) => t (D.xk δ) δ M fun e M1 => rd d e M1 fun z M2 => D.nx (δ.set i (some z)) M2
  | _ => False
theorem saug {i : Nat} {op : Operator} {r : TIp} {rd : R2d} (hN : X.N.Nodup) (hi : X.N[i]? = some x) (hx : Loc X.env.scope x) (he : PEd X W e te) (ho : PIp X op r) (ok : OKP X.K r rd)
    (hf : X.fn x = true ∨ X.env.scope.names.lookup x = some .local := by first | exact .inl rfl | exact .inr rfl | assumption) : PSd X W (.AugAssign (.Name x pos') op e pos) (tAu i te rd) := ps_imp (ps_aug hN hi hx he ho hf) fun E σ H ⟨F, δ, M, Dd, l, s, lt, q⟩ => by
  unfold tAu at q
  split at q
  · rename_i d qd
    obtain ⟨v, q1, r0⟩ := s.get qd
    refine ⟨v, q1, low_then l s (lt.xx (.rfl' F) s) q ⟨fun {d1 M1 v1 G H1} g l1 r1 h1 => ok.go l1 (r0.mono g) r1 ⟨fun {d2 M2 v2 G2 H2} g2 l2 r2 h2 => ?_⟩ h1⟩⟩
    exact lt.nx.go (g.then' g2) l2 ((s.mono (g.then' g2)).put' r2 i) h2
  · exact q.elim
/-! ### while: by a word that falls -/
def tWh (t : TTd) (tb : TSd) : TSd := fun D δ M => ∃ W : Nat → SD → Md → Prop, (∃ m, W m δ M) ∧ ∀ m δ M, W m δ M →
  t (D.xk δ) δ M fun b M1 => if b = true then tb { D with nx := fun δ' M' => ∃ m', m' < m ∧ W m' δ' M', ct := fun δ' M' => ∃ m', m' < m ∧ W m' δ' M', bk := D.nx } δ M1 else D.nx δ M1
theorem swhile (hp : PassesOwn (model X.prog X.w) X.A X.env X.xe) (hc : PTd X W c tt) (hb : PSsd X W body td) : PSd X W (.While c body [] pos) (tWh tt td) := ps_imp (ps_while hp hc hb) fun E σ H ⟨F, δ, M, Dd, l, s, lt, Wd, ⟨m0, w0⟩, turn⟩ => by
  refine ⟨fun m σ H => ∃ G δ M, Le F G ∧ Rl X.K G H M ∧ Sls X.K G σ δ ∧ Wd m δ M, ⟨m0, F, δ, M, .rfl' F, l, s, w0⟩, ?_⟩
  rintro m σ1 H1 ⟨G, δ1, M1, g, l1, s1, w1⟩
  refine lowT_then l1 s1 (lt.xx g s1) (turn m δ1 M1 w1) ⟨fun {b M2 G2 H2} g2 l2 h2 => ?_⟩
  cases b with
  | false => exact lt.nx.go (g.then' g2) l2 (s1.mono g2) h2
  | true =>
    refine ⟨fun σ' H' => ∃ G' δ' M', Le F G' ∧ Rl X.K G' H' M' ∧ Sls X.K G' σ' δ' ∧ ∃ m', m' < m ∧ Wd m' δ' M', ?_, ?_⟩
    · rintro σ' H' ⟨G', δ', M', e1, e2, e3, m', hm, w'⟩
      exact ⟨m', hm, G', δ', M', e1, e2, e3, w'⟩
    · refine lowS_then (Dd := { Dd with nx := fun δ' M' => ∃ m', m' < m ∧ Wd m' δ' M', ct := fun δ' M' => ∃ m', m' < m ∧ Wd m' δ' M', bk := Dd.nx }) l2 (s1.mono g2) ⟨?_, lt.rt.mono (g.then' g2), lt.nx.mono (g.then' g2), ?_, fun e1 e2 => lt.xx ((g.then' g2).then' e1) e2⟩ h2
      · exact ⟨fun {δ' M' σ' G' H'} e1 e2 e3 h => ⟨G', δ', M', (g.then' g2).then' e1, e2, e3, h⟩⟩
      · exact ⟨fun {δ' M' σ' G' H'} e1 e2 e3 h => ⟨G', δ', M', (g.then' g2).then' e1, e2, e3, h⟩⟩
/-! ### what a loop walks -/
/-- items, and what must still hold of the store at each turn -/
structure Src where
  items : List D
  ok : Md → Prop
structure Feeds (K : PySem.W.Frag) (F : Hp) (S : Src) (J : It) : Prop where
  go : ∀ {i : Nat} {G H : Hp} {M : Md}, Le F G → Rl K G H M → S.ok M → i < S.items.length → J.go i H
  stop : ∀ {i : Nat} {G H : Hp} {M : Md}, Le F G → Rl K G H M → S.ok M → S.items.length ≤ i → J.stop i H
  yld : ∀ {i : Nat} {G H H' : Hp} {M : Md} {x : V} {d : D}, Le F G → Rl K G H M → S.ok M → S.items[i]? = some d → J.yld i H x H' → ∃ G', Le G G' ∧ Rl K G' H' M ∧ Rp K G' x d
abbrev TId := XD → SD → Md → (Src → Md → Prop) → Prop
def lowI (K : PySem.W.Frag) (W : WX) (t : TId) : TI := fun σ H R => ∃ F δ M Rd Xd, Rl K F H M ∧ Sls K F σ δ ∧ Kx K F Xd (WE W σ) ∧ (∀ {S : Src} {J : It} {M1 : Md} {G H1 : Hp}, Le F G → Rl K G H1 M1 → Feeds K G S J → Rd S M1 → R J H1) ∧ t Xd δ M Rd
abbrev PId (X : Cx) (W : WX) (tg iter : Expr) (t : TId) : Prop := PI X tg iter (lowI X.K W t)
theorem pi_imp {t u : TI} (h : PI X tg iter u) (k : ∀ σ H Q, t σ H Q → u σ H Q) : PI X tg iter t := ⟨fun pins s σ H Q I q => h.run pins s σ H Q I (k σ H Q q)⟩
/-- one turn behind another -/
def forGo (g : TGd) (tb : TSd) (ok : Md → Prop) (E : EndsD) : List D → SD → Md → Prop
  | [], δ, M => ok M ∧ E.nx δ M
  | d :: ds, δ, M => ok M ∧ g (E.xk δ) d δ M fun δ1 M1 => tb { E with nx := forGo g tb ok E ds, ct := forGo g tb ok E ds, bk := E.nx } δ1 M1
def tFo (ti : TId) (g : TGd) (tb : TSd) : TSd := fun D δ M => ti (D.xk δ) δ M fun S M1 => forGo g tb S.ok D S.items δ M1
theorem sfor (hp : PassesOwn (model X.prog X.w) X.A X.env X.xe) (hc : X.calm = true) {ti : TId} (hi : PId X W tg iter ti) (hg : PGd X W tg gd) (hb : PSsd X W body td) (hs : ∀ x, foldedSetIterable iter X.env x = pure x := by intros; rfl) :
    PSd X W (.For tg iter body [] pos) (tFo ti gd td) := ps_imp (ps_for hp hc hi hg hb hs) fun E σ H ⟨F, δ, M, Dd, l, s, lt, q⟩ => by
  refine ⟨F, δ, M, _, Dd.xk δ, l, s, lt.xx (.rfl' F) s, fun {S J M1 G H1} g l1 fd h1 => ?_, q⟩
  refine ⟨fun i m σ H => ∃ G1 δ M, Le G G1 ∧ Rl X.K G1 H M ∧ Sls X.K G1 σ δ ∧ i + m = S.items.length ∧ forGo gd td S.ok Dd (S.items.drop i) δ M, ⟨S.items.length, G, δ, M1, .rfl' G, l1, s.mono g, Nat.zero_add _, h1⟩, ?_⟩
  rintro i m σ1 H2 ⟨G1, δ1, M2, g1, l2, s2, him, w⟩
  by_cases hi : i < S.items.length
  · right
    rw [List.drop_eq_getElem_cons hi] at w
    obtain ⟨w1, w2⟩ := w
    refine ⟨fd.go g1 l2 w1 hi, fun σ' H' => ∃ G' δ' M', Le G G' ∧ Rl X.K G' H' M' ∧ Sls X.K G' σ' δ' ∧ forGo gd td S.ok Dd (S.items.drop (i + 1)) δ' M', ?_, ?_⟩
    · rintro σ' H' ⟨G', δ', M', e1, e2, e3, h⟩
      exact ⟨m - 1, by omega, G', δ', M', e1, e2, e3, by omega, h⟩
    · intro x H' hy
      obtain ⟨G3, g3, l3, r3⟩ := fd.yld g1 l2 w1 (List.getElem?_eq_getElem hi) hy
      have gg := g.then' (g1.then' g3)
      refine ⟨G3, δ1, M2, _, _, Dd.xk δ1, l3, s2.mono g3, r3, ⟨fun {δ4 M4 σ4 G4 H4} g4 l4 s4 h4 => ?_⟩, lt.xx gg (s2.mono g3), w2⟩
      refine lowS_then (Dd := { Dd with nx := forGo gd td S.ok Dd (S.items.drop (i + 1)), ct := forGo gd td S.ok Dd (S.items.drop (i + 1)), bk := Dd.nx }) l4 s4 ⟨?_, lt.rt.mono (gg.then' g4), lt.nx.mono (gg.then' g4), ?_, fun e1 e2 => lt.xx ((gg.then' g4).then' e1) e2⟩ h4
      · exact ⟨fun {δ' M' σ' G' H'} e1 e2 e3 h => ⟨G', δ', M', ((g1.then' g3).then' g4).then' e1, e2, e3, h⟩⟩
      · exact ⟨fun {δ' M' σ' G' H'} e1 e2 e3 h => ⟨G', δ', M', ((g1.then' g3).then' g4).then' e1, e2, e3, h⟩⟩
  · left
    rw [List.drop_eq_nil_of_le (by omega)] at w
    exact ⟨fd.stop g1 l2 w.1 (by omega), lt.nx.go (g.then' g1) l2 s2 w.2⟩
end
end DL
/-! The data layer: operations by values. -/
namespace DL
open PySem PySem.Spec PyProof.Rows L2
variable [B : Obs]
section
variable {X : Cx} {W : WX} {K : PySem.W.Frag} {F H : Hp} {M : Md} {v : V} {d : D}
/-! ### what a list, a tuple holds -/
def seqL (M : Md) : D → Option (List D)
  | .lst xs => some xs
  | .ref a => match M a with
    | some (.lst xs) => some xs
    | _ => none
  | _ => none
theorem seqL_ok (l : Rl K F H M) (r : Rp K F v d) {xs : List D} (h : seqL M d = some xs) : ∃ a vs, v = .ref a ∧ H a = some (.lst vs) ∧ Rps K F vs xs := by
  cases r with
  | lst p q =>
    cases h
    exact ⟨_, _, rfl, l.sub.of p, q⟩
  | ref a =>
    have h' : (match M a with
      | some (MC.lst xs) => some xs
      | _ => Option.none) = some xs := h
    cases e : M a with
    | none =>
      rw [e] at h'
      cases h'
    | some c =>
      rw [e] at h'
      cases c with
      | lst ys =>
        cases h'
        obtain ⟨_, vs, p, q⟩ := l.cell a _ e
        exact ⟨a, vs, rfl, p, q⟩
      | _ => cases h'
  | _ => cases h
def seqT : D → Option (List D)
  | .tup xs => some xs
  | _ => none
theorem seqT_ok (l : Rl K F H M) (r : Rp K F v d) {xs : List D} (h : seqT d = some xs) : ∃ a vs, v = .ref a ∧ SqT K H a vs ∧ Rps K F vs xs := by
  cases r with
  | tup p q =>
    cases h
    exact ⟨_, _, rfl, l.sub.sqt p, q⟩
  | _ => cases h
/-- a list or a tuple -/
def seqA (M : Md) (d : D) : Option (List D) := match d with
  | .tup xs => some xs
  | d => seqL M d
theorem seqA_ok (l : Rl K F H M) (r : Rp K F v d) {xs : List D} (h : seqA M d = some xs) : ∃ a vs, v = .ref a ∧ (H a = some (.lst vs) ∨ SqT K H a vs) ∧ Rps K F vs xs := by
  cases d with
  | tup ys =>
    obtain ⟨a, vs, e, p, q⟩ := seqT_ok l r (xs := ys) rfl
    cases h
    exact ⟨a, vs, e, .inr p, q⟩
  | _ =>
    obtain ⟨a, vs, e, p, q⟩ := seqL_ok l r (xs := xs) (by first | exact h | (cases h))
    exact ⟨a, vs, e, .inl p, q⟩

/-! ### whole numbers -/
def i2 (g : Int → Int → D) : R2d := fun x y M Q => match x, y with
  | .int i, .int j => Q (g i j) M
  | _, _ => False
theorem ok_i2 {gv : Int → Int → V} {g : Int → Int → D} (h : ∀ F i j, Rp K F (gv i j) (g i j)) : OK2 K (rI0 gv) (i2 g) := ⟨fun {F H M x y d e Qd Q} l rx ry k q => by
  cases rx with
  | int i => cases ry with
    | int j => exact ⟨i, j, rfl, rfl, k.go (.rfl' F) l (h F i j) q⟩
    | _ => exact q.elim
  | _ => exact q.elim⟩
def i2c (C : Int → Int → Prop) (g : Int → Int → D) : R2d := fun x y M Q => match x, y with
  | .int i, .int j => C i j ∧ Q (g i j) M
  | _, _ => False
theorem ok_i2c {C : Int → Int → Prop} {gv : Int → Int → V} {g : Int → Int → D} (h : ∀ F i j, Rp K F (gv i j) (g i j)) : OK2 K (rI C gv) (i2c C g) := ⟨fun {F H M x y d e Qd Q} l rx ry k q => by
  cases rx with
  | int i => cases ry with
    | int j => exact ⟨i, j, rfl, rfl, q.1, k.go (.rfl' F) l (h F i j) q.2⟩
    | _ => exact q.elim
  | _ => exact q.elim⟩
abbrev rSubD : R2d := i2 fun i j => .int (i - j)
abbrev rAndD : R2d := i2 fun i j => .int (Builtin.bitAnd i j)
abbrev rOrD : R2d := i2 fun i j => .int (Builtin.bitOr i j)
abbrev rXorD : R2d := i2 fun i j => .int (Builtin.bitXor i j)
abbrev rLtD : R2d := i2 fun i j => .bl (decide (i < j))
abbrev rLeD : R2d := i2 fun i j => .bl (decide (i ≤ j))
abbrev rGtD : R2d := i2 fun i j => .bl (decide (j < i))
abbrev rGeD : R2d := i2 fun i j => .bl (decide (j ≤ i))
abbrev rDivD : R2d := i2c CDiv fun i j => .int (i / j)
abbrev rModD : R2d := i2c (fun _ j => 0 < j) fun i j => .int (i % j)
abbrev rShlD : R2d := i2c CPow fun i j => .int (i * 2 ^ j.toNat)
abbrev rShrD : R2d := i2c (fun _ j => 0 ≤ j) fun i j => .int (i / 2 ^ j.toNat)
/-- + of ints, texts, lists, tuples -/
def rAddD : R2d := fun x y M Q => match x, y with
  | .int i, .int j => Q (.int (i + j)) M
  | .str a, .str b => a.length + b.length ≤ sizeLine ∧ Q (.str (a ++ b)) M
  | .tup xs, .tup ys => xs.length + ys.length ≤ sizeLine ∧ xs ≠ [] ∧ Q (.tup (xs ++ ys)) M
  | x, y => ∃ xs ys, seqL M x = some xs ∧ seqL M y = some ys ∧ xs.length + ys.length ≤ sizeLine ∧ Q (.lst (xs ++ ys)) M
abbrev rAddH (K : PySem.W.Frag) : R2 := fun x y H Q => (rI0 fun i j => .int (i + j)) x y H Q ∨ (fun x y H Q => (fun x y H Q => ∃ i j, x = .str i ∧ y = .str j ∧ i.length + j.length ≤ sizeLine ∧ Q (.str (i ++ j)) H) x y H Q ∨
  (fun x y H Q => rCatT K x y H Q ∨ rCat x y H Q) x y H Q) x y H Q
theorem op_addA : OpR X (binaryOp .Add) (rAddH X.K) := op_add.or (op_add_str.or (op_catT.or op_cat))
theorem ok_add : OK2 K (rAddH K) rAddD := ⟨fun {F H M x y d e Qd Q} l rx ry k q => by
  unfold rAddD at q
  split at q
  · cases rx
    cases ry
    exact .inl ⟨_, _, rfl, rfl, k.go (.rfl' F) l (.int _) q⟩
  · cases rx
    cases ry
    exact .inr (.inl ⟨_, _, rfl, rfl, q.1, k.go (.rfl' F) l (.str _) q.2⟩)
  · rename_i xs ys
    obtain ⟨a, vs, e1, p1, r1⟩ := seqT_ok l rx (xs := xs) rfl
    obtain ⟨b, ws, e2, p2, r2⟩ := seqT_ok l ry (xs := ys) rfl
    obtain ⟨q1, q2, q3⟩ := q
    refine .inr (.inr (.inl ⟨a, b, vs, ws, e1, e2, p1, p2, fun z => ?_, by rw [r1.len, r2.len]; exact q1, fun z => ?_, fun z p hp => ?_⟩))
    · rw [z] at r1
      cases r1
      exact q2 rfl
    · rw [z] at r2
      cases r2
      rw [List.append_nil] at q3
      rw [← e1]
      exact k.go (.rfl' F) l rx q3
    · obtain ⟨l2, g2⟩ := l.keep hp (.tup (vs ++ ws))
      exact k.go g2 l2 (.tup (.inl (.inl upd_same)) ((r1.app r2).mono g2)) q3
  · obtain ⟨xs, ys, h1, h2, hz, q3⟩ := q
    obtain ⟨a, vs, e1, p1, r1⟩ := seqL_ok l rx h1
    obtain ⟨b, ws, e2, p2, r2⟩ := seqL_ok l ry h2
    refine .inr (.inr (.inr ⟨a, b, vs, ws, e1, e2, p1, p2, by rw [r1.len, r2.len]; exact hz, fun p hp => ?_⟩))
    obtain ⟨l2, g2⟩ := l.keep hp (.lst (vs ++ ws))
    exact k.go g2 l2 (.lst upd_same ((r1.app r2).mono g2)) q3⟩
/-- * of ints, of a list and an int -/
def rMulD : R2d := fun x y M Q => match x, y with
  | .int i, .int j => CMul i j ∧ Q (.int (i * j)) M
  | x, .int k => ∃ xs, seqL M x = some xs ∧ (-(2 ^ 63) ≤ k ∧ k < 2 ^ 63) ∧ xs.length * k.toNat ≤ sizeLine ∧ Q (.lst (List.replicate k.toNat xs).flatten) M
  | _, _ => False
abbrev rMulH : R2 := fun x y H Q => (rI CMul fun i j => .int (i * j)) x y H Q ∨ rRep x y H Q
theorem op_mulA : OpR X (binaryOp .Mult) rMulH := op_mul.or op_rep
theorem Rps.rep {vs : List V} {ds : List D} (r : Rps K F vs ds) : ∀ n : Nat, Rps K F (List.replicate n vs).flatten (List.replicate n ds).flatten
  | 0 => .nil
  | n + 1 => by
    rw [List.replicate_succ, List.replicate_succ, List.flatten_cons, List.flatten_cons]
    exact r.app (Rps.rep r n)
theorem ok_mul : OK2 K rMulH rMulD := ⟨fun {F H M x y d e Qd Q} l rx ry k q => by
  unfold rMulD at q
  split at q
  · cases rx
    cases ry
    exact .inl ⟨_, _, rfl, rfl, q.1, k.go (.rfl' F) l (.int _) q.2⟩
  · obtain ⟨xs, h1, hk, hz, q3⟩ := q
    obtain ⟨a, vs, e1, p1, r1⟩ := seqL_ok l rx h1
    cases ry
    refine .inr ⟨a, _, vs, e1, rfl, p1, hk.1, hk.2, by rw [r1.len]; exact hz, fun p hp => ?_⟩
    obtain ⟨l2, g2⟩ := l.keep hp (.lst (List.replicate _ vs).flatten)
    exact k.go g2 l2 (.lst upd_same ((r1.rep _).mono g2)) q3
  · exact q.elim⟩
def rNegD : R1d := fun x M Q => match x with
  | .int i => Q (.int (-i)) M
  | _ => False
theorem ok_neg : OK1 K (rU fun i => .int (-i)) rNegD := ⟨fun {F H M x d Qd Q} l rx k q => by
  cases rx with
  | int i => exact ⟨i, rfl, k.go (.rfl' F) l (.int _) q⟩
  | _ => exact q.elim⟩

/-! ### == -/
mutual
/-- the plain datum that d stands for -/
inductive Py (M : Md) : D → PyData → Prop
  | non : Py M .non .none
  | bl (b : Bool) : Py M (.bl b) (.bool b)
  | int (i : Int) : Py M (.int i) (.int i)
  | str (x : Str) : Py M (.str x) (.str x)
  | lst {ds : List D} {ps : List PyData} (h : Pys M ds ps) : Py M (.lst ds) (.list ps)
  | tup {ds : List D} {ps : List PyData} (h : Pys M ds ps) : Py M (.tup ds) (.tuple ps)
  | cell {a : Addr} {ds : List D} {ps : List PyData} (e : M a = some (.lst ds)) (h : Pys M ds ps) : Py M (.ref a) (.list ps)
inductive Pys (M : Md) : List D → List PyData → Prop
  | nil : Pys M [] []
  | cons {d : D} {p : PyData} {ds : List D} {ps : List PyData} (h : Py M d p) (t : Pys M ds ps) : Pys M (d :: ds) (p :: ps)
end
mutual
theorem Py.dp (l : Rl K F H M) {v : V} {d : D} {p : PyData} (h : Py M d p) (r : Rp K F v d) : Dp K H v p := by
  cases h with
  | non =>
    cases r
    exact .non
  | bl b =>
    cases r
    exact .bl b
  | int i =>
    cases r
    exact .int i
  | str x =>
    cases r
    exact .str x
  | lst h =>
    cases r with
    | lst e q => exact .lst (.inl (.inl (l.sub.of e))) (Pys.dp l h q)
  | tup h =>
    cases r with
    | tup e q => exact .tup (l.sub.sqt e) (Pys.dp l h q)
  | cell e h =>
    cases r
    obtain ⟨_, vs, p1, p2⟩ := l.cell _ _ e
    exact .lst (.inl (.inl p1)) (Pys.dp l h p2)
theorem Pys.dp (l : Rl K F H M) {vs : List V} {ds : List D} {ps : List PyData} (h : Pys M ds ps) (r : Rps K F vs ds) : DpAll K H vs ps := by
  cases h with
  | nil =>
    cases r
    exact .nil
  | cons h t =>
    cases r with
    | cons r1 r2 => exact .cons (Py.dp l h r1) (Pys.dp l t r2)
end
/-- equality of scalars comes out by computation; else by what both stand for -/
def rEqD : R2d := fun x y M Q => match x, y with
  | .int i, .int j => Q (.bl (decide (i = j))) M
  | .str a, .str b => Q (.bl (decide (a = b))) M
  | .bl a, .bl b => Q (.bl (decide (a = b))) M
  | x, y => ∃ p q, Py M x p ∧ Py M y q ∧ SeqAt.shaped p = true ∧ SeqAt.shaped q = true ∧ Q (.bl (PyData.eqv p q)) M
def rNeD : R2d := fun x y M Q => match x, y with
  | .int i, .int j => Q (.bl (!decide (i = j))) M
  | .str a, .str b => Q (.bl (!decide (a = b))) M
  | .bl a, .bl b => Q (.bl (!decide (a = b))) M
  | x, y => ∃ p q, Py M x p ∧ Py M y q ∧ SeqAt.shaped p = true ∧ SeqAt.shaped q = true ∧ Q (.bl (!PyData.eqv p q)) M
abbrev rEqH (K : PySem.W.Frag) : R2 := fun x y H Q => rEq x y H Q ∨ L2.rEqD K x y H Q
abbrev rNeH (K : PySem.W.Frag) : R2 := fun x y H Q => rNe x y H Q ∨ L2.rNeD K x y H Q
theorem op_eqA (hu : X.A.units + 64 < cLine) : OpR X (compareOp .Eq) (rEqH X.K) := op_eq.or (op_eqD hu)
theorem op_neA (hu : X.A.units + 64 < cLine) : OpR X (compareOp .NotEq) (rNeH X.K) := op_ne.or (op_neD hu)
theorem dec_int (i j : Int) : decide (V.int i = V.int j) = decide (i = j) := by simp
theorem dec_str (i j : Str) : decide (V.str i = V.str j) = decide (i = j) := by simp
theorem dec_bl (i j : Bool) : decide (V.bl i = V.bl j) = decide (i = j) := by simp
theorem ok_eq : OK2 K (rEqH K) rEqD := ⟨fun {F H M x y d e Qd Q} l rx ry k q => by
  unfold rEqD at q
  split at q
  · cases rx
    cases ry
    exact .inl ⟨rfl, by rw [dec_int]; exact k.go (.rfl' F) l (.bl _) q⟩
  · cases rx
    cases ry
    exact .inl ⟨rfl, by rw [dec_str]; exact k.go (.rfl' F) l (.bl _) q⟩
  · cases rx
    cases ry
    exact .inl ⟨rfl, by rw [dec_bl]; exact k.go (.rfl' F) l (.bl _) q⟩
  · obtain ⟨p, p', h1, h2, s1, s2, q⟩ := q
    exact .inr ⟨p, p', h1.dp l rx, h2.dp l ry, s1, s2, k.go (.rfl' F) l (.bl _) q⟩⟩
theorem ok_ne : OK2 K (rNeH K) rNeD := ⟨fun {F H M x y d e Qd Q} l rx ry k q => by
  unfold rNeD at q
  split at q
  · cases rx
    cases ry
    exact .inl ⟨rfl, by rw [dec_int]; exact k.go (.rfl' F) l (.bl _) q⟩
  · cases rx
    cases ry
    exact .inl ⟨rfl, by rw [dec_str]; exact k.go (.rfl' F) l (.bl _) q⟩
  · cases rx
    cases ry
    exact .inl ⟨rfl, by rw [dec_bl]; exact k.go (.rfl' F) l (.bl _) q⟩
  · obtain ⟨p, p', h1, h2, s1, s2, q⟩ := q
    exact .inr ⟨p, p', h1.dp l rx, h2.dp l ry, s1, s2, k.go (.rfl' F) l (.bl _) q⟩⟩
/-! ### is None, is not None; is, is not of Bools -/
def isNon : D → Bool
  | .non => true
  | _ => false
theorem isNon_ok (r : Rp K F v d) : decide (v = .non) = isNon d := by
  cases r <;> rfl
def rIsD : R2d := fun x y M Q => match y with
  | .non => Q (.bl (isNon x)) M
  | .bl b => match x with
    | .bl a => Q (.bl (decide (a = b))) M
    | _ => False
  | _ => False
def rIsnD : R2d := fun x y M Q => match y with
  | .non => Q (.bl (!isNon x)) M
  | .bl b => match x with
    | .bl a => Q (.bl (!decide (a = b))) M
    | _ => False
  | _ => False
abbrev rIsH : R2 := fun x y H Q => (fun x y H Q => y = .non ∧ Q (.bl (decide (x = .non))) H) x y H Q ∨ rIsB x y H Q
abbrev rIsnH : R2 := fun x y H Q => (fun x y H Q => y = .non ∧ Q (.bl (!decide (x = .non))) H) x y H Q ∨ rNotB x y H Q
theorem op_isA : OpR X (compareOp .Is) rIsH := op_isN.or op_isBl
theorem op_isnA : OpR X (compareOp .IsNot) rIsnH := op_notN.or op_notBl
theorem ok_is : OK2 K rIsH rIsD := ⟨fun {F H M x y d e Qd Q} l rx ry k q => by
  cases ry with
  | non => exact .inl ⟨rfl, by rw [isNon_ok rx]; exact k.go (.rfl' F) l (.bl _) q⟩
  | bl b => cases rx with
    | bl a => exact .inr ⟨a, b, rfl, rfl, k.go (.rfl' F) l (.bl _) q⟩
    | _ => exact q.elim
  | _ => exact q.elim⟩
theorem ok_isn : OK2 K rIsnH rIsnD := ⟨fun {F H M x y d e Qd Q} l rx ry k q => by
  cases ry with
  | non => exact .inl ⟨rfl, by rw [isNon_ok rx]; exact k.go (.rfl' F) l (.bl _) q⟩
  | bl b => cases rx with
    | bl a => exact .inr ⟨a, b, rfl, rfl, k.go (.rfl' F) l (.bl _) q⟩
    | _ => exact q.elim
  | _ => exact q.elim⟩
/-! ### in, of flat things -/
def flatD : D → Bool
  | .non => true
  | .bl _ => true
  | .int _ => true
  | .str _ => true
  | _ => false
theorem flat_ok (r : Rp K F v d) (h : flatD d = true) : flatV v = true := by
  cases r with
  | non => rfl
  | bl b => rfl
  | int i => rfl
  | str x => rfl
  | _ => cases h
theorem flats_ok {vs : List V} {ds : List D} (r : Rps K F vs ds) (h : ds.all flatD = true) : vs.all flatV = true := by
  induction vs generalizing ds with
  | nil => rfl
  | cons v vs ih =>
    cases r with
    | cons r t =>
      rw [List.all_cons, Bool.and_eq_true] at h ⊢
      exact ⟨flat_ok r h.1, ih t h.2⟩
def eqF : D → D → Bool
  | .non, .non => true
  | .bl a, .bl b => a == b
  | .bl a, .int b => (if a then 1 else 0) == b
  | .int a, .bl b => a == (if b then 1 else 0)
  | .int a, .int b => a == b
  | .str a, .str b => a == b
  | _, _ => false
theorem eqF_ok {u : V} {e : D} (r : Rp K F v d) (q : Rp K F u e) : eqV v u = eqF d e := by
  cases r <;> cases q <;> rfl
def inF (x : D) (xs : List D) : Bool := xs.any fun y => eqF y x
theorem inF_ok {vs : List V} {ds : List D} (r : Rp K F v d) (q : Rps K F vs ds) : inV v vs = inF d ds := by
  unfold inV inF
  induction vs generalizing ds with
  | nil =>
    cases q
    rfl
  | cons u vs ih =>
    cases q with
    | cons q t => rw [List.any_cons, List.any_cons, eqF_ok q r, ih t]
/-- x in a list or a tuple of flat things, in a text -/
def rInD (neg : Bool) : R2d := fun x y M Q => match y with
  | .str b => match x with
    | .str a => Q (.bl (if neg then !(!(Builtin.Str.occurrences b a 0 b.length 1).isEmpty) else !(Builtin.Str.occurrences b a 0 b.length 1).isEmpty)) M
    | _ => False
  | y => ∃ xs, seqA M y = some xs ∧ flatD x = true ∧ xs.all flatD = true ∧ Q (.bl (if neg then !inF x xs else inF x xs)) M
abbrev rInH (K : PySem.W.Frag) : R2 := fun x y H Q => rIn K false x y H Q ∨ (fun x y H Q => ∃ i j, x = .str i ∧ y = .str j ∧ Q (.bl (!(Builtin.Str.occurrences j i 0 j.length 1).isEmpty)) H) x y H Q
abbrev rNinH (K : PySem.W.Frag) : R2 := fun x y H Q => rIn K true x y H Q ∨ (fun x y H Q => ∃ i j, x = .str i ∧ y = .str j ∧ Q (.bl (!(!(Builtin.Str.occurrences j i 0 j.length 1).isEmpty))) H) x y H Q
theorem op_inA : OpR X (compareOp .In) (rInH X.K) := op_in_seq.or op_in_str
theorem op_ninA : OpR X (compareOp .NotIn) (rNinH X.K) := op_notIn_seq.or op_notIn_str
theorem ok_in_seq {neg : Bool} {x y : V} {d e : D} {Qd : VD} {Q : VK} (l : Rl K F H M) (rx : Rp K F x d) (ry : Rp K F y e) (k : Kv K F Qd Q)
    (q : ∃ xs, seqA M e = some xs ∧ flatD d = true ∧ xs.all flatD = true ∧ Qd (.bl (if neg then !inF d xs else inF d xs)) M) : rIn K neg x y H Q := by
  obtain ⟨xs, h, f1, f2, q⟩ := q
  obtain ⟨a, vs, e1, p, r⟩ := seqA_ok l ry h
  refine ⟨a, vs, e1, ?_, flat_ok rx f1, flats_ok r f2, ?_⟩
  · rcases p with p | p
    · exact .inl (.inl (.inl p))
    · exact .inr p
  · rw [inF_ok rx r]
    exact k.go (.rfl' F) l (.bl _) q
theorem ok_in : OK2 K (rInH K) (rInD false) := ⟨fun {F H M x y d e Qd Q} l rx ry k q => by
  cases ry with
  | str b => cases rx with
    | str a => exact .inr ⟨a, b, rfl, rfl, k.go (.rfl' F) l (.bl _) q⟩
    | _ => exact q.elim
  | lst p r => exact .inl (ok_in_seq l rx (.lst p r) k q)
  | tup p r => exact .inl (ok_in_seq l rx (.tup p r) k q)
  | ref a => exact .inl (ok_in_seq l rx (.ref a) k q)
  | _ =>
    obtain ⟨xs, h, _⟩ := q
    cases h⟩
theorem ok_nin : OK2 K (rNinH K) (rInD true) := ⟨fun {F H M x y d e Qd Q} l rx ry k q => by
  cases ry with
  | str b => cases rx with
    | str a => exact .inr ⟨a, b, rfl, rfl, k.go (.rfl' F) l (.bl _) q⟩
    | _ => exact q.elim
  | lst p r => exact .inl (ok_in_seq l rx (.lst p r) k q)
  | tup p r => exact .inl (ok_in_seq l rx (.tup p r) k q)
  | ref a => exact .inl (ok_in_seq l rx (.ref a) k q)
  | _ =>
    obtain ⟨xs, h, _⟩ := q
    cases h⟩
/-! ### a place in a list, a tuple, a text -/
def rIxD : R2d := fun x y M Q => match y with
  | .int i => match seqA M x with
    | some xs => optP (atI xs i) fun v => Q v M
    | none => match x with
      | .str z => z.length ≤ sizeLine ∧ optP (atI z.cps.toList i) fun c => Q (.str ⟨#[c]⟩) M
      | _ => False
  | _ => False
theorem at_rel {vs : List V} {ds : List D} (r : Rps K F vs ds) {i : Int} {d : D} (h : atI ds i = some d) : ∃ v, atI vs i = some v ∧ Rp K F v d := by
  unfold atI at h ⊢
  rw [r.len]
  cases e : ixN ds.length i with
  | none =>
    rw [e] at h
    cases h
  | some j =>
    rw [e] at h
    exact r.at' h
theorem ok_ix_seq {x : V} {d : D} {i : Int} {Qd : VD} {Q : VK} (l : Rl K F H M) (rx : Rp K F x d) (k : Kv K F Qd Q) (q : ∃ xs v, seqA M d = some xs ∧ atI xs i = some v ∧ Qd v M) : rIx K x (.int i) H Q := by
  obtain ⟨xs, w, h, e, q⟩ := q
  obtain ⟨a, vs, e1, p, r⟩ := seqA_ok l rx h
  obtain ⟨u, e2, r2⟩ := at_rel r e
  rcases p with p | p
  · exact .inl ⟨a, vs, i, u, e1, rfl, .inl (.inl p), e2, k.go (.rfl' F) l r2 q⟩
  · exact .inr (.inl ⟨a, vs, i, u, e1, rfl, p, e2, k.go (.rfl' F) l r2 q⟩)
theorem ix_out {x : D} {i : Int} {M : Md} {Q : VD} (h : rIxD x (.int i) M Q) : (∃ xs v, seqA M x = some xs ∧ atI xs i = some v ∧ Q v M) ∨ ∃ z c, x = .str z ∧ z.length ≤ sizeLine ∧ atI z.cps.toList i = some c ∧ Q (.str ⟨#[c]⟩) M := by
  simp only [rIxD] at h
  split at h
  · rename_i xs e
    obtain ⟨v, e2, q⟩ := optP_out h
    exact .inl ⟨xs, v, e, e2, q⟩
  · split at h
    · obtain ⟨h1, q⟩ := h
      obtain ⟨c, h2, q⟩ := optP_out q
      exact .inr ⟨_, c, rfl, h1, h2, q⟩
    · exact h.elim
theorem ok_ix : OK2 K (rIx K) rIxD := ⟨fun {F H M x y d e Qd Q} l rx ry k q => by
  cases ry with
  | int i =>
    rcases ix_out q with q | ⟨z, c, rfl, h1, h2, q⟩
    · exact ok_ix_seq l rx k q
    · cases rx with
      | str z => exact .inr (.inr ⟨z, i, c, rfl, rfl, h1, h2, k.go (.rfl' F) l (.str _) q⟩)
  | _ => exact q.elim⟩
/-! ### x[i] = v -/
theorem pe_cell {a : Addr} {xs : List D} (l : Rl K F H M) (h : M a = some (.lst xs)) : ∃ vs, F a = none ∧ H a = some (.lst vs) ∧ Rps K F vs xs := by
  obtain ⟨n, vs, p, q⟩ := l.cell a _ h
  exact ⟨vs, n, p, q⟩
def setD (o i v : D) (M : Md) (Q : Md → Prop) : Prop := match o, i with
  | .ref a, .int j => match M a with
    | some (.lst xs) => optP (ixN xs.length j) fun n => Q (put M a (.lst (xs.set n v)))
    | _ => False
  | _, _ => False
theorem setD_out {o i v : D} {M : Md} {Q : Md → Prop} (h : setD o i v M Q) : ∃ a j xs n, o = .ref a ∧ i = .int j ∧ M a = some (.lst xs) ∧ ixN xs.length j = some n ∧ Q (put M a (.lst (xs.set n v))) := by
  unfold setD at h
  split at h
  · split at h
    · obtain ⟨n, e, h⟩ := optP_out h
      exact ⟨_, _, _, n, rfl, rfl, by assumption, e, h⟩
    · exact h.elim
  · exact h.elim
def gS (to ti : TEd) : TGd := fun Xd v δ M Q => to Xd δ M fun o M1 => ti Xd δ M1 fun i M2 => setD o i v M2 fun M3 => Q δ M3
theorem gsub {o i : Expr} {pos : Pos} {to ti : TEd} (ho : PEd X W o to) (hi : PEd X W i ti)
    (ha : ∀ v, assign (.Subscript o i pos) X.env v = (do let p ← holding [v] (eval o X.env); let q ← holding [v, p] (eval i X.env); standAt pos; holding [v, p, q] (setItem p q v); release [v, p, q] []) := by intro; rfl) : PGd X W (.Subscript o i pos) (gS to ti) := pg_imp (pg_sub ho hi set_list ha) fun v σ H Q ⟨F, δ, M, d, Qd, Xd, l, s, rd, k, kx, q⟩ =>
  low_then l s kx q ⟨fun {d1 M1 v1 G1 H1} g1 l1 r1 q1 => low_then l1 (s.mono g1) (kx.mono g1) q1 ⟨fun {d2 M2 v2 G2 H2} g2 l2 r2 q2 => by
    obtain ⟨a, j, xs, n, ea, ej, h, hn, q3⟩ := setD_out q2
    subst ea ej
    cases r1
    cases r2
    obtain ⟨vs, hf, hh, r⟩ := pe_cell l2 h
    refine ⟨a, vs, j, n, rfl, rfl, hh, by rw [r.len]; exact hn, ?_⟩
    exact k.go (g1.then' g2) (l2.cellput (u := .lst (vs.set n v)) (c := .lst (xs.set n d)) hf ⟨_, upd_same, r.put (rd.mono (g1.then' g2)) n⟩) (s.mono (g1.then' g2)) q3⟩⟩
/-! ### methods of lists -/
def tMt0 (r : D → Md → VD → Prop) (t : TEd) : TEd := fun Xd δ M Q => t Xd δ M fun o M1 => r o M1 Q
def tMt1 (r : D → D → Md → VD → Prop) (t u : TEd) : TEd := fun Xd δ M Q => t Xd δ M fun o M1 => u Xd δ M1 fun d M2 => r o d M2 Q
/-- a list's method with one argument; the list is of the kind told by isL ahead of the argument -/
structure OKM (K : PySem.W.Frag) (T : String) (r : V → List V → Hp → VK → Prop) (rd : RMd) (pre : D → Md → Prop) : Prop where
  ty : ∀ {F H : Hp} {M : Md} {x : V} {d : D}, Rl K F H M → Rp K F x d → pre d M → tyV K T x H
  go : ∀ {F H : Hp} {M : Md} {x : V} {d : D} {vs : List V} {ds : List D} {Qd : VD} {Q : VK}, Rl K F H M → Rp K F x d → Rps K F vs ds → Kv K F Qd Q → rd d ds M Qd → r x vs H Q
def tMe (pre : D → Md → Prop) (rd : RMd) (t : TEd) (u : TAd) : TEd := fun Xd δ M Q => t Xd δ M fun o M1 => pre o M1 ∧ u Xd δ M1 fun ds M2 => rd o ds M2 Q
def tMe0 (pre : D → Md → Prop) (rd : RMd) (t : TEd) : TEd := fun Xd δ M Q => t Xd δ M fun o M1 => pre o M1 ∧ rd o [] M1 Q
section
variable {T : String} {id : String} {name : Str} {o e : Expr} {es : List Expr} {apos cpos : Pos} {to : TEd} {tes : TAd} {r : V → List V → Hp → VK → Prop} {rd : RMd} {pre : D → Md → Prop}
theorem pbm (pa : PlainAttrs T) (slot : Slot T name id) (hty : typeOf (.builtin id) = pure (.type "method_descriptor")) (hm : MtR X id r) (ok : OKM X.K T r rd pre) (ho : PEd X W o to) (ha : PAd X W (e :: es) tes)
    (hbase : attributeBase o name X.env (eval o X.env) = eval o X.env := by rfl)
    (hfew : ((backTo cpos (starEach (e :: es) X.env)).all (fun x => !x.1) && (backToKw cpos (keywordEach [] X.env)).all (fun x => x.1.isSome) && decide ((e :: es).length + ([] : List Keyword).length + (if ([] : List Keyword).isEmpty then 0 else 1) < 30)) = true := by rfl)
    (hline : (apos.endLine == cpos.line) = true := by rfl) (hs : starEach (e :: es) X.env = (false, eval e X.env) :: starEach es X.env := by rfl) (hplain : (backTo cpos (starEach es X.env)).any (·.1) = false := by rfl) :
    PEd X W (.Call (.Attribute o name apos) (e :: es) [] cpos) (tMe pre rd to tes) := pe_imp (pe_bm pa slot hty hm ho ha hbase hfew hline hs hplain) fun σ H Q ⟨F, δ, M, Qd, Xd, l, s, k, kx, q⟩ =>
  low_then l s kx q ⟨fun {d1 M1 v1 G1 H1} g1 l1 r1 q1 => ⟨ok.ty l1 r1 q1.1, lowA_then l1 (s.mono g1) (kx.mono g1) q1.2 ⟨fun {d2 M2 v2 G2 H2} g2 l2 r2 q2 => ok.go l2 (r1.mono g2) r2 (k.mono (g1.then' g2)) q2⟩⟩⟩
theorem pbm0 (pa : PlainAttrs T) (slot : Slot T name id) (hty : typeOf (.builtin id) = pure (.type "method_descriptor")) (hm : MtR X id r) (ok : OKM X.K T r rd pre) (ho : PEd X W o to)
    (hbase : attributeBase o name X.env (eval o X.env) = eval o X.env := by rfl) (hline : (apos.endLine == cpos.line) = true := by rfl) :
    PEd X W (.Call (.Attribute o name apos) [] [] cpos) (tMe0 pre rd to) := pe_imp (pe_bm0 pa slot hty hm ho hbase hline) fun σ H Q ⟨F, δ, M, Qd, Xd, l, s, k, kx, q⟩ =>
  low_then l s kx q ⟨fun {d1 M1 v1 G1 H1} g1 l1 r1 q1 => ⟨ok.ty l1 r1 q1.1, ok.go l1 r1 .nil (k.mono g1) q1.2⟩⟩
end
/-- d is a list: a cell, or one that never changes -/
def isLs (d : D) (M : Md) : Prop := (seqL M d).isSome = true
theorem ty_list {x : V} (l : Rl K F H M) (r : Rp K F x d) (h : isLs d M) : tyV K "list" x H := by
  obtain ⟨xs, e⟩ := Option.isSome_iff_exists.mp h
  obtain ⟨a, vs, rfl, p, _⟩ := seqL_ok l r e
  exact .inl ⟨rfl, vs, .inl (.inl p)⟩
def mAppD : RMd := fun o ds M Q => match o, ds with
  | .ref a, [d] => match M a with
    | some (.lst xs) => xs.length < sizeLine ∧ Q .non (put M a (.lst (xs ++ [d])))
    | _ => False
  | _, _ => False
theorem ok_app : OKM K "list" rAppend mAppD isLs := ⟨ty_list, fun {F H M x d vs ds Qd Q} l rx rs k q => by
  cases rx with
  | ref a => cases rs with
    | nil => exact q.elim
    | cons r1 r2 => cases r2 with
      | cons _ _ => exact q.elim
      | nil =>
        have q : (match M a with
            | some (MC.lst xs) => xs.length < sizeLine ∧ Qd .non (put M a (.lst (xs ++ [_])))
            | _ => False) := q
        split at q
        case h_2 => exact q.elim
        rename_i xs h
        obtain ⟨hz, q⟩ := q
        obtain ⟨ws, hf, hh, r⟩ := pe_cell l h
        exact ⟨a, ws, _, rfl, rfl, hh, by rw [r.len]; exact hz, k.go (.rfl' F) (l.cellput (u := .lst (ws ++ [_])) (c := .lst (xs ++ [_])) hf ⟨_, upd_same, r.app (.one r1)⟩) .non q⟩
  | _ => exact q.elim⟩
def mPopD : RMd := fun o ds M Q => match o, ds with
  | .ref a, [] => match M a with
    | some (.lst xs) => optP xs[xs.length - 1]? fun d => Q d (put M a (.lst xs.dropLast))
    | _ => False
  | _, _ => False
theorem ok_pop : OKM K "list" rPop mPopD isLs := ⟨ty_list, fun {F H M x d vs ds Qd Q} l rx rs k q => by
  cases rx with
  | ref a => cases rs with
    | cons _ _ => exact q.elim
    | nil =>
      have q : (match M a with
          | some (MC.lst xs) => optP xs[xs.length - 1]? fun d => Qd d (put M a (.lst xs.dropLast))
          | _ => False) := q
      split at q
      case h_2 => exact q.elim
      rename_i xs h
      obtain ⟨y, hy, q⟩ := optP_out q
      obtain ⟨ws, hf, hh, r⟩ := pe_cell l h
      obtain ⟨u, hu, ru⟩ := r.at' hy
      exact ⟨a, ws, u, rfl, rfl, hh, by rw [r.len]; exact hu, k.go (.rfl' F) (l.cellput (u := .lst ws.dropLast) (c := .lst xs.dropLast) hf ⟨_, upd_same, r.init⟩) ru q⟩
  | _ => exact q.elim⟩
end
end DL
/-! The data layer: slices, truth, chains, what loops walk, comprehensions. -/
namespace DL
open PySem PySem.Spec PyProof.Rows L2
variable [B : Obs]
section
variable {X : Cx} {W : WX} {K : PySem.W.Frag} {F H : Hp} {M : Md} {v : V} {d : D}
/-! ### slices -/
abbrev TOd := XD → SD → Md → (Option Int → Md → Prop) → Prop
structure Ko (K : PySem.W.Frag) (F : Hp) (Qd : Option Int → Md → Prop) (Q : Option Int → Hp → Prop) : Prop where
  go : ∀ {o : Option Int} {M : Md} {G H : Hp}, Le F G → Rl K G H M → Qd o M → Q o H
def lowO (K : PySem.W.Frag) (W : WX) (t : TOd) : TO := fun σ H Q => ∃ F δ M Qd Xd, Rl K F H M ∧ Sls K F σ δ ∧ Ko K F Qd Q ∧ Kx K F Xd (WE W σ) ∧ t Xd δ M Qd
abbrev POd (X : Cx) (W : WX) (e : Option Expr) (t : TOd) : Prop := PO X e (lowO X.K W t)
theorem po_imp {e : Option Expr} {t u : TO} (h : PO X e u) (k : ∀ σ H Q, t σ H Q → u σ H Q) : PO X e t := ⟨fun pins s σ H Q I q => h.run pins s σ H Q I (k σ H Q q)⟩
def tP0 : TOd := fun _ _ M Q => Q none M
def tP1 (t : TEd) : TOd := fun Xd δ M Q => t Xd δ M fun d M1 => match d with
  | .int i => Q (some i) M1
  | _ => False
theorem po0 : POd X W none tP0 := po_imp po_none fun σ H Q ⟨F, δ, M, Qd, Xd, l, s, k, kx, q⟩ => k.go (.rfl' F) l q
theorem po1 {e : Expr} {te : TEd} (h : PEd X W e te) : POd X W (some e) (tP1 te) := po_imp (po_some h) fun σ H Q ⟨F, δ, M, Qd, Xd, l, s, k, kx, q⟩ => low_then l s kx q ⟨fun {d1 M1 v1 G1 H1} g1 l1 r1 q1 => by
  cases r1 with
  | int i => exact ⟨i, rfl, k.go g1 l1 q1⟩
  | _ => exact q1.elim⟩
def cutD {α : Type} (xs : List α) (lo hi : Option Int) : List α := (xs.drop (HT.sIx xs.length 0 lo)).take (HT.sIx xs.length xs.length hi - HT.sIx xs.length 0 lo)
theorem cut_rel {vs : List V} {ds : List D} (r : Rps K F vs ds) (lo hi : Option Int) : Rps K F (cutV vs lo hi) (cutD ds lo hi) := by
  unfold cutV cutD
  rw [r.len]
  exact (r.drop' _).take' _
theorem cut_int (ns : List Int) (lo hi : Option Int) : cutV (ns.map V.int) lo hi = (cutD ns lo hi).map V.int := by
  unfold cutV cutD
  rw [List.length_map, List.map_take, List.map_drop]
def rSlD : D → Option Int → Option Int → Md → VD → Prop := fun x lo hi M Q => match x with
  | .str z => z.length ≤ sizeLine ∧ Q (.str (cutS z lo hi)) M
  | .tup xs => Q (.tup (cutD xs lo hi)) M
  | .scr ns => Q (.lst ((cutD ns lo hi).map .int)) M
  | x => ∃ xs, seqL M x = some xs ∧ Q (.lst (cutD xs lo hi)) M
abbrev rSlH (K : PySem.W.Frag) : V → Option Int → Option Int → Hp → VK → Prop := fun x lo hi H Q => rSlL K x lo hi H Q ∨ (fun x lo hi H Q => rSlA K x lo hi H Q ∨ rSlS x lo hi H Q) x lo hi H Q
theorem sl_all : SlR X (rSlH X.K) := sl_list.or (sl_tupA.or sl_str)
theorem ok_sl {x : V} {lo hi : Option Int} {Qd : VD} {Q : VK} (l : Rl K F H M) (rx : Rp K F x d) (k : Kv K F Qd Q) (q : rSlD d lo hi M Qd) : rSlH K x lo hi H Q := by
  have cell : ∀ {xs : List D}, seqL M d = some xs → Qd (.lst (cutD xs lo hi)) M → rSlH K x lo hi H Q := fun {xs} h q => by
    obtain ⟨a, vs, e, p, r⟩ := seqL_ok l rx h
    refine .inl ⟨a, vs, e, .inl (.inl p), fun p hp => ?_⟩
    obtain ⟨l2, g2⟩ := l.keep hp (.lst (cutV vs lo hi))
    exact k.go g2 l2 (.lst upd_same ((cut_rel r lo hi).mono g2)) q
  cases rx with
  | str z => exact .inr (.inr ⟨z, rfl, q.1, k.go (.rfl' F) l (.str _) q.2⟩)
  | tup p r =>
    rename_i a vs ds
    have q : Qd (.tup (cutD ds lo hi)) M := q
    refine .inr (.inl ⟨a, vs, rfl, l.sub.sqt p, fun z => ?_, fun _ p hp => ?_⟩)
    · have e : cutD ds lo hi = ds := by
        unfold cutD
        rw [r.len] at z
        rw [z.1, z.2, List.drop_zero, Nat.sub_zero, List.take_length]
      rw [e] at q
      exact k.go (.rfl' F) l (.tup p r) q
    · obtain ⟨l2, g2⟩ := l.keep hp (.tup (cutV vs lo hi))
      exact k.go g2 l2 (.tup (.inl (.inl upd_same)) ((cut_rel r lo hi).mono g2)) q
  | scr p =>
    rename_i a ns
    refine .inl ⟨a, ns.map V.int, rfl, l.sub.sql p, fun p hp => ?_⟩
    obtain ⟨l2, g2⟩ := l.keep hp (.lst (cutV (ns.map V.int) lo hi))
    exact k.go g2 l2 (.lst upd_same (by rw [cut_int]; exact Rps.ints _)) q
  | lst p r =>
    obtain ⟨xs, h, q⟩ := q
    exact cell h q
  | ref a =>
    obtain ⟨xs, h, q⟩ := q
    exact cell h q
  | _ =>
    obtain ⟨xs, h, q⟩ := q
    cases h
def tSlc (te : TEd) (tl th : TOd) : TEd := fun Xd δ M Q => te Xd δ M fun x M1 => tl Xd δ M1 fun lo M2 => th Xd δ M2 fun hi M3 => rSlD x lo hi M3 Q
theorem psl {e : Expr} {lo hi : Option Expr} {te : TEd} {tl th : TOd} {pos p2 : Pos} (he : PEd X W e te) (hl : POd X W lo tl) (hh : POd X W hi th) : PEd X W (.Subscript e (.Slice lo hi none p2) pos) (tSlc te tl th) := pe_imp (pe_slice sl_all he hl hh) fun σ H Q ⟨F, δ, M, Qd, Xd, l, s, k, kx, q⟩ =>
  low_then l s kx q ⟨fun {d1 M1 v1 G1 H1} g1 l1 r1 q1 => ⟨G1, δ, M1, _, Xd, l1, s.mono g1, ⟨fun {o2 M2 G2 H2} g2 l2 q2 => ⟨G2, δ, M2, _, Xd, l2, s.mono (g1.then' g2), ⟨fun {o3 M3 G3 H3} g3 l3 q3 => ok_sl l3 (r1.mono (g2.then' g3)) (k.mono ((g1.then' g2).then' g3)) q3⟩, kx.mono (g1.then' g2), q2⟩⟩, kx.mono g1, q1⟩⟩
/-! ### truth -/
def truD (d : D) (M : Md) (Q : Bool → Md → Prop) : Prop := match d with
  | .non => Q false M
  | .bl b => Q b M
  | .int i => Q (i != 0) M
  | .str y => y.length ≤ sizeLine ∧ Q ((y.length : Int) != 0) M
  | d => optP (seqA M d) fun xs => Q (!xs.isEmpty) M
def tTr (t : TEd) : TTd := fun Xd δ M Q => t Xd δ M fun d M1 => truD d M1 Q
theorem empty_rel {vs : List V} {ds : List D} (r : Rps K F vs ds) : ds.isEmpty = vs.isEmpty := by
  cases r <;> rfl
theorem truV_seq {x : V} (l : Rl K F H M) (rx : Rp K F x d) {xs : List D} (h : seqA M d = some xs) : TruV K x H (!xs.isEmpty) := by
  obtain ⟨a, vs, rfl, p, r⟩ := seqA_ok l rx h
  rw [empty_rel r]
  rcases p with p | p
  · exact .inl ⟨vs, .inl (.inl p), rfl⟩
  · exact .inr (.inl ⟨vs, p, rfl⟩)
theorem tru_out {d : D} {M : Md} {Q : Bool → Md → Prop} (h : truD d M Q) : (d = .non ∧ Q false M) ∨ (∃ b, d = .bl b ∧ Q b M) ∨ (∃ i, d = .int i ∧ Q (i != 0) M) ∨ (∃ y, d = .str y ∧ y.length ≤ sizeLine ∧ Q ((y.length : Int) != 0) M) ∨ ∃ xs, seqA M d = some xs ∧ Q (!xs.isEmpty) M := by
  cases d with
  | non => exact .inl ⟨rfl, h⟩
  | bl b => exact .inr (.inl ⟨b, rfl, h⟩)
  | int i => exact .inr (.inr (.inl ⟨i, rfl, h⟩))
  | str y => exact .inr (.inr (.inr (.inl ⟨y, rfl, h⟩)))
  | _ =>
    simp only [truD] at h
    exact .inr (.inr (.inr (.inr (optP_out h))))
theorem pttru {a : Expr} {ta : TEd} (h : PEd X W a ta) (he : ∀ whole, isTrue a X.env whole = (do let v ← whole; standAt a.pos; holding [v] (truthy v)) := by intro; rfl) : PTd X W a (tTr ta) := pt_imp (pt_truth h he) fun σ H Q ⟨F, δ, M, Qd, Xd, l, s, k, kx, q⟩ =>
  low_then l s kx q ⟨fun {d1 M1 v1 G1 H1} g1 l1 r1 q1 => by
    rcases tru_out q1 with ⟨rfl, q⟩ | ⟨b, rfl, q⟩ | ⟨i, rfl, q⟩ | ⟨y, rfl, h1, q⟩ | ⟨xs, h, q⟩
    · cases r1
      exact ⟨false, rfl, k.go g1 l1 q⟩
    · cases r1
      exact ⟨b, rfl, k.go g1 l1 q⟩
    · cases r1
      exact ⟨_, rfl, k.go g1 l1 q⟩
    · cases r1
      exact ⟨_, ⟨h1, rfl⟩, k.go g1 l1 q⟩
    · exact ⟨_, truV_seq l1 r1 h, k.go g1 l1 q⟩⟩
/-- a value that is True or False, as a test -/
theorem ptv {a : Expr} {ta : TEd} (h : PEd X W a ta) (he : ∀ whole, isTrue a X.env whole = (do let v ← whole; standAt a.pos; holding [v] (truthy v)) := by intro; rfl) : PTd X W a (tTr ta) := pttru h he

/-! ### what is walked -/
/-- a value is walked -/
structure ItR (X : Cx) (tg : Expr) (r : V → Hp → (It → Hp → Prop) → Prop) : Prop where
  go : ∀ {pins : List (Addr × Obj)} {s : Shared} {σ : L2.St} {H : Hp} {R : It → Hp → Prop} {x : V} {v : Value}, L2.Inv X pins σ H s → RelV x v → r x H R → wpAny (model X.prog X.w) X.A (pyIter v) (PIE X pins σ tg R) X.xe s
theorem pi_of {tg e : Expr} {te : TE} {r : V → Hp → (It → Hp → Prop) → Prop} (he : PE X e te) (hr : ItR X tg r) : PI X tg e (fun σ H R => te σ H fun x H1 => r x H1 R) :=
  ⟨fun pins s σ H R I h => thn (he.run pins s σ H _ I h) fun v s1 ⟨x, H1, I1, r1, q1⟩ => hr.go I1 r1 q1⟩
theorem ItR.or' {tg : Expr} {r r' : V → Hp → (It → Hp → Prop) → Prop} (h : ItR X tg r) (h' : ItR X tg r') : ItR X tg (fun x H R => r x H R ∨ r' x H R) := ⟨fun I rv q => q.elim (h.go I rv) (h'.go I rv)⟩
theorem new_fp {pins : List (Addr × Obj)} {s : Shared} {σ : L2.St} {H : Hp} (I : L2.Inv X pins σ H s) : ∀ b ∈ [s.heap.objs.size], FpOk X pins H b := fun b hb => by
  have z := List.mem_singleton.mp hb
  subst z
  exact I.fpOk (Nat.le_refl _) (I.hok.fresh (Nat.le_refl _))
theorem it_list {tg : Expr} : ItR X tg (fun x H R => ∃ a xs, x = .ref a ∧ SqL X.K H a xs ∧ R (Itl X.K a) H) := ⟨fun {pins s σ H R x v} I rv ⟨a, xs, ex, hq, q⟩ => by
  subst ex
  cases rv
  obtain ⟨its, r, p, hz⟩ := I.list hq
  exact wpAny_pyIter_list p.isList ⟨_, [s.heap.objs.size], _, _, H, rfl, I.kept (t' := s.toks) fun b o e => Heap.get?_push_of_some _ e, turn_list a _, ⟨_, Heap.get?_push_size _ rfl, rfl, rfl⟩, new_fp I, q⟩⟩
theorem it_tup {tg : Expr} : ItR X tg (fun x H R => ∃ a xs, x = .ref a ∧ SqT X.K H a xs ∧ R (Itt X.K a) H) := ⟨fun {pins s σ H R x v} I rv ⟨a, xs, ex, hq, q⟩ => by
  subst ex
  cases rv
  obtain ⟨its, r, p, hz⟩ := I.tuple hq
  exact wpAny_pyIter_tuple (show s.heap.IsTuple a its.toArray from p) ⟨_, [s.heap.objs.size], _, _, H, rfl, I.kept (t' := s.toks) fun b o e => Heap.get?_push_of_some _ e, turn_tuple a _, ⟨_, Heap.get?_push_size _ rfl, rfl, rfl⟩, new_fp I, q⟩⟩
theorem it_rng {tg : Expr} : ItR X tg (fun x H R => ∃ a lo hi, x = .ref a ∧ H a = some (.rng lo hi) ∧ (-(2 ^ 62) ≤ lo ∧ lo < 2 ^ 62 ∧ -(2 ^ 62) ≤ hi ∧ hi < 2 ^ 62) ∧ R (Itr lo (hi - lo).toNat) H) := ⟨fun {pins s σ H R x v} I rv ⟨a, lo, hi, ex, hq, hb, q⟩ => by
  subst ex
  cases rv
  obtain ⟨t, u, w, he⟩ := I.hok a _ hq
  refine wpAny_pyIter_range (a := lo) (b := hi) (c := 1) (t := t) (u := u) (v := w) he (small_one hb.1 hb.2.1 hb.2.2.1 hb.2.2.2) ⟨_, [s.heap.objs.size], _, _, H, rfl, I.kept (t' := s.toks) fun b o e => Heap.get?_push_of_some _ e, turn_range _ lo (hi - lo).toNat, ?_, new_fp I, q⟩
  have e1 : lo + ((0 : Nat) : Int) * 1 = lo := by simp
  have e2 : (((hi - lo).toNat : Nat) : Int) - ((0 : Nat) : Int) = Builtin.Range.rangeSize lo hi 1 := by
    rw [rangeSize_one]
    split <;> omega
  show IsRangeIter _ _ (lo + ((0 : Nat) : Int) * 1) ((((hi - lo).toNat : Nat) : Int) - ((0 : Nat) : Int)) 1
  rw [e1, e2]
  exact Heap.get?_push_size _ rfl⟩
def rIt (K : PySem.W.Frag) : V → Hp → (It → Hp → Prop) → Prop := fun x H R => (∃ a xs, x = .ref a ∧ SqL K H a xs ∧ R (Itl K a) H) ∨ (fun x H R => (∃ a xs, x = .ref a ∧ SqT K H a xs ∧ R (Itt K a) H) ∨ (∃ a lo hi, x = .ref a ∧ H a = some (.rng lo hi) ∧ (-(2 ^ 62) ≤ lo ∧ lo < 2 ^ 62 ∧ -(2 ^ 62) ≤ hi ∧ hi < 2 ^ 62) ∧ R (Itr lo (hi - lo).toNat) H)) x H R
theorem it_all {tg : Expr} : ItR X tg (rIt X.K) := it_list.or' (it_tup.or' it_rng)
/-- what a datum gives, one behind another -/
def itemsD (d : D) (M : Md) (R : Src → Md → Prop) : Prop := match d with
  | .rng lo hi => (-(2 ^ 62) ≤ lo ∧ lo < 2 ^ 62 ∧ -(2 ^ 62) ≤ hi ∧ hi < 2 ^ 62) ∧ R ⟨(List.range (hi - lo).toNat).map fun i => .int (lo + (i : Nat)), fun _ => True⟩ M
  | d => optP (seqA M d) fun xs => R ⟨xs, fun N => seqA N d = some xs⟩ M
theorem feed_list {a : Addr} {xs : List D} {ok : Md → Prop} (hv : ∀ {G H : Hp} {M : Md}, Le F G → Rl K G H M → ok M → ∃ vs, H a = some (.lst vs) ∧ Rps K G vs xs) : Feeds K F ⟨xs, ok⟩ (Itl K a) where
  go := fun {i G H M} g l h hi => by
    obtain ⟨vs, p, r⟩ := hv g l h
    obtain ⟨v, e, _⟩ := r.at' (List.getElem?_eq_getElem hi)
    exact ⟨vs, v, .inl (.inl p), e⟩
  stop := fun {i G H M} g l h hi => by
    obtain ⟨vs, p, r⟩ := hv g l h
    exact ⟨vs, .inl (.inl p), by rw [r.len]; exact hi⟩
  yld := fun {i G H H' M x d'} g l h e hy => by
    obtain ⟨rfl, hx⟩ := hy
    obtain ⟨vs, p, r⟩ := hv g l h
    obtain ⟨v, e1, r1⟩ := r.at' e
    have e2 := hx vs (.inl (.inl p))
    rw [e1] at e2
    cases e2
    exact ⟨G, .rfl' G, l, r1⟩
theorem feed_tup {a : Addr} {xs : List D} {ok : Md → Prop} (hv : ∀ {G H : Hp} {M : Md}, Le F G → Rl K G H M → ok M → ∃ vs, SqT K H a vs ∧ Rps K G vs xs) : Feeds K F ⟨xs, ok⟩ (Itt K a) where
  go := fun {i G H M} g l h hi => by
    obtain ⟨vs, p, r⟩ := hv g l h
    obtain ⟨v, e, _⟩ := r.at' (List.getElem?_eq_getElem hi)
    exact ⟨vs, v, p, e⟩
  stop := fun {i G H M} g l h hi => by
    obtain ⟨vs, p, r⟩ := hv g l h
    exact ⟨vs, p, by rw [r.len]; exact hi⟩
  yld := fun {i G H H' M x d'} g l h e hy => by
    obtain ⟨rfl, hx⟩ := hy
    obtain ⟨vs, p, r⟩ := hv g l h
    obtain ⟨v, e1, r1⟩ := r.at' e
    have e2 := hx vs p
    rw [e1] at e2
    cases e2
    exact ⟨G, .rfl' G, l, r1⟩
theorem feed_rng {lo : Int} {n : Nat} {ok : Md → Prop} : Feeds K F ⟨(List.range n).map fun i => .int (lo + (i : Nat)), ok⟩ (Itr lo n) where
  go := fun {i G H M} g l h hi => by
    simp only [List.length_map, List.length_range] at hi
    exact hi
  stop := fun {i G H M} g l h hi => by
    simp only [List.length_map, List.length_range] at hi
    exact hi
  yld := fun {i G H H' M x d'} g l h e hy => by
    obtain ⟨rfl, hx⟩ := hy
    simp only [List.getElem?_map, List.getElem?_range'] at e
    cases q : (List.range n)[i]? with
    | none =>
      rw [q] at e
      cases e
    | some j =>
      rw [q] at e
      cases e
      have z : j = i := by
        have hi := (List.getElem?_eq_some_iff.mp q)
        obtain ⟨h1, h2⟩ := hi
        rw [List.getElem_range] at h2
        exact h2.symm
      subst z
      subst hx
      exact ⟨G, .rfl' G, l, .int _⟩
theorem items_out {d : D} {M : Md} {R : Src → Md → Prop} (h : itemsD d M R) : (∃ lo hi, d = .rng lo hi ∧ (-(2 ^ 62) ≤ lo ∧ lo < 2 ^ 62 ∧ -(2 ^ 62) ≤ hi ∧ hi < 2 ^ 62) ∧ R ⟨(List.range (hi - lo).toNat).map fun i => .int (lo + (i : Nat)), fun _ => True⟩ M) ∨
    ∃ xs, seqA M d = some xs ∧ R ⟨xs, fun N => seqA N d = some xs⟩ M := by
  cases d with
  | rng lo hi => exact .inl ⟨lo, hi, rfl, h⟩
  | _ =>
    simp only [itemsD] at h
    exact .inr (optP_out h)
/-- for .. in a value -/
def tIS (t : TEd) : TId := fun Xd δ M R => t Xd δ M fun d M1 => itemsD d M1 R
theorem low_IS {te : TEd} {σ : L2.St} {R : It → Hp → Prop} (h : lowI K W (tIS te) σ H R) : low K W te σ H fun x H1 => rIt K x H1 R := by
  obtain ⟨F, δ, M, Rd, Xd, l, s, kx, k, q⟩ := h
  refine low_then l s kx q ⟨fun {d1 M1 v1 G1 H1} g1 l1 r1 q1 => ?_⟩
  rcases items_out q1 with ⟨lo, hi, rfl, hb, q⟩ | ⟨xs, h, q⟩
  · cases r1 with
    | rng p => exact .inr (.inr ⟨_, lo, hi, rfl, l1.sub.of p, hb, k g1 l1 feed_rng q⟩)
  · cases d1 with
    | tup ys =>
      cases h
      cases r1 with
      | tup p r => exact .inr (.inl ⟨_, _, rfl, l1.sub.sqt p, k g1 l1 (feed_tup fun {G H M} g l _ => ⟨_, l.sub.sqt (g.sqt p), r.mono g⟩) q⟩)
    | lst ys =>
      cases h
      cases r1 with
      | lst p r => exact .inl ⟨_, _, rfl, .inl (.inl (l1.sub.of p)), k g1 l1 (feed_list fun {G H M} g l _ => ⟨_, l.sub.of (g.of p), r.mono g⟩) q⟩
    | ref a =>
      obtain ⟨b, vs, e, p, r⟩ := seqL_ok l1 r1 (xs := xs) h
      cases r1
      cases e
      refine .inl ⟨a, vs, rfl, .inl (.inl p), k g1 l1 (feed_list fun {G H M} g l h => ?_) q⟩
      obtain ⟨b, ws, e, p2, r2⟩ := seqL_ok l (.ref a) h
      cases e
      exact ⟨ws, p2, r2⟩
    | _ => cases h
theorem pis {tg e : Expr} {te : TEd} (h : PEd X W e te) : PId X W tg e (tIS te) := pi_imp (pi_of h it_all) fun _ _ _ q => low_IS q
/-- range(..), just made -/
def tIR1 (t : TAd) : TId := fun Xd δ M R => t Xd δ M fun ds M1 => match ds with
  | [.int j] => (-(2 ^ 62) ≤ j ∧ j < 2 ^ 62) ∧ R ⟨(List.range j.toNat).map fun i => .int ((i : Nat) : Int), fun _ => True⟩ M1
  | _ => False
def tIR2 (t : TAd) : TId := fun Xd δ M R => t Xd δ M fun ds M1 => match ds with
  | [.int i, .int j] => (-(2 ^ 62) ≤ i ∧ i < 2 ^ 62 ∧ -(2 ^ 62) ≤ j ∧ j < 2 ^ 62) ∧ R ⟨(List.range (j - i).toNat).map fun n => .int (i + (n : Nat)), fun _ => True⟩ M1
  | _ => False
theorem pir1 {tg a : Expr} {ta : TAd} {p pos : Pos} (hg : Gl X "range") (hm : X.mg "range" = none) (ha : PAd X W [a] ta) (hs : starEach [a] X.env = [(false, eval a X.env)] := by rfl) : PId X W tg (.Call (.Name "range" p) [a] [] pos) (tIR1 ta) := pi_imp (pi_range1 hg hm ha hs) fun σ H R ⟨F, δ, M, Rd, Xd, l, s, kx, k, q⟩ =>
  lowA_then l s kx q ⟨fun {ds M1 vs G1 H1} g1 l1 r1 q1 => by
    match ds, r1, q1 with
    | [.int j], .cons r .nil, ⟨hb, q⟩ =>
      cases r
      refine ⟨j, rfl, hb.1, hb.2, k g1 l1 ?_ q⟩
      have f := feed_rng (K := X.K) (F := G1) (lo := 0) (n := j.toNat) (ok := fun _ => True)
      simp only [Int.zero_add] at f
      exact f⟩
theorem pir2 {tg a b : Expr} {ta : TAd} {p pos : Pos} (hg : Gl X "range") (hm : X.mg "range" = none) (ha : PAd X W [a, b] ta) (hs : starEach [a, b] X.env = [(false, eval a X.env), (false, eval b X.env)] := by rfl) (hs2 : starEach [b] X.env = [(false, eval b X.env)] := by rfl) :
    PId X W tg (.Call (.Name "range" p) [a, b] [] pos) (tIR2 ta) := pi_imp (pi_range2 hg hm ha hs hs2) fun σ H R ⟨F, δ, M, Rd, Xd, l, s, kx, k, q⟩ =>
  lowA_then l s kx q ⟨fun {ds M1 vs G1 H1} g1 l1 r1 q1 => by
    match ds, r1, q1 with
    | [.int i, .int j], .cons r (.cons r' .nil), ⟨hb, q⟩ =>
      cases r
      cases r'
      exact ⟨i, j, rfl, hb, k g1 l1 feed_rng q⟩⟩
/-! ### comprehensions -/
/-- where the items of a comprehension go: one name, or a tuple of names -/
inductive Tg where
  | one (i : Nat) | many (is : List Nat)
def setsD : List Nat → List D → SD → Option SD
  | [], [], δ => some δ
  | i :: is, d :: ds, δ => setsD is ds (δ.set i (some d))
  | _, _, _ => none
def Tg.put (t : Tg) (d : D) (δ : SD) : Option SD := match t with
  | .one i => some (δ.set i (some d))
  | .many is => match d with
    | .tup ds => setsD is ds δ
    | _ => none
def gNames : List Nat → TGs
  | [] => gNil
  | i :: is => gCons (gName i) (gNames is)
def Tg.g (K : PySem.W.Frag) : Tg → TG
  | .one i => gName i
  | .many is => gTup K is.length (gNames is)
def Tg.ix : Tg → List Nat
  | .one i => [i]
  | .many is => is
def wipeD (δ : SD) : List Nat → SD
  | [] => δ
  | v :: vs => (wipeD δ vs).set v none
theorem wipe_rel {σ : L2.St} {δ : SD} (s : Sls K F σ δ) : ∀ vs : List Nat, Sls K F (wipe σ vs) (wipeD δ vs)
  | [] => s
  | v :: vs => Sls.set' (x := none) (y := none) trivial v (wipe_rel s vs)
theorem wipe_put (σ : L2.St) (i : Nat) (x : Option V) : ∀ vs : List Nat, wipe (σ.set i x) vs = if i ∈ vs then wipe σ vs else (wipe σ vs).set i x
  | [] => by
    rw [if_neg (by simp)]
    rfl
  | v :: vs => by
    show (wipe (σ.set i x) vs).set v none = _
    rw [wipe_put σ i x vs]
    by_cases e : i = v
    · subst e
      rw [if_pos (List.mem_cons_self ..)]
      by_cases h : i ∈ vs
      · rw [if_pos h]
        rfl
      · rw [if_neg h, List.set_set]
        rfl
    · by_cases h : i ∈ vs
      · rw [if_pos h, if_pos (List.mem_cons_of_mem _ h)]
        rfl
      · rw [if_neg h, if_neg (by simp [e, h]), List.set_comm _ _ e]
        rfl
theorem wipe_same {σ : L2.St} {i : Nat} {x : Option V} {vs : List Nat} (h : i ∈ vs) : wipe (σ.set i x) vs = wipe σ vs := by rw [wipe_put, if_pos h]
theorem wipe_get (σ : L2.St) (i : Nat) : ∀ vs : List Nat, (wipe σ vs)[i]? = if i ∈ vs then σ[i]?.map (fun _ => none) else σ[i]?
  | [] => by
    rw [if_neg (by simp)]
    rfl
  | v :: vs => by
    show ((wipe σ vs).set v none)[i]? = _
    rw [List.getElem?_set]
    by_cases e : v = i
    · subst e
      rw [if_pos rfl, if_pos (List.mem_cons_self ..), wipe_length]
      by_cases h : v < σ.length
      · rw [if_pos h, List.getElem?_eq_getElem h]
        rfl
      · rw [if_neg h, List.getElem?_eq_none (by omega)]
        rfl
    · rw [if_neg e, wipe_get σ i vs]
      have z : i ∈ v :: vs ↔ i ∈ vs := by simp [Ne.symm e]
      by_cases h : i ∈ vs
      · rw [if_pos h, if_pos (z.mpr h)]
      · rw [if_neg h, if_neg (fun q => h (z.mp q))]
theorem wipe_idem (σ : L2.St) (vs : List Nat) : wipe (wipe σ vs) vs = wipe σ vs := by
  apply List.ext_getElem?
  intro i
  rw [wipe_get, wipe_get]
  split
  · cases σ[i]? <;> rfl
  · rfl
theorem names_run {vs : List Nat} : ∀ {is : List Nat} {ds : List D} {ws : List V} {σ : L2.St} {δ δ' : SD} {Q : L2.St → Hp → Prop}, (∀ i ∈ is, i ∈ vs) → Rps K F ws ds → Sls K F σ δ → setsD is ds δ = some δ' →
    (∀ σ', Sls K F σ' δ' → wipe σ' vs = wipe σ vs → Q σ' H) → gNames is ws σ H Q
  | [], [], _, σ, δ, δ', Q, _, .nil, s, e, k => by
    cases e
    exact ⟨rfl, k σ s rfl⟩
  | i :: is, d :: ds, w :: ws, σ, δ, δ', Q, hm, .cons r t, s, e, k => ⟨w, ws, rfl, names_run (is := is) (fun j hj => hm j (List.mem_cons_of_mem _ hj)) t (s.put' r i) e fun σ' s' z => k σ' s' (z.trans (wipe_same (hm i (List.mem_cons_self ..))))⟩
  | [], _ :: _, _, _, _, _, _, _, _, _, e, _ => by cases e
  | _ :: _, [], _, _, _, _, _, _, _, _, e, _ => by cases e
theorem Tg.run {t : Tg} {vs : List Nat} {v : V} {d : D} {σ : L2.St} {δ δ' : SD} {Q : L2.St → Hp → Prop} (l : Rl K F H M) (hm : ∀ i ∈ t.ix, i ∈ vs) (r : Rp K F v d) (s : Sls K F σ δ) (e : t.put d δ = some δ')
    (k : ∀ σ', Sls K F σ' δ' → wipe σ' vs = wipe σ vs → Q σ' H) : t.g K v σ H Q := by
  cases t with
  | one i =>
    cases e
    exact k _ (s.put' r i) (wipe_same (hm i (List.mem_cons_self ..)))
  | many is =>
    cases r with
    | tup p q =>
      refine ⟨_, _, rfl, l.sub.sqt p, ?_, names_run (is := is) hm q s e k⟩
      rw [q.len]
      clear k p q l s hm
      have len : ∀ (is : List Nat) (ds : List D) (δ δ' : SD), setsD is ds δ = some δ' → ds.length = is.length := by
        intro is
        induction is with
        | nil =>
          intro ds δ δ' e
          cases ds with
          | nil => rfl
          | cons _ _ => cases e
        | cons i is ih =>
          intro ds δ δ' e
          cases ds with
          | nil => cases e
          | cons d ds => exact congrArg Nat.succ (ih ds _ _ e)
      exact len is _ δ δ' e
    | _ => cases e
/-- the list at p grows -/
def lcGo (t : Tg) (tt : TTd) (te : TEd) (ok : Md → Prop) (δ : SD) (p : Addr) (Q : Md → Prop) : List D → Md → Prop
  | [], M => ok M ∧ (∃ acc, M p = some (.lst acc)) ∧ Q M
  | d :: ds, M => ok M ∧ ∃ δ', t.put d δ = some δ' ∧ tt X0 δ' M fun b M1 => if b = true then te X0 δ' M1 fun y M2 => ∃ acc, M2 p = some (.lst acc) ∧ acc.length < sizeLine ∧ lcGo t tt te ok δ p Q ds (put M2 p (.lst (acc ++ [y]))) else lcGo t tt te ok δ p Q ds M1
/-- a list that does not change from then on -/
def tLcF (t : Tg) (ti : TId) (tt : TTd) (te : TEd) (vs : List Nat) : TEd := fun Xd δ M Q => ti Xd δ M fun S M1 => ∀ p, M1 p = none → lcGo t tt te S.ok (wipeD δ vs) p (fun N => ∃ acc, N p = some (.lst acc) ∧ Q (.lst acc) (cut N p)) S.items (put M1 p (.lst []))
/-- a list that is a cell -/
def tLcM (t : Tg) (ti : TId) (tt : TTd) (te : TEd) (vs : List Nat) : TEd := fun Xd δ M Q => ti Xd δ M fun S M1 => ∀ p, M1 p = none → lcGo t tt te S.ok (wipeD δ vs) p (fun N => Q (.ref p) N) S.items (put M1 p (.lst []))
def W0 : WX := fun _ _ _ _ => False
theorem low_lc {t : Tg} {ti : TId} {tt : TTd} {te : TEd} {vs : List Nat} {σ : L2.St} {Q : VK} (hm : ∀ i ∈ t.ix, i ∈ vs) {Qe : Addr → VD → Md → Prop}
    (hQ : ∀ {F H : Hp} {M : Md} {p : Addr} {Qd : VD} {acc : List D}, Rl K F H M → M p = some (.lst acc) → Kv K F Qd Q → Qe p Qd M → Q (.ref p) H)
    (h : ∃ F δ M Qd Xd, Rl K F H M ∧ Sls K F σ δ ∧ Kv K F Qd Q ∧ Kx K F Xd (WE W σ) ∧ ti Xd δ M fun S M1 => ∀ p, M1 p = none → lcGo t tt te S.ok (wipeD δ vs) p (Qe p Qd) S.items (put M1 p (.lst []))) :
    tLc (lowI K W ti) (t.g K) (lowT K W0 tt) (low K W0 te) vs σ H Q := by
  obtain ⟨F, δ, M, Qd, Xd, l, s, k, kx, h⟩ := h
  refine ⟨F, δ, M, _, Xd, l, s, kx, fun {S J M1 G H1} g l1 fd h1 => fun p hp => ?_, h⟩
  obtain ⟨n1, n2⟩ := l1.free hp
  refine ⟨fun i m H => ∃ G1 M, Le G G1 ∧ Rl K G1 H M ∧ i + m = S.items.length ∧ lcGo t tt te S.ok (wipeD δ vs) p (Qe p Qd) (S.items.drop i) M,
    ⟨S.items.length, G, _, .rfl' G, l1.cellput (u := .lst []) (c := .lst []) n1 ⟨[], upd_same, .nil⟩, Nat.zero_add _, h1 p n2⟩, ?_⟩
  rintro i m H2 ⟨G1, M2, g1, l2, him, w⟩
  by_cases hi : i < S.items.length
  · right
    rw [List.drop_eq_getElem_cons hi] at w
    obtain ⟨w1, δ', ep, w2⟩ := w
    refine ⟨fd.go g1 l2 w1 hi, fun H' => ∃ G' M', Le G G' ∧ Rl K G' H' M' ∧ lcGo t tt te S.ok (wipeD δ vs) p (Qe p Qd) (S.items.drop (i + 1)) M', ?_, ?_⟩
    · rintro H' ⟨G', M', e1, e2, h⟩
      exact ⟨m - 1, by omega, G', M', e1, e2, by omega, h⟩
    · intro x H' hy
      obtain ⟨G3, g3, l3, r3⟩ := fd.yld g1 l2 w1 (List.getElem?_eq_getElem hi) hy
      have s3 : Sls K G3 (wipe σ vs) (wipeD δ vs) := wipe_rel (s.mono ((g.then' g1).then' g3)) vs
      refine Tg.run l3 hm r3 s3 ep fun σ2 s2 z => ⟨?_, lowT_then l3 s2 kx0 w2 ⟨fun {b M4 G4 H4} g4 l4 h4 => ?_⟩⟩
      · rw [z, wipe_idem]
      have gg := g1.then' (g3.then' g4)
      cases b with
      | false => exact ⟨G4, M4, gg.then' (.rfl' _) |> (fun e => g1.then' (g3.then' g4)), l4, h4⟩
      | true =>
        refine low_then l4 (s2.mono g4) kx0 h4 ⟨fun {y M5 v5 G5 H5} g5 l5 r5 ⟨acc, ha, hz, h5⟩ => ?_⟩
        obtain ⟨ws, hf, hh, rr⟩ := pe_cell l5 ha
        refine ⟨ws, hh, by rw [rr.len]; exact hz, G5, _, gg.then' g5, l5.cellput (u := .lst (ws ++ [v5])) (c := .lst (acc ++ [y])) hf ⟨_, upd_same, rr.app (.one r5)⟩, h5⟩
  · left
    rw [List.drop_eq_nil_of_le (by omega)] at w
    obtain ⟨w1, ⟨acc, ha⟩, w2⟩ := w
    exact ⟨fd.stop g1 l2 w1 (by omega), hQ l2 ha (k.mono (g.then' g1)) w2⟩
theorem low_lcF {t : Tg} {ti : TId} {tt : TTd} {te : TEd} {vs : List Nat} {σ : L2.St} {Q : VK} (hm : ∀ i ∈ t.ix, i ∈ vs) (h : low K W (tLcF t ti tt te vs) σ H Q) : tLc (lowI K W ti) (t.g K) (lowT K W0 tt) (low K W0 te) vs σ H Q :=
  low_lc hm (Qe := fun p Q N => ∃ acc, N p = some (.lst acc) ∧ Q (.lst acc) (cut N p)) (fun {F H M p Qd acc} l ha k ⟨acc', hb, q⟩ => by
    obtain ⟨vs, hf, hh, r⟩ := pe_cell l hb
    obtain ⟨l2, g2⟩ := l.froze hh hf
    exact k.go g2 l2 (.lst upd_same (r.mono g2)) q) h
theorem low_lcM {t : Tg} {ti : TId} {tt : TTd} {te : TEd} {vs : List Nat} {σ : L2.St} {Q : VK} (hm : ∀ i ∈ t.ix, i ∈ vs) (h : low K W (tLcM t ti tt te vs) σ H Q) : tLc (lowI K W ti) (t.g K) (lowT K W0 tt) (low K W0 te) vs σ H Q :=
  low_lc hm (Qe := fun p Q N => Q (.ref p) N) (fun {F H M p Qd acc} l ha k q => k.go (.rfl' F) l (.ref p) q) h
def tYs : TTd := fun _ _ M Q => Q true M
theorem pts0 {X : Cx} : PTs X [] (lowT X.K W0 tYs) := ⟨fun pins s σ H Q I h => by
  obtain ⟨F, δ, M, Qd, Xd, l, s1, k, kx, q⟩ := h
  exact pts_nil.run pins s σ H Q I (k.go (.rfl' F) l q)⟩
theorem pts1 {X : Cx} {c : Expr} {tt : TTd} (h : PTd X W0 c tt) : PTs X [c] (lowT X.K W0 tt) := pts_one h
theorem Cd.blk {n : Nat} (c : Cd X W n) {s : Shared} {H : Hp} {scope : Scope} {env : Env} {fp : List Addr} : Cd (X.blk s H scope env fp) W0 n := ⟨c.nd, c.calm, fun _ _ ⟨_, _, _, _, _, _, _, _, _, _, _, _, _, _, _, _, w⟩ => w.elim, PassesOwn.never, c.rm, c.gd⟩
section
variable {elt tg iter : Expr} {ifs : List Expr} {scope : Scope} {own : List (Str × Nat)} {pos : Pos} {t : Tg} {ti : TId} {tt : TTd} {te : TEd} {n : Nat}
/-- what stands within a comprehension -/
structure LcIn (X : Cx) (scope : Scope) (own : List (Str × Nat)) (t : Tg) (tg : Expr) (ifs : List Expr) (elt : Expr) (tt : TTd) (te : TEd) (n : Nat) : Prop where
  ok : BlkOk X.N X.env.scope scope own
  ix : ∀ i ∈ t.ix, i ∈ own.map (·.2)
  g : ∀ (s : Shared) (H : Hp) (C : Addr) (cl : List (Str × Addr)) (fp : List Addr), PG (X.blk s H scope (compEnvC scope cl C X.env) fp) tg (t.g X.K)
  t : ∀ (s : Shared) (H : Hp) (C : Addr) (cl : List (Str × Addr)) (fp : List Addr), Cd (X.blk s H scope (compEnvC scope cl C X.env) fp) W0 n → PTs (X.blk s H scope (compEnvC scope cl C X.env) fp) ifs (lowT X.K W0 tt)
  e : ∀ (s : Shared) (H : Hp) (C : Addr) (cl : List (Str × Addr)) (fp : List Addr), Cd (X.blk s H scope (compEnvC scope cl C X.env) fp) W0 n → PE (X.blk s H scope (compEnvC scope cl C X.env) fp) elt (low X.K W0 te)
theorem plcF (c : Cd X W n) (hi : PId X W tg iter ti) (b : LcIn X scope own t tg ifs elt tt te n) (hs : ∀ x, foldedSetIterable iter X.env x = pure x := by intro _; rfl) :
    PEd X W (.ListComp elt [⟨tg, iter, ifs, 0⟩] scope pos) (tLcF t ti tt te (own.map (·.2))) := pe_imp (pe_lc c.calm c.nd hi b.ok b.g (fun s H C cl fp => b.t s H C cl fp c.blk) (fun s H C cl fp => b.e s H C cl fp c.blk) hs) fun _ _ _ h => low_lcF b.ix h
theorem plcM (c : Cd X W n) (hi : PId X W tg iter ti) (b : LcIn X scope own t tg ifs elt tt te n) (hs : ∀ x, foldedSetIterable iter X.env x = pure x := by intro _; rfl) :
    PEd X W (.ListComp elt [⟨tg, iter, ifs, 0⟩] scope pos) (tLcM t ti tt te (own.map (·.2))) := pe_imp (pe_lc c.calm c.nd hi b.ok b.g (fun s H C cl fp => b.t s H C cl fp c.blk) (fun s H C cl fp => b.e s H C cl fp c.blk) hs) fun _ _ _ h => low_lcM b.ix h
/-- y = [..] -/
theorem ssetLc {i : Nat} {y : Str} {py spos : Pos} (c : Cd X W n) (hy : X.N[i]? = some y) (hyl : X.env.scope.names.lookup y = some .local)
    (hsw : swapsWith (.ListComp elt [⟨tg, iter, ifs, 0⟩] scope pos) (some (.Name y py)) spos.line X.env = pure true) (hi : PId X W tg iter ti) (b : LcIn X scope own t tg ifs elt tt te n) (hs : ∀ x, foldedSetIterable iter X.env x = pure x := by intro _; rfl) :
    PSd X W (.Assign [.Name y py] (.ListComp elt [⟨tg, iter, ifs, 0⟩] scope pos) spos) (tSe (tLcF t ti tt te (own.map (·.2))) i) := ps_imp (ps_setLc c.calm c.nd hy hyl hsw hi b.ok b.g (fun s H C cl fp => b.t s H C cl fp c.blk) (fun s H C cl fp => b.e s H C cl fp c.blk) hs) fun E σ H ⟨F, δ, M, Dd, l, s, lt, q⟩ =>
  low_lcF b.ix (low_then l s (lt.xx (.rfl' F) s) q ⟨fun {d1 M1 v1 G1 H1} g1 l1 r1 q1 => lt.nx.go g1 l1 ((s.mono g1).put' r1 i) q1⟩)
theorem ssetLcM {i : Nat} {y : Str} {py spos : Pos} (c : Cd X W n) (hy : X.N[i]? = some y) (hyl : X.env.scope.names.lookup y = some .local)
    (hsw : swapsWith (.ListComp elt [⟨tg, iter, ifs, 0⟩] scope pos) (some (.Name y py)) spos.line X.env = pure true) (hi : PId X W tg iter ti) (b : LcIn X scope own t tg ifs elt tt te n) (hs : ∀ x, foldedSetIterable iter X.env x = pure x := by intro _; rfl) :
    PSd X W (.Assign [.Name y py] (.ListComp elt [⟨tg, iter, ifs, 0⟩] scope pos) spos) (tSe (tLcM t ti tt te (own.map (·.2))) i) := ps_imp (ps_setLc c.calm c.nd hy hyl hsw hi b.ok b.g (fun s H C cl fp => b.t s H C cl fp c.blk) (fun s H C cl fp => b.e s H C cl fp c.blk) hs) fun E σ H ⟨F, δ, M, Dd, l, s, lt, q⟩ =>
  low_lcM b.ix (low_then l s (lt.xx (.rfl' F) s) q ⟨fun {d1 M1 v1 G1 H1} g1 l1 r1 q1 => lt.nx.go g1 l1 ((s.mono g1).put' r1 i) q1⟩)
end
/-! ### comprehensions without draws: what they give -/
def Sub (M N : Md) : Prop := ∀ a c, M a = some c → N a = some c
theorem Sub.put {M N : Md} {p : Addr} {c : MC} (h : Sub M N) (hp : M p = none) : Sub M (put N p c) := fun a e k => by
  have z : a ≠ p := by
    intro z
    subst z
    rw [hp] at k
    cases k
  rw [put_ne z]
  exact h a e k
/-- at each turn the test gives b d and the element f d, whatever else the store holds -/
theorem lc_run {t : Tg} {tt : TTd} {te : TEd} {ok : Md → Prop} {δ : SD} {p : Addr} {Q : Md → Prop} {b : D → Bool} {f : D → D} : ∀ {ds acc : List D} {N : Md}, N p = none → acc.length + ds.length ≤ sizeLine → (∀ c, ok (put N p c)) →
    (∀ d ∈ ds, ∀ c, ∃ δ', t.put d δ = some δ' ∧ ∀ Q : Bool → Md → Prop, Q (b d) (put N p c) → tt X0 δ' (put N p c) Q) →
    (∀ d ∈ ds, b d = true → ∀ c δ', t.put d δ = some δ' → ∀ Q : VD, Q (f d) (put N p c) → te X0 δ' (put N p c) Q) →
    Q (put N p (.lst (acc ++ (ds.filter b).map f))) → lcGo t tt te ok δ p Q ds (put N p (.lst acc))
  | [], acc, N, hp, hz, ho, ht, he, q => by
    rw [List.filter_nil, List.map_nil, List.append_nil] at q
    exact ⟨ho _, ⟨acc, put_same⟩, q⟩
  | d :: ds, acc, N, hp, hz, ho, ht, he, q => by
    obtain ⟨δ', e1, e2⟩ := ht d (List.mem_cons_self ..) (.lst acc)
    have hz' : acc.length + (ds.length + 1) ≤ sizeLine := hz
    refine ⟨ho _, δ', e1, e2 _ ?_⟩
    cases hb : b d with
    | false =>
      show lcGo t tt te ok δ p Q ds (put N p (.lst acc))
      refine lc_run hp (by omega) ho (fun x hx => ht x (List.mem_cons_of_mem _ hx)) (fun x hx => he x (List.mem_cons_of_mem _ hx)) ?_
      rw [List.filter_cons, if_neg (by rw [hb]; exact Bool.false_ne_true)] at q
      exact q
    | true =>
      refine he d (List.mem_cons_self ..) hb _ δ' e1 _ ⟨acc, put_same, by omega, ?_⟩
      rw [put_put]
      refine lc_run hp (by rw [List.length_append]; show acc.length + 1 + ds.length ≤ sizeLine; omega) ho (fun x hx => ht x (List.mem_cons_of_mem _ hx)) (fun x hx => he x (List.mem_cons_of_mem _ hx)) ?_
      rw [List.filter_cons, if_pos hb, List.map_cons] at q
      rw [List.append_assoc]
      exact q
end
end DL
/-! The data layer: built-in functions. -/
namespace DL
open PySem PySem.Spec PyProof.Rows L2
variable [B : Obs]
section
variable {X : Cx} {W : WX} {K : PySem.W.Frag} {F H : Hp} {M : Md} {v : V} {d : D} {x : Str} {e a b : Expr} {es : List Expr} {pos p p2 : Pos} {tes : TAd} {te ta tb : TEd}
abbrev Rm : Type := List D → Md → VD → Prop
/-! ### len, abs, int, min, max -/
def lenD : Rm := fun ds M Q => match ds with
  | [d] => (match seqA M d with
    | some xs => Q (.int xs.length) M
    | none => match d with
      | .str y => y.length ≤ sizeLine ∧ Q (.int y.length) M
      | .scr ns => Q (.int ns.length) M
      | _ => False)
  | _ => False
theorem ok_len : OKC K (fun xs H Q => ∃ (x : V) (n : Nat), xs = [x] ∧ LenV K x H n ∧ Q (.int n) H) lenD := ⟨fun {F H M vs ds Qd Q} l rs k q => by
  unfold lenD at q
  split at q
  case h_2 => exact q.elim
  rename_i d
  cases rs with
  | cons r t =>
    cases t
    split at q
    · rename_i xs h
      obtain ⟨a, ws, rfl, p, r2⟩ := seqA_ok l r h
      refine ⟨.ref a, ws.length, rfl, ?_, by rw [r2.len]; exact k.go (.rfl' F) l (.int _) q⟩
      rcases p with p | p
      · exact .inl ⟨ws, .inl (.inl p), rfl⟩
      · exact .inr ⟨ws, p, rfl⟩
    · split at q
      · rename_i y _
        cases r with
        | str _ => exact ⟨.str y, y.length, rfl, ⟨q.1, rfl⟩, k.go (.rfl' F) l (.int _) q.2⟩
      · cases r with
        | scr h => exact ⟨_, _, rfl, .inl ⟨_, l.sub.sql h, rfl⟩, by rw [List.length_map]; exact k.go (.rfl' F) l (.int _) q⟩
      · exact q.elim⟩
def absD : Rm := fun ds M Q => match ds with
  | [.int i] => Q (.int (if i < 0 then -i else i)) M
  | _ => False
theorem ok_abs : OKC K (fun xs H Q => ∃ i, xs = [V.int i] ∧ Q (.int (if i < 0 then -i else i)) H) absD := ⟨fun {F H M vs ds Qd Q} l rs k q => by
  match ds, vs, rs, q with
  | [.int i], [_], .cons (.int _) .nil, q => exact ⟨i, rfl, k.go (.rfl' F) l (.int _) q⟩⟩
def intC : Rm := fun ds M Q => match ds with
  | [.int i] => Q (.int i) M
  | [.bl c] => Q (.int (if c then 1 else 0)) M
  | _ => False
theorem ok_int : OKC K (fun xs H Q => (∃ i, xs = [V.int i] ∧ Q (.int i) H) ∨ ∃ k, xs = [V.bl k] ∧ Q (.int (if k then 1 else 0)) H) intC := ⟨fun {F H M vs ds Qd Q} l rs k q => by
  match ds, vs, rs, q with
  | [.int i], [_], .cons (.int _) .nil, q => exact .inl ⟨i, rfl, k.go (.rfl' F) l (.int _) q⟩
  | [.bl c], [_], .cons (.bl _) .nil, q => exact .inr ⟨c, rfl, k.go (.rfl' F) l (.int _) q⟩⟩
def minD : Rm := fun ds M Q => match ds with
  | [.int i, .int j] => Q (.int (if j < i then j else i)) M
  | _ => False
theorem ok_min : OKC K (fun xs H Q => ∃ i j, xs = [V.int i, .int j] ∧ Q (.int (if j < i then j else i)) H) minD := ⟨fun {F H M vs ds Qd Q} l rs k q => by
  match ds, vs, rs, q with
  | [.int i, .int j], [_, _], .cons (.int _) (.cons (.int _) .nil), q => exact ⟨i, j, rfl, k.go (.rfl' F) l (.int _) q⟩⟩
def maxD : Rm := fun ds M Q => match ds with
  | [.int i, .int j] => Q (.int (if j > i then j else i)) M
  | _ => False
theorem ok_max : OKC K (fun xs H Q => ∃ i j, xs = [V.int i, .int j] ∧ Q (.int (if j > i then j else i)) H) maxD := ⟨fun {F H M vs ds Qd Q} l rs k q => by
  match ds, vs, rs, q with
  | [.int i, .int j], [_, _], .cons (.int _) (.cons (.int _) .nil), q => exact ⟨i, j, rfl, k.go (.rfl' F) l (.int _) q⟩⟩
def strD : Rm := fun ds M Q => match ds with
  | [.int i] => i.natAbs.log2 < 1920 ∧ Q (.str (toString i)) M
  | _ => False
theorem ok_str : OKC K (fun xs H Q => ∃ i, xs = [V.int i] ∧ i.natAbs.log2 < 1920 ∧ Q (.str (toString i)) H) strD := ⟨fun {F H M vs ds Qd Q} l rs k q => by
  match ds, vs, rs, q with
  | [.int i], [_], .cons (.int _) .nil, q => exact ⟨i, rfl, q.1, k.go (.rfl' F) l (.str _) q.2⟩⟩
/-! ### isinstance, built-in types -/
def tyN (M : Md) (d : D) : Option String := match d with
  | .non => some "NoneType"
  | .bl _ => some "bool"
  | .int _ => some "int"
  | .str _ => some "str"
  | .tup _ => some "tuple"
  | d => if (seqL M d).isSome then some "list" else none
def isB (t n : String) : Bool := t == n || (t == "bool" && n == "int")
abbrev tysL : List String := ["NoneType", "bool", "int", "str", "tuple", "list"]
theorem kitB_all : ∀ t ∈ tysL, ∀ n ∈ tysL, kitB t n = some (isB t n) := by decide +kernel
theorem tyN_mem {M : Md} {d : D} {t : String} (h : tyN M d = some t) : t ∈ tysL := by
  unfold tyN at h
  split at h <;> first
    | (cases h; decide)
    | (split at h
       · cases h
         decide
       · cases h)
theorem tyN_ok {t : String} (l : Rl K F H M) (r : Rp K F v d) (h : tyN M d = some t) : TyX K H v (.type t) := by
  have li : ∀ {d : D}, Rp K F v d → (if (seqL M d).isSome then some "list" else Option.none) = some t → TyX K H v (.type t) := fun {d} r h => by
    split at h
    · rename_i z
      cases h
      obtain ⟨xs, z⟩ := Option.isSome_iff_exists.mp z
      obtain ⟨a, vs, rfl, p, _⟩ := seqL_ok l r z
      exact .base (.lst p)
    · cases h
  cases d with
  | non =>
    cases h
    cases r
    exact .base .non
  | bl c =>
    cases h
    cases r
    exact .base (.bl c)
  | int i =>
    cases h
    cases r
    exact .base (.int i)
  | str y =>
    cases h
    cases r
    exact .base (.str y)
  | tup xs =>
    cases h
    cases r with
    | tup p q =>
      rcases l.sub.sqt p with (p | ⟨o, p⟩) | ⟨o, its, n, h1, h2, h3, h4, h5⟩
      · exact .base (.tup p)
      · exact .fTuple p
      · exact .kTuple h1 h2
  | _ => exact li r h
def isD : Rm := fun ds M Q => match ds with
  | [d, .ty n] => n ∈ tysL ∧ optP (tyN M d) fun t => Q (.bl (isB t n)) M
  | _ => False
theorem ok_is' : OKC K (rIsi K) isD := ⟨fun {F H M vs ds Qd Q} l rs k q => by
  match ds, vs, rs, q with
  | [d, .ty n], [v, _], .cons r (.cons (.ty _) .nil), ⟨hn, q⟩ =>
    obtain ⟨t, h, q⟩ := optP_out q
    exact ⟨v, .ty n, .type t, .type n, isB t n, rfl, .ty n, tyN_ok l r h, kit_ty (kitB_all t (tyN_mem h) n hn), k.go (.rfl' F) l (.bl _) q⟩⟩
/-! ### list(..), tuple(..), range(..) -/
def listF : Rm := fun ds M Q => match ds with
  | [d] => optP (seqA M d) fun xs => Q (.lst xs) M
  | _ => False
def listM : Rm := fun ds M Q => match ds with
  | [d] => optP (seqA M d) fun xs => ∀ p, M p = none → Q (.ref p) (put M p (.lst xs))
  | _ => False
abbrev rListOf (K : PySem.W.Frag) : List V → Hp → VK → Prop := fun xs H Q => ∃ p ys, xs = [V.ref p] ∧ (SqL K H p ys ∨ SqT K H p ys) ∧ ∀ l, H l = none → Q (.ref l) (upd H l (.lst ys))
theorem seq_or {a : Addr} {vs : List V} (p : H a = some (.lst vs) ∨ SqT K H a vs) : SqL K H a vs ∨ SqT K H a vs := p.imp (fun p => .inl (.inl p)) id
theorem ok_listF : OKC K (rListOf K) listF := ⟨fun {F H M vs ds Qd Q} l rs k q => by
  match ds, vs, rs, q with
  | [d], [v], .cons r .nil, q =>
    obtain ⟨xs, h, q⟩ := optP_out q
    obtain ⟨a, ws, rfl, p, r2⟩ := seqA_ok l r h
    refine ⟨a, ws, rfl, seq_or p, fun b hb => ?_⟩
    obtain ⟨l2, g⟩ := l.keep hb (.lst ws)
    exact k.go g l2 (.lst upd_same (r2.mono g)) q⟩
theorem ok_listM : OKC K (rListOf K) listM := ⟨fun {F H M vs ds Qd Q} l rs k q => by
  match ds, vs, rs, q with
  | [d], [v], .cons r .nil, q =>
    obtain ⟨xs, h, q⟩ := optP_out q
    obtain ⟨a, ws, rfl, p, r2⟩ := seqA_ok l r h
    refine ⟨a, ws, rfl, seq_or p, fun b hb => ?_⟩
    obtain ⟨n1, n2⟩ := l.free hb
    exact k.go (.rfl' F) (l.cellput (u := .lst ws) (c := .lst xs) n1 ⟨ws, upd_same, r2⟩) (.ref b) (q b n2)⟩
def tupleD : Rm := fun ds M Q => match ds with
  | [d] => optP (seqA M d) fun xs => Q (.tup xs) M
  | _ => False
theorem tuple_of {a : Addr} {ws : List V} {xs : List D} {Qd : VD} {Q : VK} (l : Rl K F H M) (k : Kv K F Qd Q) (p : H a = some (.lst ws)) (r2 : Rps K F ws xs) (q : Qd (.tup xs) M) : ∃ p ys, [V.ref a] = [V.ref p] ∧ ((SqL K H p ys ∧ ∀ l, H l = none → Q (.ref l) (upd H l (.tup ys))) ∨ (SqT K H p ys ∧ Q (.ref p) H)) :=
  ⟨a, ws, rfl, .inl ⟨.inl (.inl p), fun b hb => by
    obtain ⟨l2, g⟩ := l.keep hb (.tup ws)
    exact k.go g l2 (.tup (.inl (.inl upd_same)) (r2.mono g)) q⟩⟩
theorem ok_tuple : OKC K (fun xs H Q => ∃ p ys, xs = [V.ref p] ∧ ((SqL K H p ys ∧ ∀ l, H l = none → Q (.ref l) (upd H l (.tup ys))) ∨ (SqT K H p ys ∧ Q (.ref p) H))) tupleD := ⟨fun {F H M vs ds Qd Q} l rs k q => by
  match ds, vs, rs, q with
  | [d], [v], .cons r .nil, q =>
    obtain ⟨xs, h, qq⟩ := optP_out (show optP (seqA M d) (fun xs => Qd (.tup xs) M) from q)
    clear q
    cases d with
    | tup ys =>
      cases h
      cases r with
      | tup p r => exact ⟨_, _, rfl, .inr ⟨l.sub.sqt p, k.go (.rfl' F) l (.tup p r) qq⟩⟩
    | _ =>
      obtain ⟨a, ws, rfl, p, r2⟩ := seqL_ok l r (xs := xs) (by first | exact h | (cases h))
      exact tuple_of l k p r2 qq⟩
theorem cr_range1 : CallR X (.type "range") (fun vs H Q => ∃ j, vs = [V.int j] ∧ ∀ p, H p = none → Q (.ref p) (upd H p (.rng 0 j))) := by
  rintro pins s σ H vs us Q I r ⟨j, rfl, q⟩
  obtain ⟨u, rfl, t, rfl⟩ := vals1 r
  refine call_range_1 ⟨.ref s.heap.objs.size, upd H s.heap.objs.size (.rng 0 j), I.laid (t' := s.toks + 1 + 1) (fun b o e => Heap.get?_push_of_some _ e) (Nat.le_refl _) ?_, rfl, q _ (I.hok.fresh (Nat.le_refl _))⟩
  exact ⟨s.toks, t, s.toks + 1, Heap.get?_push_size _ rfl⟩
def rangeD : Rm := fun ds M Q => match ds with
  | [.int j] => Q (.rng 0 j) M
  | [.int i, .int j] => Q (.rng i j) M
  | _ => False
abbrev rRange : List V → Hp → VK → Prop := fun vs H Q => (∃ j, vs = [V.int j] ∧ ∀ p, H p = none → Q (.ref p) (upd H p (.rng 0 j))) ∨ ∃ i j, vs = [V.int i, V.int j] ∧ ∀ p, H p = none → Q (.ref p) (upd H p (.rng i j))
theorem cr_range : CallR X (.type "range") rRange := cr_range1.or cr_range2
theorem ok_range : OKC K rRange rangeD := ⟨fun {F H M vs ds Qd Q} l rs k q => by
  match ds, vs, rs, q with
  | [.int j], [_], .cons (.int _) .nil, q => exact .inl ⟨j, rfl, fun b hb => by
      obtain ⟨l2, g⟩ := l.keep hb (.rng 0 j)
      exact k.go g l2 (.rng upd_same) q⟩
  | [.int i, .int j], [_, _], .cons (.int _) (.cons (.int _) .nil), q => exact .inr ⟨i, j, rfl, fun b hb => by
      obtain ⟨l2, g⟩ := l.keep hb (.rng i j)
      exact k.go g l2 (.rng upd_same) q⟩⟩
/-- list(range(e)) -/
def rgD (n : Int) : List D := (List.range n.toNat).map fun i => .int ((i : Nat) : Int)
def tLsRg (mu : Bool) (te : TEd) : TEd := fun Xd δ M Q => te Xd δ M fun d M1 => match d with
  | .int n => 0 ≤ n ∧ n ≤ 16777216 ∧ (if mu = true then ∀ p, M1 p = none → Q (.ref p) (put M1 p (.lst (rgD n))) else Q (.lst (rgD n)) M1)
  | _ => False
theorem rgV_rel {n : Int} : Rps K F (rgV 0 n) (rgD n) := by
  have e : rgV 0 n = ((List.range n.toNat).map fun i => ((i : Nat) : Int)).map V.int := by
    unfold rgV
    simp
  have e2 : rgD n = ((List.range n.toNat).map fun i => ((i : Nat) : Int)).map D.int := by
    unfold rgD
    simp
  rw [e, e2]
  exact Rps.ints _
theorem plsrg {mu : Bool} {pos3 : Pos} (c : X.calm = true) (hg : Gl X "list") (hm : X.mg "list" = none) (hgr : Gl X "range") (hmr : X.mg "range" = none) (h : PEd X W a te) (na : starEach [a] X.env = (false, eval a X.env) :: starEach [] X.env := by rfl)
    (na2 : starEach [.Call (.Name "range" p2) [a] [] pos] X.env = (false, eval (.Call (.Name "range" p2) [a] [] pos) X.env) :: starEach [] X.env := by rfl) : PEd X W (.Call (.Name "list" p) [.Call (.Name "range" p2) [a] [] pos] [] pos3) (tLsRg mu te) :=
  pe_imp (pe_listRg c hg hm (prg_1 hgr hmr h na) na2) fun σ H Q ⟨F, δ, M, Qd, Xd, l, s, k, kx, q⟩ => low_then l s kx q ⟨fun {d M1 v G H1} g l1 r1 h1 => by
    cases r1 with
    | int n =>
      obtain ⟨h1, h2, q1⟩ := h1
      refine ⟨n, rfl, RgOk.of_le (Int.le_refl 0) h2 (by omega) h1, fun b hb => ?_⟩
      · cases mu with
        | true =>
          obtain ⟨n1, n2⟩ := l1.free hb
          exact k.go g (l1.cellput (u := .lst (rgV 0 n)) (c := .lst (rgD n)) n1 ⟨_, upd_same, rgV_rel⟩) (.ref b) (q1 b n2)
        | false =>
          obtain ⟨l2, g2⟩ := l1.keep hb (.lst (rgV 0 n))
          exact k.go (g.then' g2) l2 (.lst upd_same rgV_rel) q1
    | _ => exact h1.elim⟩
end
end DL
/-! An own exception's __init__ that begins with super().__init__(..): over the heap. -/
namespace DX
open PySem PySem.Spec PyProof.Rows L2 NdefX
open PySem.W (Frag)
open PySem.W (ks_loadName_global kxs_getMethod kxs_callWith kxs_mw kxs_ValueError looks_opaque)
/-- what the written part tells of the class at C, of its __init__ at fI (F; closed over its class's cell), of the code -/
structure SupT (P : Program) (K : Frag) (C fI : Addr) (F : NF) (cc : Addr) : Prop where
  oex : OexC K C
  cl : F.cl = [(("__class__" : Str), cc)]
  fn : ∃ (oc doc pm ct : Value) (od : Option Addr) (osl : Array (Option Value)), K.lookup fI = some ⟨oc, od, .func (F.fd doc pm ct), osl⟩
  code : PySem.W.codeIn K (.ref F.c) F.qual = true
  file : ∃ (cl : Value) (cd : Option Addr) (vs : Array Value) (sl : Array (Option Value)) (z : Str) (t : Tok), K.lookup F.c = some ⟨cl, cd, .fields vs, sl⟩ ∧ vs[2]? = some (.str z t) ∧ ((P.main.file : Str) == z) = true
  cell : ∃ (cl : Value) (cd : Option Addr) (sl : Array (Option Value)), K.lookup cc = some ⟨cl, cd, .cell (some (.ref C)), sl⟩
  sup : PySem.W.nsIn K mainGlobals "super" = some none
  top : (P.main.scope.names.lookup ("super" : Str)).isSome = false
  mro : PySem.W.mroIn K C (.ref C) = some true
  opq : PySem.W.nsIn K cStatics "thirdparty.any" = some none
  vinit : PySem.W.ks_superIn K C C "__init__" = some (some (.builtin "ValueError.__init__"))
  sub : PySem.W.subIn K (.ref C) (.type "ValueError") = some true
  arg : ∃ (ar : Arg), (F.params.posonlyargs ++ F.params.args).head? = some ar ∧ ar.arg = "self"
section
variable {CX : CXT} {P : Program} {w : World} {K : Frag} {mg : Str → Option Value} {base : Heap} {N ps : List Str} {F : NF} {fI C cc : Addr} {k : Nat} {sp : Sp}
theorem one_cell {c : Addr} {y : Str} (q : List.lookup y [(("__class__" : Str), cc)] = some c) : y = "__class__" := by
  by_cases z : y = "__class__"
  · exact z
  · have zz : (y == ("__class__" : Str)) = false := by simpa using z
    unfold List.lookup at q
    rw [zz] at q
    cases q
theorem cells_of (T : SupT P K C fI F cc) {h : Heap} {H : Hp} (hk : K.In h) (hn : ∀ b o, K.lookup b = some o → H b = none) : CellsAt F.cl ["__class__"] [some (.ref C)] h H := by
  obtain ⟨cl, cd, sl, e⟩ := T.cell
  have hc : h.IsCell cc (some (.ref C)) := ⟨_, hk _ _ e, rfl⟩
  refine ⟨rfl, fun y c q => ?_, fun x y c q r => ?_, fun i y q => ?_⟩
  · rw [T.cl] at q
    by_cases z : y = "__class__"
    · subst z
      have q : some cc = some c := q
      cases q
      exact ⟨hn _ _ e, _, hc⟩
    · exact absurd (one_cell q) z
  · rw [T.cl] at q r
    exact (one_cell q).trans (one_cell r).symm
  · cases i with
    | zero =>
      cases q
      refine ⟨cc, by rw [T.cl]; rfl, fun v hv => ?_⟩
      cases hv
      exact ⟨.ref C, rfl, hc⟩
    | succ i => simp at q
set_option maxHeartbeats 4000000 in
theorem init_ok (T : SupT P K C fI F cc) {oc doc pm ct : Value} {od : Option Addr} {osl : Array (Option Value)} (lk : K.lookup fI = some ⟨oc, od, .func (F.fd doc pm ct), osl⟩) (S : NScope N (("self" : Str) :: ps) ["__class__"] F.scope)
    (hks : F.scope.names.lookup ("super" : Str) = some .globalImplicit) {e1 : Expr} {rest : List Stmt} {p0 p1 p2 p3 p4 : Pos} {ta : TA}
    (hbody : F.body = .Expr (.Call (.Attribute (.Call (.Name "super" p0) [] [] p1) "__init__" p2) [e1] [] p3) p4 :: rest)
    (len : ∀ vs H Q E, sp vs H Q E → vs.length = (("self" : Str) :: ps).length)
    (hgo : ∀ (A : Around) (outer : List Env) (s : Shared) (H : Hp) (vs : List V) (Q : VK) (E : XK), Room k (A.deeper (envF F fI s.heap.objs.size)) → sp vs H Q E →
      ∃ a ws t, vs = .ref a :: ws ∧ H a = some (exo a C none) ∧ PA (ncx CX P w K mg base N F fI A outer s H E) [e1] ta ∧ PSs (ncx CX P w K mg base N F fI A outer s H E) rest t ∧
        ta (startF N vs [some (.ref C)]) H fun us H1 => us.length ≤ 1000 ∧ H1 a = some (exo a C none) ∧ t { nx := fun _ H' => Q .non H', rt := Q } (startF N vs [some (.ref C)]) H1)
    (hstar : ∀ env, starEach [e1] env = [(false, eval e1 env)] := by intro; rfl)
    (hcall : ∀ env, ∃ pl, eval (.Call (.Attribute (.Call (.Name "super" p0) [] [] p1) "__init__" p2) [e1] [] p3) env = (do let o ← attributeBase (.Call (.Name "super" p0) [] [] p1) "__init__" env (eval (.Call (.Name "super" p0) [] [] p1) env); standAt p2.atName; let (f, first) ← holding [o] (getMethod o "__init__" pl); callWith p3 f first (backTo p3 (starEach [e1] env)) []) := by intro; exact ⟨_, rfl⟩) : FnOk P w K mg base CX (k + 1) fI (F.fd doc pm ct) (("self" : Str) :: ps) sp := by
  refine ⟨len, fun A outer s H args us vs Q E hr e0 hbind r hsp => ?_⟩
  have old : ∀ b o, base.get? b = some o → s.heap.get? b = some o := fun b o e => (e0.bs b o e).1
  have KX : K.In s.heap := e0.mod.kin.keeps old
  have lim : s.heap.NoLimit := e0.mod.nolimit.keeps old
  have hl := len _ _ _ _ hsp
  obtain ⟨a, wsv, t, ev, hE, pa, pss, hq⟩ := hgo A outer s H vs Q E (hr.deeper _) hsp
  refine ks_codeAny_call_defAt (binds := (("self" : Str) :: ps).zip us) hr.depth (KX _ _ lk) rfl lim (PySem.W.codeRec_of KX T.code) rfl hbind S.nocell (fun x hx => S.par x.1 (List.of_mem_zip hx).1) (fun h1 hns hk1 => ?_) S.co S.gen S.kind
  have noK : ∀ b o, K.lookup b = some o → H b = none := fun b o e => (e0.bs b o (e0.mod.kin b o e)).2
  have I : L2.Inv (ncx CX P w K mg base N F fI A outer s H E) [] (startF N vs [some (.ref C)]) H { s with heap := h1, toks := s.toks + ((("self" : Str) :: ps).zip us).length } :=
    inv_startN S hr.hd e0 hl r (cells_of T KX noK) hns hk1
  -- self stands first
  subst ev
  obtain ⟨u0, ur, rfl⟩ : ∃ u0 ur, us = u0 :: ur := by
    cases r with
    | cons _ _ => exact ⟨_, _, rfl⟩
  have ru : u0 = Value.ref a := by
    cases r with
    | cons r _ => exact r
  subst ru
  obtain ⟨t1, ho⟩ := exo_at I.hok hE
  obtain ⟨nm, q, Nn, bs, bm, sn, sub, ab, col, dd, k0, k1, k2, k3, k5, hC, hbm⟩ := T.oex.cls
  have K1 : K.In h1 := I.kIn
  have hD1 : h1.get? C = some (excClassObj nm q C Nn bs bm true sn sub ab col dd k0 k1 k2 k3 k5 "ValueError.__new__") := K1 _ _ hC
  have hcl : PySem.W.clsIn K C = some { name := nm, bases := bs, mro := .ref C :: bm, ns := Nn, qualname := q, hasDict := true, slotNames := sn, subclasses := sub, abstract := ab, collection := col, hasDel := false } := by
    unfold PySem.W.clsIn
    rw [hC]
    all_goals rfl
  obtain ⟨fcl, fcd, fvs, fsl, fz, ft, hcode, hvs, hfile⟩ := T.file
  obtain ⟨ccl, ccd, csl, hcell⟩ := T.cell
  obtain ⟨ar, harg, har⟩ := T.arg
  have hself : F.scope.names.lookup ("self" : Str) = some .local := S.par "self" (List.mem_cons_self ..)
  have hclass : F.scope.names.lookup ("__class__" : Str) = some .free := S.frk "__class__" (List.mem_cons_self ..)
  show PySem.wpAt _ _ _ (execs F.body _) _ _ _
  rw [hbody]
  obtain ⟨pl, hcall⟩ := hcall (envF F fI s.heap.objs.size)
  refine ks_wpAt_execs_cons (ks_wpAt_Expr_any (ks_wpAt_MethodCall (pl := pl) ?_ hcall) I.quiet)
  refine ks_wpAt_super_base (ar := ar) (env := envF F fI s.heap.objs.size) hks hclass (by decide) rfl (K1 _ _ lk) rfl harg rfl (K1 _ _ hcode) rfl hvs hfile T.top ?_
  obtain ⟨mb, hmb, hblt⟩ := e0.mod.blt
  refine ks_loadName_global S.kind hks (Calls.loadGlobal_builtin (mg := mg) (mb := mb) (e0.mod.glob.keeps I.bk) (PySem.W.mg_none_of e0.mod.kin e0.mod.glob T.sup) (hmb.keeps I.bk) (hblt _ (by decide)) ⟨?_, ?_⟩)
  · first
      | rfl
      | decide +kernel
  refine wpAny_loadName_free S.kind hclass (show F.cl.lookup ("__class__" : Str) = some cc by rw [T.cl]; rfl) ⟨_, K1 _ _ hcell, rfl⟩ ?_ (by first | rfl | decide)
  rw [har]
  refine wpAny_loadName_local S.kind hself hns (v := .ref a) ?_ ?_
  · have nd : ((("self" : Str) :: ps)).Nodup := by
      have q := (List.take_sublist ((("self" : Str) :: ps).length + ([("__class__" : Str)]).length) N).nodup S.nd
      rw [S.pre] at q
      exact (List.nodup_append.mp q).1
    exact zip_look nd (i := 0) rfl rfl
  refine ks_wpAny_isType_cls hD1 rfl ⟨rfl, ?_⟩
  refine ks_wpAny_call_super hD1 rfl ho rfl (fun c z => by cases z) (PySem.W.looks_mroIn K1 T.mro) fun h2 hso k2 => ?_
  have K2 : K.In h2 := K1.keeps k2
  have hx2 : PySem.W.InstAt h2 a { cls := .ref C, dict := none, data := .fields #[.ref t1, .none, .none, .none, .bool false, .none] } C none := ⟨k2 _ _ ho, rfl, rfl, trivial⟩
  have hvi := T.vinit
  unfold PySem.W.ks_superIn at hvi
  rw [hcl] at hvi
  refine kxs_getMethod kxs_ValueError hso (looks_opaque K2 T.opq) (l₀ := .ref C :: bm) (fun A Q E s k q => wpAny_bind ((PySem.W.looks_clsIn K2 hcl) A _ E s k (wpAny_pure q))) rfl K2 hvi (hx2.type.andThen (PySem.W.looks_subIn K2 T.sub)) (PySem.W.ks_ne K2 hx2 hcl) (by decide) ?_
  -- the bound __init__ stands at the end of the heap; the arguments
  have hu : (h2.push (kxs_mw "ValueError.__init__" a)).get? h2.objs.size = some (kxs_mw "ValueError.__init__" a) := Heap.get?_push_at rfl rfl
  have lt2 : h1.objs.size < h2.objs.size := Heap.lt_size hso
  have I2 := I.kept (t' := s.toks + (((("self" : Str) :: ps)).zip (.ref a :: ur)).length + 1) (h' := h2.push (kxs_mw "ValueError.__init__" a)) fun b o e => Heap.get?_push_of_some _ (k2 b o e)
  have I3 : L2.Inv (ncx CX P w K mg base N F fI A outer s H E) [(h2.objs.size, kxs_mw "ValueError.__init__" a)] (startF N (.ref a :: wsv) [some (.ref C)]) H ⟨h2.push (kxs_mw "ValueError.__init__" a), s.gens, s.drawn, s.toks + (((("self" : Str) :: ps)).zip (.ref a :: ur)).length + 1, s.os⟩ := by
    refine I2.pins_of fun p hp => ?_
    have z := List.mem_singleton.mp hp
    subst z
    refine ⟨hu, I.hok.fresh (Nat.le_of_lt lt2), ?_, I.nofs (Nat.le_of_lt lt2), fun v z => by cases z⟩
    have lz : s.heap.objs.size < h1.objs.size := I.lt
    exact Nat.ne_of_gt (Nat.lt_trans lz lt2)
  rw [hstar]
  have bt : backTo p3 [(false, eval e1 (envF F fI s.heap.objs.size))] = [(false, eval e1 (envF F fI s.heap.objs.size))] ∨ True := .inr trivial
  refine kxs_callWith (i := "ValueError.__init__") (x := a) (by first | rfl | simp [backTo]) ?_
  have hA := pa.run p3 _ _ _ _ _ I3 hq
  have hst := hstar (ncx CX P w K mg base N F fI A outer s H E).env
  rw [hst] at hA
  refine Calls.evalArgs_plain ?_
  refine thn hA fun us1 s1 hh => ?_
  obtain ⟨vs1, H1, I4, r1, hz, hE1, ht⟩ := hh
  have hu1 : s1.heap.get? h2.objs.size = some (kxs_mw "ValueError.__init__" a) := (I4.pin (h2.objs.size, kxs_mw "ValueError.__init__" a) (by simp)).1
  refine ⟨hu1, ?_⟩
  obtain ⟨t2, ho4⟩ := exo_at I4.hok hE1
  have hC4 := I4.kIn _ _ hC
  have hlen : us1.length ≤ sizeLine := by
    rw [← Paired.length r1, sizeLine_eq]
    omega
  obtain ⟨hp, g, d, tk, os⟩ := s1
  show wpAny _ _ (call (.ref h2.objs.size) us1) _ _ _
  refine wpAny_call (codeAny_of_tree ?_)
  show wpAny _ _ (callAny (.ref h2.objs.size) ⟨us1, []⟩) _ _ _
  simp only [callAny]
  refine wpAny_bind (wpAny_load hu1 ?_)
  simp only [kxs_mw, show (Value.type "method-wrapper" == Value.type "method" || Value.type "method-wrapper" == Value.type "builtin_function_or_method" || Value.type "method-wrapper" == Value.type "method-wrapper") = true by decide, if_true]
  refine PySem.W.KFB.if_so (by decide) ?_
  refine wpAny_bind (PySem.W.check_bound_init PySem.F.excBase_ValueError.toExcCallFacts hC4 ho4 rfl ?_)
  refine wpAny_bind (wpAny_pure (wpAny_pure ?_))
  refine ⟨plainId_quiet PySem.F.excBase_ValueError.init.plain _, codeAny_builtin PySem.F.excBase_ValueError.initEntry ?_⟩
  refine PySem.W.exc_init_tree (cls := .ref C) (t0 := t2) (dv := none) (c2 := .none) (c3 := .none) (b4 := .bool false) ho4 hlen fun h5 k5 hx5 _ => ?_
  have J := I4.write (t' := tk) (x := a) (e := a) (o := exo a C none) (by rw [hE1]; exact True.intro) (.inl rfl) k5 ⟨_, hx5⟩ (exo_ok hx5)
  have eu : upd H1 a (exo a C none) = H1 := by
    funext b
    by_cases hb : b = a
    · rw [hb, upd_same, hE1]
    · rw [upd_ne hb]
  rw [eu] at J
  have J0 : L2.Inv (ncx CX P w K mg base N F fI A outer s H E) [] (startF N (.ref a :: wsv) [some (.ref C)]) H1 ⟨h5, g, d, tk, os⟩ := J.pins_of fun p hp => by cases hp
  -- the rest of the body
  refine wpAt_of_wpAny (thn (pss.run [] _ _ H1 _ J0 ht) fun fl s6 hs => ?_)
  match fl, hs with
  | .ret u, ⟨v, σ', H', J, rv, q⟩ => exact ⟨v, H', J.os, J.bare, J.base, J.hok, rv, q⟩
  | .next, ⟨σ', H', J, q⟩ => exact ⟨.non, H', J.os, J.bare, J.base, J.hok, rfl, q⟩
  | .brk, ⟨_, _, _, q⟩ => exact q.elim
  | .cont, ⟨_, _, _, q⟩ => exact q.elim
end
end DX
/-! Own errors with one field: made, raised. -/
namespace DX
open PySem PySem.Spec PyProof.Rows L2 NdefX
open PySem.W (Frag)
/-- what an error's field may hold -/
def OkV (v : V) : Prop := (∃ y : Str, v = .str y ∧ y.length ≤ 10000) ∨ ∃ i : Int, v = .int i ∧ i.natAbs.log2 < 1920
/-- __init__ stores its one argument -/
def spX (C : Addr) (x : Str) : Sp := fun vs H Q _ => ∃ a v, vs = [.ref a, v] ∧ OkV v ∧ H a = some (exo a C none) ∧ ∀ d, H d = none → d ≠ a → Q .non (upd (upd H d (exd d [(x, v)])) a (exo a C (some d)))
section
variable {CX : CXT} {P : Program} {w : World} {K : Frag} {mg : Str → Option Value} {base : Heap} {F : NF} {fI C cc : Addr} {k : Nat} {x : Str}
theorem join_len (a b : Str) : (a ++ b).length = a.length + b.length := by
  show (a.cps ++ b.cps).size = a.cps.size + b.cps.size
  simp
/-- the values of a text with one place: f'..{x}..' -/
def msgT (m0 : Str) (i : Nat) : List Str → List TE
  | ms => tC (.str m0) :: tFmt (tVar i) :: ms.map fun m => tC (.str m)
theorem msg_run {m0 : Str} {ms : List Str} {i : Nat} {v : V} {σ : L2.St} {H : Hp} {Q : Str → Hp → Prop} (hv : σ[i]? = some (some v)) (ok : OkV v) (h0 : m0.length ≤ 1000) (hm : ms = [] ∨ ∃ m1 : Str, ms = [m1] ∧ m1.length ≤ 1000) (q : ∀ out, Q out H) : tJs (msgT m0 i ms) Str.empty σ H Q := by
  have hb : ∀ y : Str, y.length ≤ 10000 → tJs (ms.map fun m => tC (.str m)) (Str.empty ++ m0 ++ y) σ H Q := fun y hy => by
    rcases hm with rfl | ⟨m1, rfl, hl⟩
    · exact q _
    · refine ⟨m1, rfl, ?_, q _⟩
      rw [join_len, join_len, join_len]
      have e : Str.empty.length = 0 := rfl
      have z : sizeLine = 16777216 := sizeLine_eq
      omega
  have z : sizeLine = 16777216 := sizeLine_eq
  have e : Str.empty.length = 0 := rfl
  refine ⟨m0, rfl, by rw [join_len]; omega, v, hv, ?_⟩
  rcases ok with ⟨y, rfl, hy⟩ | ⟨n, rfl, hn⟩
  · exact .inl ⟨y, rfl, by omega, y, rfl, by rw [join_len, join_len]; omega, hb y hy⟩
  · have hl := int_text_len_1921 hn
    exact .inr ⟨n, rfl, hn, _, rfl, by rw [join_len, join_len]; omega, hb _ (by omega)⟩
theorem exc_init (T : SupT P K C fI F cc) {oc doc pm ct : Value} {od : Option Addr} {osl : Array (Option Value)} (lk : K.lookup fI = some ⟨oc, od, .func (F.fd doc pm ct), osl⟩) (S : NScope ["self", x, "__class__"] ["self", x] ["__class__"] F.scope)
    (hks : F.scope.names.lookup ("super" : Str) = some .globalImplicit) (hno : PySem.W.findIn K (.ref C) x = some none) (hx1 : (x == ("__debug__" : Str)) = false) (hx2 : (x == ("__classdict__" : Str)) = false)
    {m0 : Str} {ms : List Str} {tl : List Expr} {p0 p1 p2 p3 p4 q0 q1 q2 q3 q4 q5 q6 c0 : Pos} {j0 : Nat}
    (hbody : F.body = [.Expr (.Call (.Attribute (.Call (.Name "super" p0) [] [] p1) "__init__" p2) [.JoinedStr (.Constant (.str m0) j0 c0 :: .FormattedValue (.Name x q0) (-1) none q1 :: tl) q2] [] p3) p4, .Assign [.Attribute (.Name "self" q3) x q4] (.Name x q5) q6])
    (htl : (tl = [] ∧ ms = []) ∨ ∃ m1 j1 c1, tl = [.Constant (.str m1) j1 c1] ∧ ms = [m1] ∧ m1.length ≤ 1000) (h0 : m0.length ≤ 1000)
    (hcall : ∀ env, ∃ pl, eval (.Call (.Attribute (.Call (.Name "super" p0) [] [] p1) "__init__" p2) [.JoinedStr (.Constant (.str m0) j0 c0 :: .FormattedValue (.Name x q0) (-1) none q1 :: tl) q2] [] p3) env = (do let o ← attributeBase (.Call (.Name "super" p0) [] [] p1) "__init__" env (eval (.Call (.Name "super" p0) [] [] p1) env); standAt p2.atName; let (f, first) ← holding [o] (getMethod o "__init__" pl); callWith p3 f first (backTo p3 (starEach [.JoinedStr (.Constant (.str m0) j0 c0 :: .FormattedValue (.Name x q0) (-1) none q1 :: tl) q2] env)) []) := by intro; exact ⟨_, rfl⟩)
    (hsw : ∀ env, swapsWith (.Name x q5) (some (.Attribute (.Name "self" q3) x q4)) q6.line env = pure false := by intro; rfl) : FnOk P w K mg base CX 1 fI (F.fd doc pm ct) ["self", x] (spX C x) := by
  have hself : F.scope.names.lookup ("self" : Str) = some .local := S.par "self" (List.mem_cons_self ..)
  have hxl : F.scope.names.lookup x = some .local := S.par x (by simp)
  have go : ∀ A outer s (H : Hp) (E : XK), ∀ {p : Pos}, PE (ncx CX P w K mg base ["self", x, "__class__"] F fI A outer s H E) (.Name x p) (tVar 1) := fun A outer s H E p => pe_var (i := 1) rfl (.inl hxl) hx1 hx2
  have gs : ∀ A outer s (H : Hp) (E : XK), ∀ {p : Pos}, PE (ncx CX P w K mg base ["self", x, "__class__"] F fI A outer s H E) (.Name "self" p) (tVar 0) := fun A outer s H E p => pe_var (i := 0) rfl (.inl hself)
  rcases htl with ⟨rfl, rfl⟩ | ⟨m1, j1, c1, rfl, rfl, hl⟩
  · refine init_ok (k := 0) T lk S hks hbody (fun vs H Q E ⟨a, v, e, _⟩ => by rw [e]; rfl) (fun A outer s H vs Q E hr ⟨a, v, e, ok, hE, q⟩ => ?_) (hcall := hcall) (ta := tCons (fun σ H Q => tJs (msgT m0 1 []) Str.empty σ H fun out H1 => Q (.str out) H1) tNil)
    subst e
    refine ⟨a, [v], _, rfl, hE, pa_cons (pe_joined (.cons pe_str (.cons (pe_fmt (go ..)) .nil))) pa_nil, pss_one (ps_ost (gs ..) (go ..) (hsw _)), ?_⟩
    refine msg_run (i := 1) (v := v) (ms := []) rfl ok h0 (.inl rfl) fun out => ⟨(by show 1 ≤ 1000; decide), hE, ?_⟩
    exact ⟨v, rfl, .ref a, rfl, a, C, rfl, T.oex, hno, .inl ⟨hE, fun dx n ne => q dx n ne⟩⟩
  · refine init_ok (k := 0) T lk S hks hbody (fun vs H Q E ⟨a, v, e, _⟩ => by rw [e]; rfl) (fun A outer s H vs Q E hr ⟨a, v, e, ok, hE, q⟩ => ?_) (hcall := hcall) (ta := tCons (fun σ H Q => tJs (msgT m0 1 [m1]) Str.empty σ H fun out H1 => Q (.str out) H1) tNil)
    subst e
    refine ⟨a, [v], _, rfl, hE, pa_cons (pe_joined (.cons pe_str (.cons (pe_fmt (go ..)) (.cons pe_str .nil)))) pa_nil, pss_one (ps_ost (gs ..) (go ..) (hsw _)), ?_⟩
    refine msg_run (i := 1) (v := v) (ms := [m1]) rfl ok h0 (.inr ⟨m1, rfl, hl⟩) fun out => ⟨(by show 1 ≤ 1000; decide), hE, ?_⟩
    exact ⟨v, rfl, .ref a, rfl, a, C, rfl, T.oex, hno, .inl ⟨hE, fun dx n ne => q dx n ne⟩⟩
end
/-! ### made where nothing is handled: its context is None -/
theorem passN {X : Cx} : Passes (L2N.CX X.prog X.w) X (fun _ _ _ => False) := fun _ _ _ _ _ _ _ ⟨_, _, _, _, _, _, _, _, _, _, _, _, q⟩ => q.elim
theorem pmk_oexN {X : Cx} {CX : CXT} {y : Str} {e : Expr} {es : List Expr} {ta : TA} {p pos : Pos} {C fI : Addr} {k : Nat} {fd : FuncData} {ps : List Str} {sp : Sp} (T : OexC X.K C) (iC : PySem.W.findIn X.K (.ref C) "__init__" = some (some (.ref fI))) (tI : PySem.W.typeIn X.K (.ref fI) = some (.type "function"))
    (F1 : FnOk X.prog X.w X.K X.mg X.base CX k fI fd ps sp) (hr : Room (k + 1) X.A) (hb : Binds X.K fd ps []) (hx : Passes CX X (fun _ _ _ => False)) (hg : Gl X y) (hm : X.mg y = some (.ref C)) (ha : PA X (e :: es) ta)
    (hdb : (y == ("__debug__" : Str)) = false) (he : starEach (e :: es) X.env = (false, eval e X.env) :: starEach es X.env) (hpl : (backTo pos (starEach es X.env)).any (·.1) = false) : L2N.PMk X (.Call (.Name y p) (e :: es) [] pos) (tMkO C sp [] ta) := by
  intro pins s σ H Q I h
  obtain ⟨nm, q, N, bs, bm, sn, sub, ab, col, dd, k0, k1, k2, k3, k5, hC, hbm⟩ := T.cls
  refine wpAny_Call_Name_kw (ld_glob I hg hm (PySem.W.callWith_K (h₀ := X.base) I.ok.mod.kin T.kC (thn (ha.run pos pins s σ H _ I h) fun us s1 ⟨vs, H1, I1, r1, hz, q1⟩ => ⟨I1.kIn, ?_⟩) he hpl) hdb)
  obtain ⟨hp, g, dr, tk, os⟩ := s1
  have le1 : hp.objs.size ≤ hp.objs.size + 1 := Nat.le_succ _
  have hq := q1 (hp.objs.size + 1) (I1.hok.fresh le1)
  rw [List.append_nil] at hq
  -- the new exception and its tuple of arguments
  let h2 : Heap := (hp.push (PySem.W.kdv_tup us)).push (PySem.HandSPX.excO C hp.objs.size)
  have kk : ∀ b o, hp.get? b = some o → h2.get? b = some o := fun b o z => Heap.get?_push_of_some _ (Heap.get?_push_of_some _ z)
  have at1 : h2.get? (hp.objs.size + 1) = some (PySem.HandSPX.excO C hp.objs.size) := by heap_get
  have I2 : Inv X pins σ (upd H1 (hp.objs.size + 1) (exo (hp.objs.size + 1) C none)) ⟨h2, g, dr, tk, os⟩ := I1.laid (t' := tk) (o := exo (hp.objs.size + 1) C none) kk le1 (exo_ok at1)
  have r2 : Vals (V.ref (hp.objs.size + 1) :: vs) (Value.ref (hp.objs.size + 1) :: us) := .cons rfl r1
  have len : (Value.ref (hp.objs.size + 1) :: us ++ []).length = ps.length := by
    rw [List.append_nil, ← r2.length]
    exact F1.len _ _ _ _ hq
  have few : us.length ≤ sizeLine := by
    rw [← Paired.length r1, sizeLine_eq]
    omega
  have b2 := hb ⟨h2, g, dr, tk, os⟩ _ I2.kIn len
  rw [List.append_nil] at b2
  refine wpAny_call (PySem.HandSPX.call_own F.excBase_ValueError (fun Y => PySem.HandSPX.refsVE_contains Y bm hbm) (I1.kIn _ _ hC) (PySem.W.looks_findIn I1.kIn iC) (fun self => PySem.W.bind_fn I1.kIn self tI) few
    (codeAny_mono (F1.run _ X.stack _ _ ⟨_, []⟩ _ _ _ (fun _ _ _ => False) (hr.make C us []) (I2.env0.make C us []) b2 r2 hq) fun r s' hq' => ?_))
  match r, hq' with
  | .error er, hq' => exact hx pins σ _ _ er s' I2 hq'
  | .ok (.ret u), ⟨v, H2, os2, bare2, un2, hok2, rv, ev, d, fs, ea, ed, hd1, q2⟩ =>
    subst ev
    obtain ⟨h3, g2, d2, t2, os'⟩ := s'
    obtain ⟨t0, G, J, kG, ge, hoe, na⟩ := mk_end0 (d2 := d2) (t2 := t2) I1 le1 kk un2 hok2 os2 bare2 ea ed hd1
    exact ⟨rv, hp.objs.size + 1, _, _, ⟨G, g2, d2, t2, os'⟩, _, .ref C, some d, rfl, J, kG, ge, hoe, ⟨rfl, rfl, fun vs hv => by cases hv; rfl⟩, rfl, rfl, na, rfl, bare2, raises_own T.exC T.tyC, q2⟩
  | .ok .next, hq' => exact hq'.elim
  | .ok .brk, hq' => exact hq'.elim
  | .ok .cont, hq' => exact hq'.elim
/-! ### over data -/
section
open DL
variable [B : Obs] {X : Cx} {W : WX} {n : Nat}
def OkD : D → Prop
  | .str y => y.length ≤ 10000
  | .int i => i.natAbs.log2 < 1920
  | _ => False
theorem okV_of {K : Frag} {F : Hp} {v : V} {d : D} (r : Rp K F v d) (h : OkD d) : OkV v := by
  cases r with
  | str y => exact .inl ⟨y, rfl, h⟩
  | int i => exact .inr ⟨i, rfl, h⟩
  | _ => exact h.elim
/-- raise C(e) -/
def tRs (C : Addr) (x : Str) (t : TAd) : TSd := fun E δ M => t (E.xk δ) δ M fun ds M1 => match ds with
  | [d] => OkD d ∧ E.xx C [(x, d)] δ M1
  | _ => False
theorem Rl.more {K : Frag} {F H J : Hp} {M : Md} (l : Rl K F H M) (h : ∀ b u, H b = some u → J b = some u) : Rl K F J M := ⟨⟨fun e => h _ _ (l.sub.of e)⟩, fun a c e => by
  obtain ⟨k1, k2⟩ := l.cell a c e
  obtain ⟨u, hu⟩ := k2.there
  exact ⟨k1, k2.mono (.rfl' F) (hu.trans (h _ _ hu).symm)⟩⟩
/-- the error's class at C under the name y, its __init__ at fI -/
structure ErrT (X : Cx) (C fI : Addr) (fd : FuncData) (x : Str) : Prop where
  oex : OexC X.K C
  iC : PySem.W.findIn X.K (.ref C) "__init__" = some (some (.ref fI))
  tI : PySem.W.typeIn X.K (.ref fI) = some (.type "function")
  ok : FnOk X.prog X.w X.K X.mg X.base (L2N.CX X.prog X.w) 1 fI fd ["self", x] (spX C x)
  bd : Binds X.K fd ["self", x] []
theorem sraise {C fI : Addr} {fd : FuncData} {x y : Str} {e : Expr} {ta : TAd} {p pos pos2 : Pos} (c : Cd X W n) (hn : 2 ≤ n) (T : ErrT X C fI fd x) (hg : Gl X y) (hm : X.mg y = some (.ref C)) (ha : PAd X W [e] ta)
    (hdb : (y == ("__debug__" : Str)) = false := by decide) (he : starEach (e :: []) X.env = (false, eval e X.env) :: starEach [] X.env := by rfl) (hpl : (backTo pos (starEach [] X.env)).any (·.1) = false := by rfl) :
    PSd X W (.Raise (some (.Call (.Name y p) [e] [] pos)) none pos2) (tRs C x ta) :=
  ps_imp (L2N.ps_raise c.calm c.tk (pmk_oexN T.oex T.iC T.tI T.ok (c.rm.mono hn) T.bd passN hg hm ha hdb he hpl)) fun E σ H ⟨F, δ, M, Dd, l, s, lt, q⟩ => by
    refine lowA_then l s (lt.xx (.rfl' F) s) q ⟨fun {ds M1 vs G H1} g l1 r1 h1 => ?_⟩
    match ds, vs, r1, h1 with
    | [d], [v], .cons r .nil, ⟨ok, h⟩ =>
      refine ⟨(by show 1 ≤ 1000; decide), fun a na => ⟨a, v, rfl, okV_of r ok, upd_same, fun dx nd ne => ⟨rfl, dx, [(x, v)], upd_same, ?_, ?_, ?_⟩⟩⟩
      · rw [upd_ne ne, upd_same]
      · rw [upd_ne ne] at nd
        exact nd
      · rw [upd_ne ne] at nd
        have k : ∀ b u, H1 b = some u → upd (del (upd (upd (upd H1 a (exo a C none)) dx (exd dx [(x, v)])) a (exo a C (some dx))) a) dx (.xd [(x, v)]) b = some u := fun b u e => by
          have b1 : b ≠ dx := known_ne nd e
          have b2 : b ≠ a := known_ne na e
          rw [upd_ne b1, del_ne b2, upd_ne b2, upd_ne b1, upd_ne b2]
          exact e
        refine (lt.xx g (s.mono g)).go (.rfl' G) (Rl.more l1 k) (.inr ⟨dx, [(x, v)], rfl, l1.sub.off nd, upd_same, .cons ⟨rfl, r⟩ .nil⟩) h
end
end DX
/-! try: body, several except clauses, each with or without a name; calls within their suites. -/
namespace DX
open PySem PySem.Spec PyProof.Rows L2 L2H
/-- one clause: the class, the slot of its name, what its suite does -/
structure Cla where
  c : Value
  i : Option Nat
  ts : Addr → Value → Option Addr → TS
def bindC (i : Option Nat) (a : Addr) (σ : L2.St) : L2.St := match i with
  | none => σ
  | some j => σ.set j (some (.ref a))
def dropC (i : Option Nat) (σ : L2.St) : L2.St := match i with
  | none => σ
  | some j => σ.set j none
def endC (i : Option Nat) (D : Ends) : Ends := { nx := fun σ H => D.nx (dropC i σ) H, rt := D.rt, bk := fun σ H => D.bk (dropC i σ) H, ct := fun σ H => D.ct (dropC i σ) H }
/-- what the clauses wish -/
def wAll (K : PySem.W.Frag) (Wout : WX) (D : Ends) : List Cla → WX
  | [] => Wout
  | c :: r => fun cls d σ H => ∃ b, PySem.W.exmOne K cls c.c = some b ∧ (b = true → ∀ a, H a = none → c.ts a cls d (endC c.i D) (bindC c.i a σ) H) ∧ (b = false → wAll K Wout D r cls d σ H)
abbrev SuOk (X : Cx) (sts : List Stmt) (ts : Addr → Value → Option Addr → TS) : Prop := ∀ (a : Addr) (oe : Obj) (cls : Value) (d : Option Addr) (pn : List (Addr × Obj)), L2N.Zn cls d oe → (∃ vs, oe.data = .fields vs) → HotC (X.suite a ((a, oe) :: pn)) → PSs (X.suite a ((a, oe) :: pn)) sts (ts a cls d)
inductive ClasOk (X : Cx) : List ExceptHandler → List Cla → Prop
  | nil : ClasOk X [] []
  | plain {x : Str} {c : Value} {ts : Addr → Value → Option Addr → TS} {b₀ : Stmt} {suite : List Stmt} {np pos' : Pos} {hds : List ExceptHandler} {l : List Cla} (hc : Names X x c) (hsu : SuOk X (b₀ :: suite) ts) (r : ClasOk X hds l) :
      ClasOk X (.ExceptHandler (some (.Name x np)) none (b₀ :: suite) pos' :: hds) (⟨c, none, ts⟩ :: l)
  | named {x n : Str} {i : Nat} {c : Value} {ts : Addr → Value → Option Addr → TS} {b₀ : Stmt} {suite : List Stmt} {np pos' : Pos} {hds : List ExceptHandler} {l : List Cla} (hc : Names X x c) (hi : X.N[i]? = some n) (hln : X.env.kindOf n = some .local) (hsu : SuOk X (b₀ :: suite) ts)
      (r : ClasOk X hds l) : ClasOk X (.ExceptHandler (some (.Name x np)) (some n) (b₀ :: suite) pos' :: hds) (⟨c, some i, ts⟩ :: l)
section
variable {X : Cx} {body : List Stmt} {h₀ : ExceptHandler} {hds : List ExceptHandler} {l : List Cla} {pos : Pos} {tb : WX → TS} {Wout : WX}
theorem ps_try_all (hs : X.stack = X.env :: X.outer) (hf : X.env.frame = some X.env.locals) (hN : X.N.Nodup) (tk : L2N.Takes X Wout)
    (hb : ∀ (W : WX) (pn : List (Addr × Obj)) (xe : Value → Shared → Prop), L2N.Takes (X.tr pn xe) W → PassesOwn (model X.prog X.w) X.A X.env xe → PSs (X.tr pn xe) body (tb W)) (hh : ClasOk X (h₀ :: hds) l) :
    PS X (.Try body (h₀ :: hds) [] [] pos) (fun D σ H => tb (wAll X.K Wout D l) D σ H) := by
  refine ⟨fun pins s σ H D I h => wpAny_Try_except ?_⟩
  have ok := I.ok
  have hfr : X.A.frames = some (X.env :: X.outer) := by rw [ok.frames, hs]
  refine wpAny_mono ((hb (wAll X.K Wout D l) (X.pn ++ pins) (fun e s₁ => wpAny (model X.prog X.w) X.A (noteFrame e X.env) (fun _ s₂ => wpAny (model X.prog X.w) X.A (setFlight e none) (fun _ s₃ => wpAny (model X.prog X.w) X.A (handleBy e X.env (h₀ :: hds)) (SP X pins D) X.xe s₃) X.xe s₂) X.xe s₁)
    (fun u s' xx => ?_) PassesOwn.looking).run [] s σ H D (I.toTry _) h) (fun f s1 hsp => ?_) (fun e s1 he => he)
  · obtain ⟨a, B, sI, pins', σ', H', cls, d, rfl, J', nb, up, sky, na, os, ag, w⟩ := xx
    have J : Inv X pins σ' H' sI := J'.ofTry ok
    refine L2N.Sky.land (L := X.env.locals) L2N.Zn.steady hfr hf (show Sky B (X.env :: X.outer) a (L2N.Zn cls d) X.env.locals s'.heap by rw [← hs]; exact sky) fun h3 fl3 up3 => ?_
    have J3 : Inv X pins σ' H' { s' with heap := h3 } := J.landed nb fl3.1 (up.trans up3) os ag
    obtain ⟨oe3, vs3, he3, hz3, hd3⟩ := fl3.there
    have nfr : a ∉ frs (X.env :: X.outer) := fun hm => by
      obtain ⟨_, o', e', hnf⟩ := fl3.2.2.1.mem hm
      rw [he3] at e'
      cases e'
      exact hnf _ hd3
    have nL : a ≠ X.env.locals := fun z => nfr (List.mem_filterMap.mpr ⟨X.env, List.mem_cons_self, by rw [hf, z]⟩)
    have nF : a ∉ X.fs := fun hm => by
      obtain ⟨e, he, q⟩ := List.mem_filterMap.mp hm
      exact nfr (List.mem_filterMap.mpr ⟨e, List.mem_cons_of_mem _ he, q⟩)
    have S3 := J3.suite he3 hd3 na nL nF
    have LT : PySem.W.Looks (model X.prog X.w) h3 (typeOf (.ref a)) cls := fun A Q E s k q => wpAny_typeOf_ref (k _ _ he3) (by rw [hz3.1]; exact q)
    have test : ∀ {x : Str} {c : Value} {np : Pos} {Q : Value → Shared → Prop} {E : Value → Shared → Prop}, Names X x c → Q c { s' with heap := h3 } → wpAny (model X.prog X.w) (X.A.mark (some (.ref a))) (eval (.Name x np) X.env) Q E { s' with heap := h3 } := fun {x c np Q E} hc q => by
      obtain ⟨hg, hdbg, hm⟩ := hc
      rcases hm with hm | ⟨hm, hv, hnn⟩
      · exact ld_glob (X := X.suite a ((a, oe3) :: (X.pn ++ pins))) S3 hg hm q hdbg
      · exact ld_blt (X := X.suite a ((a, oe3) :: (X.pn ++ pins))) S3 hg hm hv q hnn hdbg
    -- clause behind clause
    have go : ∀ {hds' : List ExceptHandler} {l' : List Cla}, ClasOk X hds' l' → wAll X.K Wout D l' cls d σ' H' → wpAny (model X.prog X.w) X.A (handleBy (.ref a) X.env hds') (SP X pins D) X.xe { s' with heap := h3 } := by
      intro hds' l' hk
      induction hk with
      | nil =>
        intro w
        refine wpAny_handleBy_nil ?_
        obtain ⟨k1, k2, k3, oe, vs, T, oT, ts', he, hz, hd, h1, hr⟩ := id fl3
        refine wpAny_bind (wpAny_field he hd h1 ?_)
        rw [if_neg (show ¬ ((Value.ref T == Value.none) = true) from by simp)]
        have fin : wpAny (model X.prog X.w) X.A (setFlight (.ref a) X.env.frame) (fun _ s4 => wpAny (model X.prog X.w) X.A (throw (.ref a) : Sem Flow) (SP X pins D) X.xe s4) X.xe { s' with heap := h3 } := by
          rw [hf]
          exact HandSPX.setFlight_upZ fl3 fun h4 hh4 up4 => wpAny_throw (tk _ _ ⟨a, B, sI, pins, σ', H', cls, d, rfl, J, nb, (up.trans up3).trans up4, .inr (.inr (by rw [hs]; exact hh4)), na, os, ag, w⟩)
        first
          | exact wpAny_bind (wpAny_pure (wpAny_bind fin))
          | exact wpAny_bind fin
      | @plain x c ts b₀ suite np pos' hds2 l2 hc hsu r ih =>
        rintro ⟨b, hb1, hyes, hno⟩
        refine wpAny_handleBy_cons (codeAny_handlers_test (test hc ((PySem.W.exm_one (M := model X.prog X.w) J3.kIn LT hb1).here ?_))) (by intro q; cases q)
        cases b with
        | false => exact ih (hno rfl)
        | true =>
          refine codeAny_handlers_suite (HandSPX.lands_againZ fl3 fun h4 fl4 up4 => ?_)
          have J4 : Inv X pins σ' H' { s' with heap := h4 } := J.landed nb fl4.1 ((up.trans up3).trans up4) os ag
          obtain ⟨oe4, vs4, he4, hz4, hd4⟩ := fl4.there
          have hot : HotC (X.suite a ((a, oe4) :: (X.pn ++ pins))) := ⟨(a, oe4), ⟨rfl, vs4, hd4, hz4.2.2 vs4 hd4⟩, List.mem_cons_self⟩
          refine wpAny_mono ((hsu a oe4 cls d (X.pn ++ pins) hz4 ⟨_, hd4⟩ hot).run [] _ _ H' _ (J4.suite he4 hd4 na nL nF) (hyes rfl a na)) (fun f s6 hsp => ?_) (fun _ _ z => False.elim z)
          match f, hsp with
          | .next, ⟨σ6, H6, S6, q6⟩ => exact ⟨_, _, S6.unsuite ok, q6⟩
          | .brk, ⟨σ6, H6, S6, q6⟩ => exact ⟨_, _, S6.unsuite ok, q6⟩
          | .cont, ⟨σ6, H6, S6, q6⟩ => exact ⟨_, _, S6.unsuite ok, q6⟩
          | .ret u, ⟨v6, σ6, H6, S6, r6, q6⟩ => exact ⟨_, _, _, S6.unsuite ok, r6, q6⟩
      | @named x n i c ts b₀ suite np pos' hds2 l2 hc hi hln hsu r ih =>
        rintro ⟨b, hb1, hyes, hno⟩
        refine wpAny_handleBy_cons (codeAny_handlers_test (test hc ((PySem.W.exm_one (M := model X.prog X.w) J3.kIn LT hb1).here ?_))) (by intro q; cases q)
        cases b with
        | false => exact ih (hno rfl)
        | true =>
          refine codeAny_handlers_suite_as (HandSPX.lands_againZ fl3 fun h4 fl4 up4 => ?_)
          have J4 : Inv X pins σ' H' { s' with heap := h4 } := J.landed nb fl4.1 ((up.trans up3).trans up4) os ag
          obtain ⟨oe4, vs4, he4, hz4, hd4⟩ := fl4.there
          have hot : HotC (X.suite a ((a, oe4) :: (X.pn ++ pins))) := ⟨(a, oe4), ⟨rfl, vs4, hd4, hz4.2.2 vs4 hd4⟩, List.mem_cons_self⟩
          refine store_ok (X := X.suite a ((a, oe4) :: (X.pn ++ pins))) (v := .ref a) (J4.suite he4 hd4 na nL nF) hN hi (.inl hln) rfl (fun s5 S5 => ?_) (.inr hln)
          refine wpAny_mono ((hsu a oe4 cls d (X.pn ++ pins) hz4 ⟨_, hd4⟩ hot).run [] s5 _ H' _ S5 (hyes rfl a na)) (fun f s6 hsp => ?_) (fun _ _ z => False.elim z)
          match f, hsp with
          | .next, ⟨σ6, H6, S6, q6⟩ => exact gone_ok (S6.unsuite ok) hN hi hln fun s7 J7 => ⟨_, _, J7, q6⟩
          | .brk, ⟨σ6, H6, S6, q6⟩ => exact gone_ok (S6.unsuite ok) hN hi hln fun s7 J7 => ⟨_, _, J7, q6⟩
          | .cont, ⟨σ6, H6, S6, q6⟩ => exact gone_ok (S6.unsuite ok) hN hi hln fun s7 J7 => ⟨_, _, J7, q6⟩
          | .ret u, ⟨v6, σ6, H6, S6, r6, q6⟩ => exact gone_ok (S6.unsuite ok) hN hi hln fun s7 J7 => ⟨_, _, _, J7, r6, q6⟩
    exact go hh w
  · match f, hsp with
    | .next, ⟨σ', H', J', q⟩ => exact wpAny_execs_nil ⟨σ', H', J'.ofTry ok, q⟩
    | .brk, ⟨σ', H', J', q⟩ => exact ⟨σ', H', J'.ofTry ok, q⟩
    | .cont, ⟨σ', H', J', q⟩ => exact ⟨σ', H', J'.ofTry ok, q⟩
    | .ret u, ⟨v, σ', H', J', r, q⟩ => exact ⟨v, σ', H', J'.ofTry ok, r, q⟩
end
end DX
set_option maxHeartbeats 4000000
/-! isinstance of a caught own error that has fields (the kit's rule is for one without). -/
namespace DX
open PySem PySem.Spec PySem.Calls PyProof.Rows L2
open PySem.W (Frag findIn subIn hasDictIn specialIn takesIn mroIn InstAt KitX looks_findIn looks_find looks_subIn class_get any_some clsIn)
section
variable {prog : Program} {w : World} {A : Around} {E : Value → Shared → Prop} {K : Frag} {x D : Addr} {ox o : Obj}
/-- e.__class__ of such an error -/
theorem class_of {Q : Option Value → Shared → Prop} (C : ExcC K D) {s : Shared} (X : K.In s.heap) (I : InstAt s.heap x ox D (some o)) (h : Q (some (.ref D)) { s with toks := s.toks + 1 }) : wpAny (model prog w) A (getAttr? (.ref x) "__class__") Q E s := by
  obtain ⟨hp, g, d, t, os⟩ := s
  have hf : PySem.W.findObj K D (some o) "__class__" = some (.bind (.builtin "getset_descriptor.__get__") (.builtin "object.__class__")) := PySem.W.findObj_data (by obtain ⟨cd, hc, _⟩ := any_some C.hd; rw [hc]; rfl) C.ha C.hn C.ht
  have Lt := I.type (M := model prog w)
  have Lg := looks_findIn (M := model prog w) X C.hg
  have Lh := looks_findIn (M := model prog w) X C.hk
  have Lf := looks_find (M := model prog w) X I hf
  have own : (Value.builtin "BaseException.__getattribute__" == Value.builtin "object.__getattribute__") = false := by decide +kernel
  unfold getAttr? getAttrBy? getAttrBy
  refine wpAny_bind (wpAny_mkText (wpAny_bind (wpAny_attempt (wpAny_holding (wpAny_bind (Lt.at (wpAny_bind (Lg.at ?_))))))))
  show wpAny _ _ (if (onTheHeap (Value.ref D) && Value.builtin "BaseException.__getattribute__" == Value.builtin "object.__getattribute__") = true then (_ : Sem Value) else _) _ _ _
  rw [if_neg (show ¬ ((onTheHeap (Value.ref D) && Value.builtin "BaseException.__getattribute__" == Value.builtin "object.__getattribute__") = true) from by rw [own]; exact Bool.false_ne_true)]
  unfold getAttrByItsOwn hookBefore
  refine wpAny_bind ?_
  rw [show onTheHeap (Value.ref D) = true from rfl, if_pos rfl]
  refine Lh.at (wpAny_bind (wpAny_attempt (wpAny_holding ?_)))
  unfold callGetattribute
  rw [if_neg (show ¬ ((false && onTheHeap (Value.builtin "BaseException.__getattribute__")) = true) from Bool.false_ne_true)]
  unfold boundAndCalled
  rw [PySem.F.excAttr_ValueError.ga.bind (.ref x)]
  refine wpAny_bind (wpAny_pure (wpAny_call (codeAny_call_builtin PySem.F.excAttr_ValueError.ga.plain PySem.F.entry_bexc_ga ?_)))
  refine @PySem.W.check_slot (model prog w) _ _ ⟨hp, g, d, t + 1, os⟩ "BaseException.__getattribute__" "BaseException" "__getattribute__" (.ref x) [.str "__class__" t] [] _ (by decide +kernel) (by decide +kernel) (Lt.andThen (looks_subIn X C.hs)) (PySem.F.args_bexc_ga (.ref x) (.str "__class__" t)) ?_
  unfold Builtin.«object.__getattribute__»
  refine wpAny_bind (wpAny_of_eq (a := ((Value.ref x : Value), [Value.str "__class__" t])) (by first | rfl | (simp only [slotArgs]; rfl)) (wpAny_bind (wpAny_pure (wpAny_bind (Lt.at (wpAny_bind (Lf.at ?_)))))))
  refine wpAny_bind (wpAny_holding (wpAny_call (class_get (s := ⟨hp, g, d, t + 1, os⟩) (ox := ox) (od := some o) X I C.hm (wpAny_pure ?_))))
  show wpAny _ _ (handedOut (.ref D)) _ _ _
  rw [PySem.W.handedOut_of (v := .ref D) rfl]
  first
    | exact wpAny_pure (wpAny_pure h)
    | exact wpAny_pure h
    | exact wpAny_pure (wpAny_bind (wpAny_pure (wpAny_pure h)))
theorem kit_err (C : ExcC K D) : KitX K (.ref x) (.ref D) (fun h => InstAt h x ox D (some o)) where
  ty := fun _ _ _ I => I.type
  it := fun _ _ X _ => by
    obtain ⟨cdD, hcD, _⟩ := any_some C.hd
    unfold clsIn at hcD
    split at hcD
    · rename_i c' d' cd' sl' ho
      intro A' Q' E' s' k q
      exact wpAny_bind (wpAny_loadPart (k _ _ (X _ _ ho)) (wpAny_pure q))
    · cases hcD
  ne := fun h tp dd its n sl X htp => by
    obtain ⟨cdD, hcD, _⟩ := any_some C.hd
    refine Bool.eq_false_iff.mpr fun q => ?_
    obtain rfl : D = tp := Value.ref.inj (beq_iff_eq.mp q)
    unfold clsIn at hcD
    split at hcD
    · rename_i c' d' cd' sl' ho
      cases (X _ _ ho).symm.trans htp
    · cases hcD
  ca := fun X I k => class_of C X I k
end
end DX
/-! The data layer: try with several clauses, their suites. -/
namespace DL
open PySem PySem.Spec PyProof.Rows L2 L2H
variable [B : Obs]
/-- the datum of a caught error: at a, of the class C, with its dict and its fields -/
def excD (a C : Addr) (dx : Option Addr) (fs : Flds) : D := match dx with
  | none => .ref a
  | some dd => .exc a C dd (fs.map (·.1)) (fs.map (·.2))
structure ClaD where
  c : Value
  i : Option Nat
  td : Addr → Value → Option Addr → TSd
def bindCd (i : Option Nat) (d : D) (δ : SD) : SD := match i with
  | none => δ
  | some j => δ.set j (some d)
def dropCd (i : Option Nat) (δ : SD) : SD := match i with
  | none => δ
  | some j => δ.set j none
def endCd (i : Option Nat) (D : EndsD) : EndsD := { nx := fun δ M => D.nx (dropCd i δ) M, rt := D.rt, bk := fun δ M => D.bk (dropCd i δ) M, ct := fun δ M => D.ct (dropCd i δ) M }
def wAllD (K : PySem.W.Frag) (E : EndsD) : List ClaD → Addr → Flds → SD → Md → Prop
  | [], C, fs, δ, M => E.xx C fs δ M
  | c :: r, C, fs, δ, M => ∃ b, PySem.W.exmOne K (.ref C) c.c = some b ∧ (b = true → ∀ a dx, (dx = none → fs = []) → c.td a (.ref C) dx (endCd c.i E) (bindCd c.i (excD a C dx fs) δ) M) ∧ (b = false → wAllD K E r C fs δ M)
/-- try: body, except ..: the clauses -/
def tTry (K : PySem.W.Frag) (td : TSd) (l : List ClaD) : TSd := fun E δ M => td { E with xx := wAllD K E l } δ M
section
variable {K : PySem.W.Frag} {F H : Hp} {M : Md}
theorem Rfs.split {vs : List (Str × V)} {fs : Flds} (h : Rfs K F vs fs) : vs = (fs.map (·.1)).zip (vs.map (·.2)) ∧ Rps K F (vs.map (·.2)) (fs.map (·.2)) := by
  induction vs generalizing fs with
  | nil =>
    cases h
    exact ⟨rfl, .nil⟩
  | cons p vs ih =>
    cases h with
    | cons h t =>
      obtain ⟨h1, h2⟩ := ih t
      refine ⟨?_, .cons h.2 h2⟩
      rw [List.map_cons, List.map_cons, List.zip_cons_cons, ← h1, ← h.1]
theorem Rl.xdput (l : Rl K F H M) {d : Addr} {vs : List (Str × V)} (hf : F d = none) (hh : H d = some (.xd vs)) : Rl K (upd F d (.xd vs)) H M ∧ Le F (upd F d (.xd vs)) := by
  obtain ⟨l2, g⟩ := l.froze hh hf
  have e : cut M d = M := by
    funext b
    unfold cut
    split
    · rename_i z
      subst z
      cases q : M b with
      | none => rfl
      | some c =>
        obtain ⟨_, r⟩ := l.cell b c q
        cases c with
        | lst _ =>
          obtain ⟨_, p, _⟩ := r
          rw [hh] at p
          cases p
        | ins _ _ =>
          obtain ⟨_, _, p, _⟩ := r
          rw [hh] at p
          cases p
        | dic _ =>
          obtain ⟨_, p, _⟩ := r
          rw [hh] at p
          cases p
        | dit _ =>
          obtain ⟨_, p, _⟩ := r
          rw [hh] at p
          cases p
    · rfl
  rw [e] at l2
  exact ⟨l2, g⟩
theorem exc_rel {a C : Addr} {dx : Option Addr} {fs : Flds} (l : Rl K F H M) (x : Xf K F H dx fs) : ∃ G, Le F G ∧ Rl K G H M ∧ Rp K G (.ref a) (excD a C dx fs) ∧ (dx = none → fs = []) := by
  rcases x with ⟨rfl, rfl⟩ | ⟨d, vs, rfl, hf, hh, r⟩
  · exact ⟨F, .rfl' F, l, .ref a, fun _ => rfl⟩
  · obtain ⟨l2, g⟩ := l.xdput hf hh
    obtain ⟨e1, e2⟩ := (Rfs.mono g r).split
    exact ⟨_, g, l2, .exc (by rw [upd_same]; exact congrArg (fun z => some (HO.xd z)) e1) e2, fun z => nomatch z⟩
def lowC (K : PySem.W.Frag) (c : ClaD) : DX.Cla := ⟨c.c, c.i, fun a cls d => lowS K W0 (c.td a cls d)⟩
theorem lt_try {W : WX} {Dd : EndsD} {E : Ends} (lt : LT K W F Dd E) (l : List ClaD) : LT K (DX.wAll K W E (l.map (lowC K))) F { Dd with xx := wAllD K Dd l } E := by
  refine ⟨lt.nx, lt.rt, lt.bk, lt.ct, fun {δ σ G} g s => ⟨fun {C fs M dx J H} g2 r x h0 => ?_⟩⟩
  have h : wAllD K Dd l C fs δ M := h0
  clear h0
  show DX.wAll K W E (l.map (lowC K)) (.ref C) dx σ H
  induction l with
  | nil => exact (lt.xx g s).go g2 r x h
  | cons c l ih =>
    obtain ⟨b, hb, hy, hn⟩ := h
    refine ⟨b, hb, fun e a ha => ?_, fun e => ih (hn e)⟩
    obtain ⟨J2, g3, r3, rp, hx⟩ := exc_rel (a := a) (C := C) r x
    have gg := g.then' (g2.then' g3)
    have sj : Sls K J2 (DX.bindC c.i a σ) (bindCd c.i (excD a C dx fs) δ) := by
      have s2 := s.mono (g2.then' g3)
      unfold DX.bindC bindCd
      cases c.i with
      | none => exact s2
      | some j => exact s2.put' rp j
    have dr : ∀ {G' : Hp} {σ' : L2.St} {δ' : SD}, Sls K G' σ' δ' → Sls K G' (DX.dropC c.i σ') (dropCd c.i δ') := fun {G' σ' δ'} q => by
      unfold DX.dropC dropCd
      cases c.i with
      | none => exact q
      | some j => exact Sls.set' (x := none) (y := none) trivial j q
    refine ⟨J2, _, M, endCd c.i Dd, r3, sj, ⟨⟨?_⟩, lt.rt.mono gg, ⟨?_⟩, ⟨?_⟩, fun _ _ => ⟨fun _ _ _ z => False.elim z⟩⟩, hy e a dx hx⟩
    · exact fun {δ' M' σ' G' H'} e1 e2 e3 q => lt.nx.go (gg.then' e1) e2 (dr e3) q
    · exact fun {δ' M' σ' G' H'} e1 e2 e3 q => lt.bk.go (gg.then' e1) e2 (dr e3) q
    · exact fun {δ' M' σ' G' H'} e1 e2 e3 q => lt.ct.go (gg.then' e1) e2 (dr e3) q
end
section
variable {X : Cx} {W : WX} {n : Nat} {body : List Stmt} {h₀ : ExceptHandler} {hds : List ExceptHandler} {l : List ClaD} {pos : Pos} {td : TSd}
abbrev SuOkD (X : Cx) (sts : List Stmt) (td : Addr → Value → Option Addr → TSd) : Prop := ∀ (a : Addr) (oe : Obj) (cls : Value) (d : Option Addr) (pn : List (Addr × Obj)), L2N.Zn cls d oe → (∃ vs, oe.data = .fields vs) → HotC (X.suite a ((a, oe) :: pn)) → PSsd (X.suite a ((a, oe) :: pn)) W0 sts (td a cls d)
inductive ClasD (X : Cx) : List ExceptHandler → List ClaD → Prop
  | nil : ClasD X [] []
  | plain {x : Str} {c : Value} {td : Addr → Value → Option Addr → TSd} {b₀ : Stmt} {suite : List Stmt} {np pos' : Pos} {hds : List ExceptHandler} {l : List ClaD} (hc : Names X x c) (hsu : SuOkD X (b₀ :: suite) td) (r : ClasD X hds l) :
      ClasD X (.ExceptHandler (some (.Name x np)) none (b₀ :: suite) pos' :: hds) (⟨c, none, td⟩ :: l)
  | named {x n : Str} {i : Nat} {c : Value} {td : Addr → Value → Option Addr → TSd} {b₀ : Stmt} {suite : List Stmt} {np pos' : Pos} {hds : List ExceptHandler} {l : List ClaD} (hc : Names X x c) (hi : X.N[i]? = some n) (hln : X.env.kindOf n = some .local) (hsu : SuOkD X (b₀ :: suite) td)
      (r : ClasD X hds l) : ClasD X (.ExceptHandler (some (.Name x np)) (some n) (b₀ :: suite) pos' :: hds) (⟨c, some i, td⟩ :: l)
theorem ClasD.low {hds : List ExceptHandler} {l : List ClaD} (h : ClasD X hds l) : DX.ClasOk X hds (l.map (lowC X.K)) := by
  induction h with
  | nil => exact .nil
  | plain hc hsu r ih => exact .plain hc (fun a oe cls d pn z f hot => hsu a oe cls d pn z f hot) ih
  | named hc hi hln hsu r ih => exact .named hc hi hln (fun a oe cls d pn z f hot => hsu a oe cls d pn z f hot) ih
theorem stry (c : Cd X W n) (hs : X.stack = X.env :: X.outer) (hf : X.env.frame = some X.env.locals)
    (hb : ∀ (W' : WX) (pn : List (Addr × Obj)) (xe : Value → Shared → Prop), Cd (X.tr pn xe) W' n → PSsd (X.tr pn xe) W' body td) (hh : ClasD X (h₀ :: hds) l) : PSd X W (.Try body (h₀ :: hds) [] [] pos) (tTry X.K td l) :=
  ps_imp (DX.ps_try_all (tb := fun W' => lowS X.K W' td) hs hf c.nd c.tk (fun W' pn xe tk hp => hb W' pn xe ⟨c.nd, c.calm, tk, hp, c.rm, c.gd⟩) hh.low) fun E σ H ⟨F, δ, M, Dd, l', s, lt, q⟩ =>
    ⟨F, δ, M, _, l', s, lt_try lt l, q⟩
end
/-! ### within a suite -/
section
variable {X : Cx} {a : Addr} {oe : Obj} {cls : Value} {d : Option Addr} {pn : List (Addr × Obj)} {W : WX} {e : Expr} {te : TEd} {pos p : Pos} {f : Str}
/-- e.f, e the caught error of a class that ok tells -/
def tXfd (ok : Addr → Prop) (a : Addr) (cls : Value) (d : Option Addr) (f : Str) (te : TEd) : TEd := fun Xd δ M Q => te Xd δ M fun x M1 => match x with
  | .exc b C dd ns ds => b = a ∧ cls = .ref C ∧ ok C ∧ d = some dd ∧ ∃ v, (ns.zip ds).lookup f = some v ∧ Q v M1
  | _ => False
theorem zip_at {K : PySem.W.Frag} {F : Hp} {f : Str} {v : D} : ∀ {ns : List Str} {vs : List V} {ds : List D}, Rps K F vs ds → (ns.zip ds).lookup f = some v → ∃ u, (ns.zip vs).lookup f = some u ∧ Rp K F u v
  | [], _, _, _, h => by cases h
  | n :: ns, [], _, .nil, h => by cases h
  | n :: ns, w :: vs, e :: ds, .cons r t, h => by
    rw [List.zip_cons_cons, List.lookup_cons] at h ⊢
    cases q : (f == n) with
    | true =>
      rw [q] at h
      cases h
      exact ⟨w, rfl, r⟩
    | false =>
      rw [q] at h
      exact zip_at t h
theorem pexf {ok : Addr → Prop} (T : ∀ C, ok C → XfC X.K C ∧ PySem.W.findIn X.K (.ref C) f = some none) (hz : L2N.Zn cls d oe) (hf : ∃ vs, oe.data = .fields vs) (he : PEd (X.suite a ((a, oe) :: pn)) W e te) (hb : attributeBase e f X.env (eval e X.env) = eval e X.env := by rfl) :
    PEd (X.suite a ((a, oe) :: pn)) W (.Attribute e f pos) (tXfd ok a cls d f te) := by
  by_cases hC : ∃ C, cls = .ref C ∧ ok C
  · obtain ⟨C, rfl, k⟩ := hC
    refine pe_imp (pe_xf (T C k).1 (T C k).2 hz.zc hf he hb) fun σ H Q ⟨F, δ, M, Qd, Xd, l, s, kq, kx, q⟩ => low_then l s kx q ⟨fun {x M1 v G H1} g l1 r1 h1 => ?_⟩
    cases r1 with
    | exc hx rs =>
      obtain ⟨rfl, ec, _, ed, u, hu, h1⟩ := h1
      obtain ⟨w, hw, rw_⟩ := zip_at rs hu
      cases ec
      exact ⟨rfl, rfl, _, _, w, ed, l1.sub.of hx, hw, kq.go g l1 rw_ h1⟩
    | _ => exact h1.elim
  · refine ⟨fun pins s σ H Q I ⟨F, δ, M, Qd, Xd, l, s', kq, kx, q⟩ => attr_of hb (thn (he.run pins s σ H (fun _ _ => False) I (low_then l s' kx q ⟨fun {x M1 v G H1} g l1 r1 h1 => ?_⟩)) fun _ _ ⟨_, _, _, _, z⟩ => z.elim)⟩
    cases r1 with
    | exc hx rs => exact hC ⟨_, h1.2.1, h1.2.2.1⟩
    | _ => exact h1.elim
/-- isinstance(e, c), e the caught error -/
def clsD : D → Option Value
  | .ref C => some (.ref C)
  | .ty n => some (.type n)
  | _ => none
theorem clsD_eq {K : PySem.W.Frag} {F : Hp} {v : V} {x : D} {c : Value} (r : Rp K F v x) (h : clsD x = some c) : ∀ u, RelV v u → u = c := by
  cases r with
  | ref C =>
    cases h
    exact fun u k => k
  | ty n =>
    cases h
    exact fun u k => k
  | _ => cases h
def tIsE (K : PySem.W.Frag) (ok : Addr → Prop) (a : Addr) (cls : Value) (d : Option Addr) (ta : TAd) : TEd := fun Xd δ M Q => ta Xd δ M fun ds M1 => match ds with
  | [.exc b C dd _ _, y] => b = a ∧ cls = .ref C ∧ ok C ∧ d = some dd ∧ ∃ cv b, clsD y = some cv ∧ PySem.W.kitOne K (.ref C) cv = some b ∧ Q (.bl b) M1
  | _ => False
theorem call_isX {C dd : Addr} (T : ExcC X.K C) (hz : Zc (.ref C) (some dd) oe) (hf : ∃ vs, oe.data = .fields vs) : CallR (X.suite a ((a, oe) :: pn)) (.builtin "isinstance")
    (fun xs H Q => ∃ (c : V) (cv : Value) (b : Bool) (fs : List (Str × V)), xs = [.ref a, c] ∧ H dd = some (.xd fs) ∧ (∀ u, RelV c u → u = cv) ∧ PySem.W.kitOne X.K (.ref C) cv = some b ∧ Q (.bl b) H) := by
  rintro pins s σ H xs us Q I r ⟨c, cv, b, fs, rfl, hx, hcv, hk, q⟩
  obtain ⟨u1, u2, rfl, r1, r2⟩ := vals2 r
  cases r1
  obtain rfl := hcv _ r2
  obtain ⟨hget, _⟩ := I.pin (a, oe) (List.mem_append.mpr (.inl List.mem_cons_self))
  obtain ⟨vs, hv⟩ := hf
  obtain ⟨mA, hns, _⟩ := (show ObjOk X.prog X.w H s.heap dd (.xd fs) from I.hok dd _ hx)
  obtain ⟨od, ho, _⟩ := lookIn_ns hns
  have J : PySem.W.InstAt s.heap a oe C (some od) := ⟨hget, hz.1, by unfold PySem.W.notCls; rw [hv] <;> rfl, by rw [hz.2]; exact ho⟩
  exact PySem.W.kia_one (DX.kit_err (x := a) T) I.kIn J hk (fun z => nomatch z) fun tk => ⟨.bl b, H, I.kept (t' := tk) fun _ _ z => z, rfl, q⟩
theorem pisX {ok : Addr → Prop} {es : List Expr} {tes : TAd} {p : Pos} (T : ∀ C, ok C → ExcC X.K C) (hz : L2N.Zn cls d oe) (hf : ∃ vs, oe.data = .fields vs) (hg : Gl X "isinstance") (hm : X.mg "isinstance" = none) (ha : PAd (X.suite a ((a, oe) :: pn)) W (e :: es) tes)
    (he : starEach (e :: es) X.env = (false, eval e X.env) :: starEach es X.env := by rfl) (hpl : (backTo pos (starEach es X.env)).any (·.1) = false := by rfl) : PEd (X.suite a ((a, oe) :: pn)) W (.Call (.Name "isinstance" p) (e :: es) [] pos) (tIsE X.K ok a cls d tes) := by
  by_cases hC : ∃ C dd, cls = .ref C ∧ ok C ∧ d = some dd
  · obtain ⟨C, dd, rfl, k, rfl⟩ := hC
    refine pe_imp (pe_callB (X := X.suite a ((a, oe) :: pn)) (call_isX (T C k) hz.zc hf) hg hm (by rfl) ha (by decide) (by decide) he hpl) fun σ H Q ⟨F, δ, M, Qd, Xd, l, s, kq, kx, q⟩ => lowA_then l s kx q ⟨fun {ds M1 vs G H1} g l1 r1 h1 => ?_⟩
    match ds, vs, r1, h1 with
    | [.exc b C' dd' ns es, y], [v, w], .cons r (.cons r2 .nil), ⟨e1, e2, _, e3, cv, bb, hc, hk, qq⟩ =>
      cases r with
      | exc hx rs =>
        subst e1
        cases e2
        cases e3
        exact ⟨w, cv, bb, _, rfl, l1.sub.of hx, clsD_eq r2 hc, hk, kq.go g l1 (.bl bb) qq⟩
  · refine pe_imp (pe_callB (X := X.suite a ((a, oe) :: pn)) (r := fun _ _ _ => False) (fun _ _ _ _ _ _ _ _ _ z => z.elim) hg hm (by rfl) ha (by decide) (by decide) he hpl) fun σ H Q ⟨F, δ, M, Qd, Xd, l, s, kq, kx, q⟩ => lowA_then l s kx q ⟨fun {ds M1 vs G H1} g l1 r1 h1 => ?_⟩
    match ds, vs, r1, h1 with
    | [.exc b C' dd' ns es, y], [v, w], .cons r (.cons r2 .nil), ⟨e1, e2, k, e3, _⟩ => exact hC ⟨_, _, e2, k, e3⟩
/-- a def called there -/
abbrev FnHD (P : Program) (w : World) (K : PySem.W.Frag) (mg : Str → Option Value) (base : Heap) (k : Nat) (f : Addr) (fd : FuncData) (ps : List Str) (sp : SpD) : Prop := FnH P w K mg base (L2N.CX P w) k f fd ps (toSp K sp)
theorem pfnH {X : Cx} {k : Nat} {f : Addr} {fd : FuncData} {ps : List Str} {spd : SpD} {x : Str} {es : List Expr} {tes : TAd} {p : Pos} (F : FnHD X.prog X.w X.K X.mg X.base k f fd ps spd) (hr : RoomH k X.A) (hc : HotC X) (hg : Gl X x) (hm : X.mg x = some (.ref f)) (hk : PySem.W.keepIn X.K (.ref f) = true) (hb : Binds X.K fd ps [])
    (ha : PAd X W0 (e :: es) tes) (hdb : (x == ("__debug__" : Str)) = false := by decide) (he : starEach (e :: es) X.env = (false, eval e X.env) :: starEach es X.env := by rfl) (hpl : (backTo pos (starEach es X.env)).any (·.1) = false := by rfl) :
    PEd X W0 (.Call (.Name x p) (e :: es) [] pos) (tFn spd [] tes) := pe_imp (pe_callH (E := fun _ _ _ _ => False) F hr hc hg hm hk hb (fun σ => fun _ _ _ _ _ _ ⟨_, _, _, _, _, _, _, _, _, _, _, _, z⟩ => z.elim) ha hdb he hpl) fun σ H Q ⟨F, δ, M, Qd, Xd, l, s, kq, kx, h⟩ => lowA_then l s kx h ⟨fun {ds M1 vs G H1} g l1 r1 h1 => by
      rw [List.append_nil] at h1
      exact ⟨G, M1, ds, Qd, Xd, l1, r1, kq.mono g, kx.mono g, h1⟩⟩
end
/-- a def by its body, within a suite -/
theorem fn_dataH {P : Program} {w : World} {K : PySem.W.Frag} {mg : Str → Option Value} {base : Heap} {k : Nat} {f : Addr} {fd : FuncData} {name qual : Str} {params : Arguments} {body : List Stmt} {scope : Scope} {dvs : List V} {kws : List (Str × V)} {N ps : List Str} {spd : SpD} {td : TSd}
    (F : FunD K name qual params body scope dvs kws f fd) (S : FnScope N ps scope) (len : ∀ {ds M Qd Xd}, spd ds M Qd Xd → ds.length = ps.length)
    (hbody : ∀ (cdv : Value) (A : Around) (outer : List Env) (s : Shared) (H : Hp) (E : XK) (p : Addr × Obj), HotC (cxH (L2N.CX P w) P w K mg base N qual scope f cdv A outer s H E p) → RoomH k (A.deeper (envOfC qual scope s.heap.objs.size f cdv)) →
      PSsd (cxH (L2N.CX P w) P w K mg base N qual scope f cdv A outer s H E p) W0 body td)
    (pure_ : ∀ {ds M Qd Xd}, spd ds M Qd Xd → td (outD Qd X0) (startD N ds) M) : FnHD P w K mg base (k + 1) f fd ps spd := by
  obtain ⟨oc, od, dV, kV, doc, pm, an, cdv, ct, osl, rfl, lk, hcd, _, _⟩ := F.ex
  refine fn_ofH lk hcd S (fun vs H Q E ⟨G, M, ds, Qd, Xd, l, r, kq, kx, q⟩ => by rw [r.len]; exact len q) fun A outer s H vs Q E p hot hr ⟨G, M, ds, Qd, Xd, l, r, kq, kx, q⟩ => ?_
  refine ⟨_, hbody cdv A outer s H E p ⟨p, ⟨hot.1, hot.2⟩, List.mem_singleton.mpr rfl⟩ hr, G, startD N ds, M, outD Qd X0, l, start_rel r, ?_, pure_ q⟩
  have lt := lt_out (E := fun _ _ _ => False) kq (kx0 (K := K) (F := G))
  exact ⟨lt.nx, lt.rt, lt.bk, lt.ct, fun g s => lt.xx g s⟩
end DL
/-! The data layer: own classes: fields, methods, making. -/
namespace DL
open PySem PySem.Spec PyProof.Rows L2
variable [B : Obs]
section
variable {X : Cx} {W : WX} {K : PySem.W.Frag} {F H : Hp} {M : Md} {v : V} {d : D} {x m f : Str} {o e a b : Expr} {es : List Expr} {pos p p2 pos' apos : Pos} {tes : TAd} {te to ta tb : TEd} {n k : Nat} {C g : Addr} {fd : FuncData} {ps : List Str} {spd : SpD}
/-! ### an object's fields -/
structure OKF (K : PySem.W.Frag) (C : Addr) (f : Str) : Prop where
  c : Cls K C
  n : NoAttr K C f
/-- the class and the fields of an object -/
def fldsD (M : Md) : D → Option (Addr × Flds)
  | .ins C ns ds => some (C, ns.zip ds)
  | .ref a => match M a with
    | some (.ins C fs) => some (C, fs)
    | _ => none
  | _ => none
theorem zip_none {f : Str} : ∀ {ns : List Str} {vs : List V} {ds : List D}, Rps K F vs ds → (ns.zip ds).lookup f = none → (ns.zip vs).lookup f = none
  | [], _, _, _, _ => rfl
  | n :: ns, [], _, .nil, _ => rfl
  | n :: ns, w :: vs, e :: ds, .cons r t, h => by
    rw [List.zip_cons_cons, List.lookup_cons] at h ⊢
    cases q : (f == n) with
    | true =>
      rw [q] at h
      cases h
    | false =>
      rw [q] at h
      exact zip_none t h
theorem zip_paired : ∀ {ns : List Str} {vs : List V} {ds : List D}, Rps K F vs ds → Rfs K F (ns.zip vs) (ns.zip ds)
  | [], _, _, _ => .nil
  | n :: ns, [], _, .nil => .nil
  | n :: ns, w :: vs, e :: ds, .cons r t => .cons ⟨rfl, r⟩ (zip_paired t)
theorem flds_ok (l : Rl K F H M) (r : Rp K F v d) {C : Addr} {fs : Flds} (h : fldsD M d = some (C, fs)) : ∃ a dx vs, v = .ref a ∧ H a = some (.ins C dx vs) ∧ Rfs K F vs fs := by
  cases r with
  | ins p q =>
    cases h
    exact ⟨_, _, _, rfl, l.sub.of p, zip_paired q⟩
  | ref a =>
    have h' : (match M a with
      | some (MC.ins C fs) => some (C, fs)
      | _ => Option.none) = some (C, fs) := h
    cases e : M a with
    | none =>
      rw [e] at h'
      cases h'
    | some c =>
      rw [e] at h'
      cases c with
      | ins D' gs =>
        cases h'
        obtain ⟨_, dx, vs, p, q⟩ := l.cell a _ e
        exact ⟨a, dx, vs, rfl, p, q⟩
      | _ => cases h'
  | _ => cases h
theorem Rfs.look {vs : List (Str × V)} {fs : Flds} (h : Rfs K F vs fs) {f : Str} {u : D} (e : fs.lookup f = some u) : ∃ w, vs.lookup f = some w ∧ Rp K F w u := by
  induction vs generalizing fs with
  | nil =>
    cases h
    cases e
  | cons q vs ih =>
    cases h with
    | @cons _ y _ _ h t =>
      obtain ⟨n1, w1⟩ := q
      obtain ⟨n2, w2⟩ := y
      obtain ⟨e1, e2⟩ := h
      cases (show n1 = n2 from e1)
      rw [List.lookup_cons] at e ⊢
      cases z : (f == n1) with
      | true =>
        rw [z] at e
        cases e
        exact ⟨w1, rfl, e2⟩
      | false =>
        rw [z] at e
        exact ih t e
theorem Rfs.look0 {vs : List (Str × V)} {fs : Flds} (h : Rfs K F vs fs) {f : Str} (e : fs.lookup f = none) : vs.lookup f = none := by
  induction vs generalizing fs with
  | nil => rfl
  | cons q vs ih =>
    cases h with
    | @cons _ y _ _ h t =>
      obtain ⟨n1, w1⟩ := q
      obtain ⟨n2, w2⟩ := y
      obtain ⟨e1, e2⟩ := h
      cases (show n1 = n2 from e1)
      rw [List.lookup_cons] at e ⊢
      cases z : (f == n1) with
      | true =>
        rw [z] at e
        cases e
      | false =>
        rw [z] at e
        exact ih t e
/-- e.f -/
def tFd (K : PySem.W.Frag) (f : Str) (te : TEd) : TEd := fun Xd δ M Q => te Xd δ M fun d M1 => optP (fldsD M1 d) fun cf => OKF K cf.1 f ∧ optP (cf.2.lookup f) fun u => Q u M1
theorem pfld (he : PEd X W e te) (hb : attributeBase e f X.env (eval e X.env) = eval e X.env := by rfl) : PEd X W (.Attribute e f pos) (tFd X.K f te) := pe_imp (pe_fld he hb) fun σ H Q ⟨F, δ, M, Qd, Xd, l, s, k, kx, q⟩ =>
  low_then l s kx q ⟨fun {d M1 v G H1} g1 l1 r1 q => by
    obtain ⟨⟨C, fs⟩, h, ok, q⟩ := optP_out q
    obtain ⟨u, lk, q1⟩ := optP_out q
    obtain ⟨a, dx, vs, rfl, ha, r2⟩ := flds_ok l1 r1 h
    obtain ⟨w, hw, rw_⟩ := r2.look lk
    exact ⟨a, C, dx, vs, w, rfl, ha, ok.c, ok.n, hw, k.go g1 l1 rw_ q1⟩⟩
/-- o.f = e, o a cell -/
def putD (f : Str) (y : D) : Flds → Flds
  | [] => [(f, y)]
  | (g, z) :: r => if g = f then (g, y) :: r else (g, z) :: putD f y r
theorem putF_rel {vs : List (Str × V)} {fs : Flds} (h : Rfs K F vs fs) {y : V} {u : D} (r : Rp K F y u) : Rfs K F (putF f y vs) (putD f u fs) := by
  induction vs generalizing fs with
  | nil =>
    cases h
    exact .cons ⟨rfl, r⟩ .nil
  | cons q vs ih =>
    cases h with
    | @cons _ z _ _ h t =>
      obtain ⟨n1, w1⟩ := q
      obtain ⟨n2, w2⟩ := z
      obtain ⟨e1, e2⟩ := h
      cases (show n1 = n2 from e1)
      unfold putF putD
      by_cases c : n1 = f
      · rw [if_pos c, if_pos c]
        exact .cons ⟨rfl, r⟩ t
      · rw [if_neg c, if_neg c]
        exact .cons ⟨rfl, e2⟩ (ih t)
def tSf (K : PySem.W.Frag) (f : Str) (to te : TEd) : TSd := fun E δ M => te (E.xk δ) δ M fun y M1 => to (E.xk δ) δ M1 fun d M2 => match d with
  | .ref a => match M2 a with
    | some (.ins C fs) => OKF K C f ∧ fs.length < 1000 ∧ E.nx δ (put M2 a (.ins C (putD f y fs)))
    | _ => False
  | _ => False
theorem sfld (ho : PEd X W o to) (he : PEd X W e te) (hs : swapsWith e (some (.Attribute o f pos')) pos.line X.env = pure false := by rfl) : PSd X W (.Assign [.Attribute o f pos'] e pos) (tSf X.K f to te) := ps_imp (ps_fld ho he hs) fun E σ H ⟨F, δ, M, Dd, l, s, lt, q⟩ =>
  low_then l s (lt.xx (.rfl' F) s) q ⟨fun {y M1 v1 G1 H1} g1 l1 r1 q1 => low_then l1 (s.mono g1) (lt.xx g1 (s.mono g1)) q1 ⟨fun {d M2 v2 G2 H2} g2 l2 r2 q2 => by
    cases r2 with
    | ref a =>
      have q2 : (match M2 a with
          | some (MC.ins C fs) => OKF X.K C f ∧ fs.length < 1000 ∧ Dd.nx δ (put M2 a (.ins C (putD f y fs)))
          | _ => False) := q2
      split at q2
      case h_2 => exact q2.elim
      rename_i C fs h
      obtain ⟨ok, hz, q⟩ := q2
      obtain ⟨hf, dx, vs, hh, rr⟩ := l2.cell a _ h
      refine ⟨a, C, dx, vs, rfl, hh, ok.c, ok.n, ?_, ?_⟩
      · have e : vs.length = fs.length := Paired.length rr
        omega
      · exact lt.nx.go (g1.then' g2) (l2.cellput (u := .ins C dx (putF f v1 vs)) (c := .ins C (putD f y fs)) hf ⟨dx, _, upd_same, putF_rel rr (r1.mono g2)⟩) (s.mono (g1.then' g2)) q
    | _ => exact q2.elim⟩⟩
/-! ### methods -/
/-- what a method's call asks of the object -/
def objD (M : Md) (C : Addr) (m : Str) (d : D) : Prop := ∃ fs, fldsD M d = some (C, fs) ∧ fs.lookup m = none
def tMh (C : Addr) (m : Str) (sp : SpD) (dds : List D) (to : TEd) (tes : TAd) : TEd := fun Xd δ M Q => to Xd δ M fun d M1 => objD M1 C m d ∧ tes Xd δ M1 fun ds M2 => sp (d :: (ds ++ dds)) M2 Q Xd
theorem pmethD {ds : List Value} {dvs : List V} {dds : List D} {pl : Sem Bool} (c : Cd X W n) (F : FnD X.prog X.w X.K X.mg X.base k g fd ps spd) (hk : k ≤ n) (cl : Cls X.K C) (hm : Meth X.K C m g) (hb : Binds X.K fd ps ds) (hd : Vals dvs ds) (hq : ∀ F, Rps X.K F dvs dds) (ho : PEd X W o to) (ha : PAd X W (e :: es) tes)
    (hst : starEach (e :: es) X.env = (false, eval e X.env) :: starEach es X.env := by rfl) (hpl : (backTo pos (starEach es X.env)).any (·.1) = false := by rfl)
    (ht : eval (.Call (.Attribute o m apos) (e :: es) [] pos) X.env = (do let ov ← eval o X.env; standAt apos.atName; let (f, first) ← holding [ov] (getMethod ov m pl); callWith pos f first (backTo pos (starEach (e :: es) X.env)) (backToKw pos (keywordEach [] X.env))) := by rfl) :
    PEd X W (.Call (.Attribute o m apos) (e :: es) [] pos) (tMh C m spd dds to tes) := ⟨fun pins s σ H Q I ⟨F0, δ, M, Qd, Xd, l, sl, kq, kx, q⟩ => by
  refine PySem.W.methodCall_KW (pl := pl) (thn (ho.run pins s σ H (fun x H1 => ∃ a dx fs, x = .ref a ∧ H1 a = some (.ins C dx fs) ∧ fs.lookup m = none ∧ lowA X.K W tes σ H1 fun vs H2 => toSp X.K spd (x :: (vs ++ dvs)) H2 Q (WE W σ)) I
    (low_then l sl kx q ⟨fun {d M1 v G H1} g1 l1 r1 ⟨⟨fs, h, hl⟩, q1⟩ => ?_⟩)) fun u s1 ⟨x, H1, I1, rx, a, dx, fs, ex, ea, hl, q⟩ => ?_) ht
  · obtain ⟨a, dx, vs, rfl, ha, r2⟩ := flds_ok l1 r1 h
    exact ⟨a, dx, vs, rfl, ha, r2.look0 hl, lowA_then l1 (sl.mono g1) (kx.mono g1) q1 ⟨fun {ds2 M2 vs2 G2 H2} g2 l2 rs q2 => ⟨G2, M2, _, Qd, Xd, l2, .cons (r1.mono g2) (rs.app (hq G2)), kq.mono (g1.then' g2), kx.mono (g1.then' g2), q2⟩⟩⟩
  · subst ex
    obtain rfl : u = Value.ref a := rx
    refine getmeth_ok I1 ea cl hm hl (PySem.W.callWith_K (first := [.ref a]) (h₀ := X.base) I.ok.mod.kin hm.kp (thn (ha.run pos pins s1 σ H1 _ I1 q) fun us s2 ⟨vs, H2, I2, r, q2⟩ => ⟨I2.kIn, ?_⟩) hst hpl)
    exact goes_fn (us := .ref a :: us) (vs := .ref a :: vs) c F hk hb hd I2 (.cons rfl r) q2⟩
theorem pmeth {pl : Sem Bool} (c : Cd X W n) (F : FnD X.prog X.w X.K X.mg X.base k g fd ps spd) (hk : k ≤ n) (cl : Cls X.K C) (hm : Meth X.K C m g) (hb : Binds X.K fd ps []) (ho : PEd X W o to) (ha : PAd X W (e :: es) tes)
    (hst : starEach (e :: es) X.env = (false, eval e X.env) :: starEach es X.env := by rfl) (hpl : (backTo pos (starEach es X.env)).any (·.1) = false := by rfl)
    (ht : eval (.Call (.Attribute o m apos) (e :: es) [] pos) X.env = (do let ov ← eval o X.env; standAt apos.atName; let (f, first) ← holding [ov] (getMethod ov m pl); callWith pos f first (backTo pos (starEach (e :: es) X.env)) (backToKw pos (keywordEach [] X.env))) := by rfl) :
    PEd X W (.Call (.Attribute o m apos) (e :: es) [] pos) (tMh C m spd [] to tes) := pmethD c F hk cl hm hb .nil (fun _ => .nil) ho ha hst hpl ht
theorem pmeth0 {pl : Sem Bool} (c : Cd X W n) (F : FnD X.prog X.w X.K X.mg X.base k g fd ps spd) (hk : k ≤ n) (cl : Cls X.K C) (hm : Meth X.K C m g) (hb : Binds X.K fd ps []) (ho : PEd X W o to)
    (ht : eval (.Call (.Attribute o m apos) [] [] pos) X.env = (do let ov ← eval o X.env; standAt apos.atName; let (f, first) ← holding [ov] (getMethod ov m pl); callWith pos f first (backTo pos (starEach [] X.env)) (backToKw pos (keywordEach [] X.env))) := by rfl) :
    PEd X W (.Call (.Attribute o m apos) [] [] pos) (tMh C m spd [] to tN0) := ⟨fun pins s σ H Q I ⟨F0, δ, M, Qd, Xd, l, sl, kq, kx, q⟩ => by
  refine PySem.W.methodCall_KW (pl := pl) (thn (ho.run pins s σ H (fun x H1 => ∃ a dx fs, x = .ref a ∧ H1 a = some (.ins C dx fs) ∧ fs.lookup m = none ∧ toSp X.K spd [x] H1 Q (WE W σ)) I
    (low_then l sl kx q ⟨fun {d M1 v G H1} g1 l1 r1 ⟨⟨fs, h, hl⟩, q1⟩ => ?_⟩)) fun u s1 ⟨x, H1, I1, rx, a, dx, fs, ex, ea, hl, q⟩ => ?_) ht
  · obtain ⟨a, dx, vs, rfl, ha, r2⟩ := flds_ok l1 r1 h
    exact ⟨a, dx, vs, rfl, ha, r2.look0 hl, G, M1, _, Qd, Xd, l1, .cons r1 .nil, kq.mono g1, kx.mono g1, q1⟩
  · subst ex
    obtain rfl : u = Value.ref a := rx
    exact getmeth_ok I1 ea cl hm hl (PySem.W.callWith_K0 (first := [.ref a]) I1.kIn hm.kp (goes_fn (us := [.ref a]) (vs := [.ref a]) c F hk hb .nil I1 (.cons rfl .nil) q))⟩
/-! ### making an instance; what is made may be told otherwise: as one that never changes -/
def tMk (C : Addr) (sp : SpD) (dds : List D) (tes : TAd) : TEd := fun Xd δ M Q => tes Xd δ M fun ds M1 => ∀ a, M1 a = none → sp (.ref a :: (ds ++ dds)) (put M1 a (.ins C [])) (fun d M2 => d = .non ∧ ∃ M3 d3, Fin M2 (.ref a) M3 d3 ∧ Q d3 M3) Xd
theorem make_run {pins : List (Addr × Obj)} {σ : L2.St} {H : Hp} {s : Shared} {Q : VK} {us ds : List Value} {vs dvs : List V} {sp : Sp} (c : Cd X W n) (Mk_ : Mk X.K C g) (F : FnG X.prog X.w X.K X.mg X.base k g fd ps sp) (hk : k + 1 ≤ n) (hb : Binds X.K fd ps ds) (hd : Vals dvs ds) (I : Inv X pins σ H s) (r : Vals vs us)
    (h : ∀ x dx, H x = none → H dx = none → dx ≠ x → sp (.ref x :: (vs ++ dvs)) (upd (upd H dx (.own x)) x (.ins C dx [])) (fun v H2 => v = .non ∧ Q (.ref x) H2) (WE W σ)) : wpAny (model X.prog X.w) X.A (call (.ref C) us) (EP X pins σ Q) X.xe s := by
  have hq := h (s.heap.objs.size + 1) s.heap.objs.size (I.hok.fresh (Nat.le_succ _)) (I.hok.fresh (Nat.le_refl _)) (Nat.ne_of_lt (Nat.lt_succ_self _))
  have I2 := Inv.made (C := C) I
  have r2 : Vals (V.ref (s.heap.objs.size + 1) :: (vs ++ dvs)) (Value.ref (s.heap.objs.size + 1) :: (us ++ ds)) := .cons rfl (r.append hd)
  have len : (Value.ref (s.heap.objs.size + 1) :: us ++ ds).length = ps.length := r2.length.symm.trans (F.many hq)
  refine wpAny_call (make_map (f := g) I.kIn Mk_.makes Mk_.init (beq_iff_eq.mp Mk_.fn) (codeAny_mono (F.goes ((c.rm.mono hk).make C us []) (guards_make c.gd) (I2.env0.make C us []) (hb _ (Value.ref (s.heap.objs.size + 1) :: us) I2.kIn len) r2 hq) fun r s' hq' => ?_))
  match r, hq' with
  | .error e, hq' => exact L2N.passAt c.tk σ pins _ _ e s' I2 hq'
  | .ok (.ret u), hq' =>
    obtain ⟨v, H', I3, rv, ev, q3⟩ := I2.after hq'
    subst ev
    exact ⟨rv, ⟨V.ref (s.heap.objs.size + 1), H', I3, rfl, q3⟩⟩
  | .ok .next, hq' => exact hq'.elim
  | .ok .brk, hq' => exact hq'.elim
  | .ok .cont, hq' => exact hq'.elim
theorem pmakeD {ds : List Value} {dvs : List V} {dds : List D} (c : Cd X W n) (Mk_ : Mk X.K C g) (F : FnD X.prog X.w X.K X.mg X.base k g fd ps spd) (hk : k + 1 ≤ n) (hg : Gl X x) (hm : X.mg x = some (.ref C)) (hb : Binds X.K fd ps ds) (hd : Vals dvs ds) (hq : ∀ F, Rps X.K F dvs dds) (ha : PAd X W (e :: es) tes)
    (hdb : (x == ("__debug__" : Str)) = false := by decide) (he : starEach (e :: es) X.env = (false, eval e X.env) :: starEach es X.env := by rfl) (hpl : (backTo pos (starEach es X.env)).any (·.1) = false := by rfl) : PEd X W (.Call (.Name x p) (e :: es) [] pos) (tMk C spd dds tes) :=
  ⟨fun pins s σ H Q I ⟨F0, δ, M, Qd, Xd, l, sl, kq, kx, q⟩ => wpAny_Call_Name_kw (ld_glob I hg hm (PySem.W.callWith_K (h₀ := X.base) I.ok.mod.kin Mk_.kp (thn (ha.run pos pins s σ H (fun vs H1 => ∀ x dx, H1 x = none → H1 dx = none → dx ≠ x → toSp X.K spd (.ref x :: (vs ++ dvs)) (upd (upd H1 dx (.own x)) x (.ins C dx [])) (fun v H2 => v = .non ∧ Q (.ref x) H2) (WE W σ)) I
    (lowA_then l sl kx q ⟨fun {ds2 M1 vs G H1} g1 l1 r1 q1 => fun x dx hx hdx hne => by
      obtain ⟨n1, n2⟩ := l1.free hx
      have l2 := (l1.lost hdx (.own x)).cellput (p := x) (u := .ins C dx []) (c := .ins C []) n1 ⟨dx, [], upd_same, .nil⟩
      exact ⟨G, _, _, _, Xd, l2, .cons (.ref x) (r1.app (hq G)), ⟨fun {d M2 v G2 H2} g2 l3 r3 ⟨e3, M3, d3, f3, q3⟩ => by
        subst e3
        cases r3
        obtain ⟨J, j, l4, r4⟩ := f3.go l3 (.ref x)
        exact ⟨rfl, kq.go (g1.then' (g2.then' j)) l4 r4 q3⟩⟩, kx.mono g1, q1 x n2⟩⟩)) fun us s1 ⟨vs, H1, I1, r, q⟩ => ⟨I1.kIn, make_run c Mk_ F hk hb hd I1 r q⟩) he hpl) hdb)⟩
theorem pmake (c : Cd X W n) (Mk_ : Mk X.K C g) (F : FnD X.prog X.w X.K X.mg X.base k g fd ps spd) (hk : k + 1 ≤ n) (hg : Gl X x) (hm : X.mg x = some (.ref C)) (hb : Binds X.K fd ps []) (ha : PAd X W (e :: es) tes)
    (hdb : (x == ("__debug__" : Str)) = false := by decide) (he : starEach (e :: es) X.env = (false, eval e X.env) :: starEach es X.env := by rfl) (hpl : (backTo pos (starEach es X.env)).any (·.1) = false := by rfl) : PEd X W (.Call (.Name x p) (e :: es) [] pos) (tMk C spd [] tes) :=
  pmakeD c Mk_ F hk hg hm hb .nil (fun _ => .nil) ha hdb he hpl
end
/-! ### a cell that never changes from now on -/
section
variable {M : Md} {a : Addr}
/-- what is not said any longer -/
theorem Fin.less {d : D} {M' : Md} (h : ∀ a c, M' a = some c → M a = some c) : Fin M d M' d := ⟨fun l r => ⟨_, .rfl' _, l.less h, r⟩⟩
theorem Fin.trans {M M1 M2 : Md} {d d1 d2 : D} (p : Fin M d M1 d1) (q : Fin M1 d1 M2 d2) : Fin M d M2 d2 := ⟨fun l r => by
  obtain ⟨G, g, l1, r1⟩ := p.go l r
  obtain ⟨J, j, l2, r2⟩ := q.go l1 r1
  exact ⟨J, g.then' j, l2, r2⟩⟩
theorem Fin.lst {ds : List D} (h : M a = some (.lst ds)) : Fin M (.ref a) (cut M a) (.lst ds) := ⟨fun {K F H v} l r => by
  cases r
  obtain ⟨hf, vs, hh, rr⟩ := l.cell a _ h
  obtain ⟨l2, g⟩ := l.froze hh hf
  exact ⟨_, g, l2, .lst upd_same (rr.mono g)⟩⟩
theorem Fin.ins {C : Addr} {fs : Flds} (h : M a = some (.ins C fs)) : Fin M (.ref a) (cut M a) (.ins C (fs.map (·.1)) (fs.map (·.2))) := ⟨fun {K F H v} l r => by
  cases r
  obtain ⟨hf, dx, vs, hh, rr⟩ := l.cell a _ h
  obtain ⟨l2, g⟩ := l.froze hh hf
  obtain ⟨e1, e2⟩ := (Rfs.mono g rr).split
  exact ⟨_, g, l2, .ins (dx := dx) (by rw [upd_same]; exact congrArg (fun z => some (HO.ins C dx z)) e1) e2⟩⟩
/-- .. within a slot -/
theorem Vs.less {δ : SD} {M' : Md} (h : ∀ a c, M' a = some c → M a = some c) : Vs δ M δ M' := ⟨fun l s => ⟨_, .rfl' _, l.less h, s⟩⟩
theorem Vs.trans {δ δ1 δ2 : SD} {M M1 M2 : Md} (p : Vs δ M δ1 M1) (q : Vs δ1 M1 δ2 M2) : Vs δ M δ2 M2 := ⟨fun l r => by
  obtain ⟨G, g, l1, r1⟩ := p.go l r
  obtain ⟨J, j, l2, r2⟩ := q.go l1 r1
  exact ⟨J, g.then' j, l2, r2⟩⟩
theorem Vs.fin {δ : SD} {M' : Md} {d d' : D} {i : Nat} (h : δ[i]? = some (some d)) (f : Fin M d M' d') : Vs δ M (δ.set i (some d')) M' := ⟨fun {K F H σ} l s => by
  obtain ⟨v, hv, r⟩ := s.get h
  obtain ⟨G, g, l2, r2⟩ := f.go l r
  refine ⟨G, g, l2, ?_⟩
  have e : σ = σ.set i (some v) := by
    apply List.ext_getElem?
    intro j
    rw [List.getElem?_set]
    split
    · rename_i z
      subst z
      split
      · exact hv
      · rename_i z
        rw [List.getElem?_eq_none (by omega)]
    · rfl
  rw [e]
  exact (s.mono g).put' r2 i⟩
end
end DL
/-! The data layer: short rules for printed walks. -/
namespace DL
open PySem PySem.Spec PyProof.Rows L2
variable [B : Obs]
/-- the def x keeps the promise sp, with room k -/
structure Has (P : Program) (w : World) (K : PySem.W.Frag) (mg : Str → Option Value) (base : Heap) (k : Nat) (x : Str) (ps : List Str) (sp : SpD) : Prop where
  ex : ∃ f fd, FnD P w K mg base k f fd ps sp ∧ mg x = some (.ref f) ∧ PySem.W.keepIn K (.ref f) = true ∧ Binds K fd ps []
/-- .. within an except suite -/
structure HasH (P : Program) (w : World) (K : PySem.W.Frag) (mg : Str → Option Value) (base : Heap) (k : Nat) (x : Str) (ps : List Str) (sp : SpD) : Prop where
  ex : ∃ f fd, FnHD P w K mg base k f fd ps sp ∧ mg x = some (.ref f) ∧ PySem.W.keepIn K (.ref f) = true ∧ Binds K fd ps []
/-- the method m of the class at C -/
structure HasM (P : Program) (w : World) (K : PySem.W.Frag) (mg : Str → Option Value) (base : Heap) (k : Nat) (C : Addr) (m : Str) (ps : List Str) (sp : SpD) : Prop where
  cl : Cls K C
  ex : ∃ f fd, FnD P w K mg base k f fd ps sp ∧ Meth K C m f ∧ Binds K fd ps []
/-- the class x at C, made by its __init__ -/
structure HasC (P : Program) (w : World) (K : PySem.W.Frag) (mg : Str → Option Value) (base : Heap) (k : Nat) (x : Str) (C : Addr) (ps : List Str) (sp : SpD) : Prop where
  at_ : mg x = some (.ref C)
  ex : ∃ f fd, FnD P w K mg base k f fd ps sp ∧ Mk K C f ∧ Binds K fd ps []
/-- the error x at C with the field f -/
structure HasE (P : Program) (w : World) (K : PySem.W.Frag) (mg : Str → Option Value) (base : Heap) (x : Str) (C : Addr) (f : Str) : Prop where
  at_ : mg x = some (.ref C)
  ex : ∀ X : Cx, X.prog = P → X.w = w → X.K = K → X.mg = mg → X.base = base → ∃ fI fd, DX.ErrT X C fI fd f
section
variable {X : Cx} {W : WX} {n k : Nat} {x m y : Str} {ps : List Str} {sp : SpD} {o e a b : Expr} {es : List Expr} {pos p apos pos2 : Pos} {te to : TEd} {tes : TAd} {C : Addr}
theorem pv (i : Nat) (hN : X.N[i]? = some x := by rfl) (hv : Vis X.env.scope x := by first | exact .inl rfl | exact .inr (.inl rfl) | exact .inr (.inr rfl)) (hd : (x == ("__debug__" : Str)) = false := by decide) (hcd : (x == ("__classdict__" : Str)) = false := by decide) : PEd X W (.Name x pos) (tV i) := pvd hN hv hd hcd
theorem pcall (c : Cd X W n) (G : Has X.prog X.w X.K X.mg X.base k x ps sp) (ha : PAd X W (e :: es) tes) (hk : k ≤ n := by decide) (hg : Gl X x := by rfl)
    (hdb : (x == ("__debug__" : Str)) = false := by decide) (he : starEach (e :: es) X.env = (false, eval e X.env) :: starEach es X.env := by rfl) (hpl : (backTo pos (starEach es X.env)).any (·.1) = false := by rfl) : PEd X W (.Call (.Name x p) (e :: es) [] pos) (tFn sp [] tes) := by
  obtain ⟨f, fd, F, hm, kp, hb⟩ := G.ex
  exact pfn c F hk hg hm kp hb ha hdb he hpl
theorem pcall0 (c : Cd X W n) (G : Has X.prog X.w X.K X.mg X.base k x ps sp) (hk : k ≤ n := by decide) (hg : Gl X x := by rfl) (hdb : (x == ("__debug__" : Str)) = false := by decide) : PEd X W (.Call (.Name x p) [] [] pos) (tFn sp [] tN0) := by
  obtain ⟨f, fd, F, hm, kp, hb⟩ := G.ex
  exact pfn0 c F hk hg hm kp hb hdb
theorem pcallH (G : HasH X.prog X.w X.K X.mg X.base k x ps sp) (hr : L2H.RoomH k X.A) (hc : L2H.HotC X) (ha : PAd X W0 (e :: es) tes) (hg : Gl X x := by rfl)
    (hdb : (x == ("__debug__" : Str)) = false := by decide) (he : starEach (e :: es) X.env = (false, eval e X.env) :: starEach es X.env := by rfl) (hpl : (backTo pos (starEach es X.env)).any (·.1) = false := by rfl) : PEd X W0 (.Call (.Name x p) (e :: es) [] pos) (tFn sp [] tes) := by
  obtain ⟨f, fd, F, hm, kp, hb⟩ := G.ex
  exact pfnH F hr hc hg hm kp hb ha hdb he hpl
theorem pmcall {pl : Sem Bool} (c : Cd X W n) (G : HasM X.prog X.w X.K X.mg X.base k C m ps sp) (ho : PEd X W o to) (ha : PAd X W (e :: es) tes) (hk : k ≤ n := by decide)
    (hst : starEach (e :: es) X.env = (false, eval e X.env) :: starEach es X.env := by rfl) (hpl : (backTo pos (starEach es X.env)).any (·.1) = false := by rfl)
    (ht : eval (.Call (.Attribute o m apos) (e :: es) [] pos) X.env = (do let ov ← eval o X.env; standAt apos.atName; let (f, first) ← holding [ov] (getMethod ov m pl); callWith pos f first (backTo pos (starEach (e :: es) X.env)) (backToKw pos (keywordEach [] X.env))) := by rfl) :
    PEd X W (.Call (.Attribute o m apos) (e :: es) [] pos) (tMh C m sp [] to tes) := by
  obtain ⟨f, fd, F, hm, hb⟩ := G.ex
  exact pmeth c F hk G.cl hm hb ho ha hst hpl ht
theorem pmcall0 {pl : Sem Bool} (c : Cd X W n) (G : HasM X.prog X.w X.K X.mg X.base k C m ps sp) (ho : PEd X W o to) (hk : k ≤ n := by decide)
    (ht : eval (.Call (.Attribute o m apos) [] [] pos) X.env = (do let ov ← eval o X.env; standAt apos.atName; let (f, first) ← holding [ov] (getMethod ov m pl); callWith pos f first (backTo pos (starEach [] X.env)) (backToKw pos (keywordEach [] X.env))) := by rfl) :
    PEd X W (.Call (.Attribute o m apos) [] [] pos) (tMh C m sp [] to tN0) := by
  obtain ⟨f, fd, F, hm, hb⟩ := G.ex
  exact pmeth0 c F hk G.cl hm hb ho ht
theorem pnew (c : Cd X W n) (G : HasC X.prog X.w X.K X.mg X.base k x C ps sp) (ha : PAd X W (e :: es) tes) (hk : k + 1 ≤ n := by decide) (hg : Gl X x := by rfl)
    (hdb : (x == ("__debug__" : Str)) = false := by decide) (he : starEach (e :: es) X.env = (false, eval e X.env) :: starEach es X.env := by rfl) (hpl : (backTo pos (starEach es X.env)).any (·.1) = false := by rfl) : PEd X W (.Call (.Name x p) (e :: es) [] pos) (tMk C sp [] tes) := by
  obtain ⟨f, fd, F, hm, hb⟩ := G.ex
  exact pmake c hm F hk hg G.at_ hb ha hdb he hpl
theorem srai {f : Str} (c : Cd X W n) (G : HasE X.prog X.w X.K X.mg X.base y C f) (ha : PAd X W [e] tes) (hn : 2 ≤ n := by decide) (hg : Gl X y := by rfl)
    (hdb : (y == ("__debug__" : Str)) = false := by decide) (he : starEach (e :: []) X.env = (false, eval e X.env) :: starEach [] X.env := by rfl) (hpl : (backTo pos (starEach [] X.env)).any (·.1) = false := by rfl) : PSd X W (.Raise (some (.Call (.Name y p) [e] [] pos)) none pos2) (DX.tRs C f tes) := by
  obtain ⟨fI, fd, T⟩ := G.ex X rfl rfl rfl rfl rfl
  exact DX.sraise c hn T hg G.at_ ha hdb he hpl
/-- built-in functions, by the fact that the program has none of that name -/
theorem pblt {id : String} {r : List V → Hp → VK → Prop} {rd : RCd} (hc : CallR X (.builtin id) r) (ok : OKC X.K r rd) (hm : X.mg x = none) (ha : PAd X W (e :: es) tes) (hg : Gl X x := by rfl) (hv : bootBuiltins x = some (.builtin id) := by decide +kernel) (hn : x ≠ "__name__" := by decide) (hdb : (x == ("__debug__" : Str)) = false := by decide)
    (he : starEach (e :: es) X.env = (false, eval e X.env) :: starEach es X.env := by rfl) (hpl : (backTo pos (starEach es X.env)).any (·.1) = false := by rfl) : PEd X W (.Call (.Name x p) (e :: es) [] pos) (tCl rd tes) := pcallB hc ok hg hm hv ha hn hdb he hpl
theorem pbty {id : String} {r : List V → Hp → VK → Prop} {rd : RCd} (hc : CallR X (.type id) r) (ok : OKC X.K r rd) (hm : X.mg x = none) (ha : PAd X W (e :: es) tes) (hg : Gl X x := by rfl) (hv : bootBuiltins x = some (.type id) := by decide +kernel) (hn : x ≠ "__name__" := by decide) (hdb : (x == ("__debug__" : Str)) = false := by decide)
    (he : starEach (e :: es) X.env = (false, eval e X.env) :: starEach es X.env := by rfl) (hpl : (backTo pos (starEach es X.env)).any (·.1) = false := by rfl) : PEd X W (.Call (.Name x p) (e :: es) [] pos) (tCl rd tes) := pcallTy hc ok hg hm hv ha hn hdb he hpl
/-- the name of a built-in type as a value -/
theorem pety {u : String} (hm : X.mg x = none) (hg : Gl X x := by rfl) (hv : bootBuiltins x = some (.type u) := by decide +kernel) (hn : x ≠ "__name__" := by decide) (hdb : (x == ("__debug__" : Str)) = false := by decide) : PEd X W (.Name x pos) (tK (.ty u)) := pk_of (pe_bltn (v := V.ty u) hg hm hv rfl hn hdb) fun _ => .ty u
/-- a def's names, its frame's scope -/
theorem blk_of {N : List Str} {sc scope : Scope} {own : List (Str × Nat)} (N' : List Str) (sc' : Scope) (eN : N = N') (eS : sc = sc') (h : BlkOk N' sc' scope own) : BlkOk N sc scope own := by
  subst eN eS
  exact h
theorem look_relabel {env : Env} {x : Str} : ∀ {names : List (Str × NameKind)}, names.lookup x = some .cell ∨ names.lookup x = some .free →
    (names.map fun (n, k) => if (k == NameKind.free && env.scope.kind == .function && env.kindOf n == some .cell) then (n, NameKind.cell) else (n, k)).lookup x = some .cell ∨ (names.map fun (n, k) => if (k == NameKind.free && env.scope.kind == .function && env.kindOf n == some .cell) then (n, NameKind.cell) else (n, k)).lookup x = some .free
  | [], h => by simp at h
  | (n, k) :: r, h => by
    have ih := look_relabel (env := env) (x := x) (names := r)
    rw [List.map_cons]
    by_cases c : (k == NameKind.free && env.scope.kind == .function && env.kindOf n == some .cell) = true
    · simp only [c, if_true, List.lookup_cons] at h ⊢
      cases q : (x == n) with
      | true => exact .inl rfl
      | false =>
        rw [q] at h
        exact ih h
    · simp only [c, Bool.false_eq_true, if_false, List.lookup_cons] at h ⊢
      cases q : (x == n) with
      | true =>
        rw [q] at h
        exact h
      | false =>
        rw [q] at h
        exact ih h
theorem blk_in {N : List Str} {scope0 scope : Scope} {own : List (Str × Nat)} {cl : List (Str × Addr)} {C : Addr} {e : Env} (N' : List Str) (eN : N = N') (h : BlkOk N' scope0 scope own) : BlkOk N (compEnvC scope0 cl C e).scope scope own := by
  subst eN
  exact ⟨h.kind, h.uniq, h.ix, fun y hy z => look_relabel (h.free y hy z), h.own⟩
theorem g1 {X : Cx} {x : Str} {pos : Pos} (i : Nat) (nd : X.N.Nodup) (hi : X.N[i]? = some x := by rfl) (hx : Loc X.env.scope x := by first | exact .inl rfl | exact .inr rfl) (hf : X.fn x = true ∨ X.env.scope.names.lookup x = some .local := by first | exact .inl rfl | exact .inr rfl) : PG X (.Name x pos) ((Tg.one i).g X.K) := pg_name nd hi hx hf
theorem roomH_m {k : Nat} {A : Around} (r : Room k A) (h : Option Value) : L2H.RoomH k (A.mark h) := ⟨r.dp, r.un⟩
theorem Cd.hu (c : Cd X W n) : X.A.units + 64 < cLine := by
  have := c.rm.un
  omega
end
/-- a global of the program that holds a plain datum -/
structure HasG (K : PySem.W.Frag) (mg : Str → Option Value) (x : Str) (d : D) : Prop where
  ex : ∃ (v : V) (u : Value), mg x = some u ∧ RelV v u ∧ ∀ F, Rp K F v d
theorem pgl {X : Cx} {W : WX} {x : Str} {d : D} {pos : Pos} (G : HasG X.K X.mg x d) (hg : Gl X x := by rfl) (hd : (x == ("__debug__" : Str)) = false := by decide) : PEd X W (.Name x pos) (tK d) := by
  obtain ⟨v, u, hm, r, q⟩ := G.ex
  exact pglob hg hm r q hd
end DL
/-! The data layer: repr of plain data, [..] * n as a cell, an own ==. -/
namespace DL
open PySem PySem.Spec PyProof.Rows L2
variable [B : Obs]
section
variable {X : Cx} {W : WX} {K : PySem.W.Frag} {n k : Nat}
/-! ### repr -/
theorem call_reprP (hg : X.A.guards = some []) (hu : X.A.units + 200 < cLine) : CallR X (.builtin "repr") (fun xs H Q => ∃ (a : Addr) (p : PyData), xs = [.ref a] ∧ Dp X.K H (.ref a) p ∧ p.showable = true ∧ p.hasDict = false ∧ p.depth ≤ 190 ∧ p.shown.length ≤ sizeLine ∧ Q (.str p.shown) H) := by
  rintro pins s σ H vs us Q I r ⟨a, p, rfl, hd, h1, h2, h3, h4, q⟩
  obtain ⟨u, rfl, ru⟩ := vals1 r
  obtain ⟨as, rd⟩ := Dp.reads I p _ _ hd ru
  obtain rfl : u = Value.ref a := ru
  exact repr_of_reads' rd h1 (PyData.noDict_hsm h2) hg (by omega) (fun _ _ z => z) (fun h' u tk hk => ⟨.str p.shown, H, I.kept (t' := tk) hk, ⟨_, rfl⟩, q⟩) h4
def reprD : Rm := fun ds M Q => match ds with
  | [d] => ∃ p, Py M d p ∧ (seqA M d).isSome = true ∧ p.showable = true ∧ p.hasDict = false ∧ p.depth ≤ 190 ∧ p.shown.length ≤ sizeLine ∧ Q (.str p.shown) M
  | _ => False
theorem ok_repr : OKC K (fun xs H Q => ∃ (a : Addr) (p : PyData), xs = [.ref a] ∧ Dp K H (.ref a) p ∧ p.showable = true ∧ p.hasDict = false ∧ p.depth ≤ 190 ∧ p.shown.length ≤ sizeLine ∧ Q (.str p.shown) H) reprD := ⟨fun {F H M vs ds Qd Q} l rs k q => by
  match ds, vs, rs, q with
  | [d], [v], .cons r .nil, ⟨p, hp, hs, h1, h2, h3, h4, q⟩ =>
    obtain ⟨xs, hx⟩ := Option.isSome_iff_exists.mp hs
    obtain ⟨a, ws, rfl, _, _⟩ := seqA_ok l r hx
    exact ⟨a, p, rfl, hp.dp l r, h1, h2, h3, h4, k.go (.rfl' F) l (.str _) q⟩⟩
theorem Cd.ru (c : Cd X W n) : X.A.units + 200 < cLine := by
  have := c.rm.un
  omega
/-! ### xs * k as a new cell -/
def rMulM : R2d := fun x y M Q => match y with
  | .int k => optP (seqL M x) fun xs => (-(2 ^ 63) ≤ k ∧ k < 2 ^ 63) ∧ xs.length * k.toNat ≤ sizeLine ∧ ∀ p, M p = none → Q (.ref p) (put M p (.lst (List.replicate k.toNat xs).flatten))
  | _ => False
theorem ok_mulM : OK2 K rMulH rMulM := ⟨fun {F H M x y d e Qd Q} l rx ry kq q => by
  cases ry with
  | int k =>
    obtain ⟨xs, h1, hk, hz, q3⟩ := optP_out (show optP (seqL M d) (fun xs => (-(2 ^ 63) ≤ k ∧ k < 2 ^ 63) ∧ xs.length * k.toNat ≤ sizeLine ∧ ∀ p, M p = none → Qd (.ref p) (put M p (.lst (List.replicate k.toNat xs).flatten))) from q)
    obtain ⟨a, vs, e1, p1, r1⟩ := seqL_ok l rx h1
    refine .inr ⟨a, k, vs, e1, rfl, p1, hk.1, hk.2, by rw [r1.len]; exact hz, fun p hp => ?_⟩
    obtain ⟨n1, n2⟩ := l.free hp
    exact kq.go (.rfl' F) (l.cellput (u := .lst (List.replicate k.toNat vs).flatten) (c := .lst (List.replicate k.toNat xs).flatten) n1 ⟨_, upd_same, r1.rep _⟩) (.ref p) (q3 p n2)
  | _ => exact q.elim⟩
/-! ### an own == -/
structure HasQ (P : Program) (w : World) (K : PySem.W.Frag) (mg : Str → Option Value) (base : Heap) (k : Nat) (C : Addr) (sp : SpD) : Prop where
  ex : ∃ f fd ps, FnD P w K mg base k f fd ps sp ∧ PySem.W.findIn K (.ref C) "__eq__" = some (some (.ref f)) ∧ PySem.W.isFn K (.ref f) = true ∧ Binds K fd ps []
def rEqI (K : PySem.W.Frag) (C : Addr) (sp : SpD) : R2 := fun x y H Q => (∃ a b dx dy fs gs, x = .ref a ∧ y = .ref b ∧ H a = some (.ins C dx fs) ∧ H b = some (.ins C dy gs)) ∧ toSp K sp [x, y] H (fun v H2 => ∃ t, v = .bl t ∧ Q v H2) fun _ _ _ => False
theorem op_eqI {C : Addr} {sp : SpD} (c : Cd X W n) (G : HasQ X.prog X.w X.K X.mg X.base k C sp) (hk : k ≤ n) : OpR X (compareOp .Eq) (rEqI X.K C sp) := by
  rintro pins s σ H x y v u Q I rx ry ⟨⟨a, b, dx, dy, fs, gs, rfl, rfl, ha, hb'⟩, hsp⟩
  obtain ⟨f, fd, ps, F, hs, hf, hb⟩ := G.ex
  cases rx
  cases ry
  obtain ⟨mA, J, _⟩ := ins_get I.hok ha
  obtain ⟨mB, J', _⟩ := ins_get I.hok hb'
  obtain ⟨od, J, _⟩ := J.look
  obtain ⟨od', J', _⟩ := J'.look
  obtain ⟨m, hF⟩ := I.fr
  show wpAny (model X.prog X.w) X.A (richCompare .Eq (.ref a) (.ref b)) (EP X pins σ Q) X.xe s
  refine PySem.W.cmp_K (op := .Eq) (tb := .ref C) (c.rm.mono hk).units0 hF I.ok.mod.kin J J'.type (by simp [PySem.W.notFirst]) hs hf ?_
  have many := F.many hsp
  refine wpAny_call (codeAny_mono (F.goes (E := fun _ _ _ => False) (us := [.ref a, .ref b]) (vs := [V.ref a, V.ref b]) (c.rm.mono hk) c.gd I.env0 (by simpa using hb s [.ref a, .ref b] I.kIn (by simpa using many)) (show Vals [V.ref a, V.ref b] [Value.ref a, Value.ref b] from .cons rfl (.cons rfl .nil)) hsp) fun r s' hq => ?_)
  match r, hq with
  | .error e, hq =>
    obtain ⟨_, _, _, _, _, _, _, _, _, _, _, _, z⟩ := hq
    exact z.elim
  | .ok (.ret w), hq =>
    obtain ⟨z, H', I', rz, ⟨t, ez, q⟩⟩ := I.after hq
    subst ez
    cases rz
    exact ⟨.bl t, H', I', rfl, q⟩
  | .ok .next, hq => exact hq.elim
  | .ok .brk, hq => exact hq.elim
  | .ok .cont, hq => exact hq.elim
def insD (M : Md) (C : Addr) (d : D) : Prop := ∃ fs, fldsD M d = some (C, fs)
def rEqID (C : Addr) (sp : SpD) : R2d := fun x y M Q => insD M C x ∧ insD M C y ∧ sp [x, y] M (fun d M2 => ∃ t, d = .bl t ∧ Q d M2) X0
theorem ok_eqI {C : Addr} {sp : SpD} : OK2 K (rEqI K C sp) (rEqID C sp) := ⟨fun {F H M x y d e Qd Q} l rx ry kq ⟨⟨fs, h1⟩, ⟨gs, h2⟩, q⟩ => by
  obtain ⟨a, dx, vs, ea, ha, _⟩ := flds_ok l rx h1
  obtain ⟨b, dy, ws, eb, hb, _⟩ := flds_ok l ry h2
  exact ⟨⟨a, b, dx, dy, vs, ws, ea, eb, ha, hb⟩, F, M, _, _, X0, l, .cons rx (.cons ry .nil), ⟨fun {d' M2 v2 G2 H2} g l2 r2 ⟨t, et, q2⟩ => by
    subst et
    cases r2
    exact ⟨t, rfl, kq.go g l2 (.bl t) q2⟩⟩, kx0, q⟩⟩
/-! ### isinstance of an own class -/
structure IsC (K : PySem.W.Frag) (C : Addr) : Prop where
  cl : Cls K C
  ha : PySem.W.findIn K (.ref C) "__class__" = some (some (.builtin "object.__class__"))
  hn : PySem.W.specialIn K (.builtin "object.__class__") "__get__" = some (some (.builtin "getset_descriptor.__get__"))
  htk : PySem.W.takesIn K (.builtin "object.__class__") = some true
  hm : PySem.W.mroIn K C (.type "object") = some true
/-- isinstance(x, C), x an instance of C -/
def isO (C : Addr) : Rm := fun ds M Q => match ds with
  | [d, .ref c] => c = C ∧ insD M C d ∧ Q (.bl true) M
  | _ => False
theorem ok_isO {C : Addr} (T : IsC K C) : OKC K (rIsi K) (isO C) := ⟨fun {F H M vs ds Qd Q} l rs k q => by
  match ds, vs, rs, q with
  | [d, .ref c], [v, _], .cons r (.cons (.ref _) .nil), ⟨ec, ⟨fs, h⟩, qq⟩ =>
    subst ec
    obtain ⟨a, dx, ws, rfl, ha, _⟩ := flds_ok l r h
    exact ⟨.ref a, .ref c, .ref c, .ref c, true, rfl, .own c, .base (.ins ha T.cl T.ha T.hn T.htk T.hm), by unfold PySem.W.kitOne; rw [if_pos (by simp)], k.go (.rfl' F) l (.bl _) qq⟩⟩
end
end DL
/-! The data layer: lemmas for the plain laws: loops, items, ends. -/
namespace DL
open PySem PySem.Spec PyProof.Rows L2
variable [B : Obs]
section
variable {M : Md} {Q : VD} {X : XD} {δ : SD} {d : D}
theorem out_ret (h : Q d M) : ∃ M' d', Fin M d M' d' ∧ Q d' M' := ⟨M, d, .less fun _ _ h => h, h⟩
theorem out_nx (h : Q .non M) : ∃ M' : Md, (∀ a c, M' a = some c → M a = some c) ∧ Q .non M' := ⟨M, fun _ _ h => h, h⟩
theorem out_xx {C : Addr} {fs : Flds} (h : X C fs M) : ∃ M' : Md, (∀ a c, M' a = some c → M a = some c) ∧ X C fs M' := ⟨M, fun _ _ h => h, h⟩
theorem tSq_step {a b : TSd} {E : EndsD} (h : ∀ T : TSd, T = b → a { E with nx := T E } δ M) : tSq a b E δ M := h b rfl
/-! ### loops -/
section
variable {g : TGd} {tb : TSd} {ok : Md → Prop} {E : EndsD}
theorem forGo_at {xs : List D} {P : Nat → SD → Md → Prop} (hd : ∀ δ M, P xs.length δ M → ok M ∧ E.nx δ M)
    (hs : ∀ k (hk : k < xs.length) δ M, P k δ M → ∀ R : SD → Md → Prop, (∀ δ M, P (k + 1) δ M → R δ M) → ok M ∧ g (E.xk δ) xs[k] δ M fun δ1 M1 => tb { E with nx := R, ct := R, bk := E.nx } δ1 M1) {δ : SD} {M : Md} (h0 : P 0 δ M) : forGo g tb ok E xs δ M := by
  have go : ∀ m k, k + m = xs.length → ∀ δ M, P k δ M → forGo g tb ok E (xs.drop k) δ M := by
    intro m
    induction m with
    | zero =>
      intro k hk δ M h
      rw [List.drop_eq_nil_of_le (by omega)]
      have e : k = xs.length := by omega
      subst e
      exact hd δ M h
    | succ m ih =>
      intro k hk δ M h
      have hlt : k < xs.length := by omega
      rw [List.drop_eq_getElem_cons hlt]
      exact hs k hlt δ M h _ (ih (k + 1) (by omega))
  have z := go xs.length 0 (by omega) δ M h0
  rw [List.drop_zero] at z
  exact z
abbrev rgL (n : Nat) : List D := (List.range n).map fun i => .int ((i : Nat) : Int)
theorem rgL_at {n k : Nat} (h : k < (rgL n).length) : (rgL n)[k] = .int (k : Int) := by simp [rgL]
theorem rgL_len {n : Nat} : (rgL n).length = n := by simp [rgL]
theorem forGo_range {n : Nat} {P : Nat → SD → Md → Prop} (hd : ∀ δ M, P n δ M → ok M ∧ E.nx δ M)
    (hs : ∀ k, k < n → ∀ δ M, P k δ M → ∀ R : SD → Md → Prop, (∀ δ M, P (k + 1) δ M → R δ M) → ok M ∧ g (E.xk δ) (.int (k : Int)) δ M fun δ1 M1 => tb { E with nx := R, ct := R, bk := E.nx } δ1 M1) {δ : SD} {M : Md} (h0 : P 0 δ M) : forGo g tb ok E (rgL n) δ M :=
  forGo_at (xs := rgL n) (P := P) (fun δ M h => hd δ M (by rw [← rgL_len (B := B) (n := n)]; exact h)) (fun k hk δ M h R hR => by
    rw [rgL_at hk]
    exact hs k (by rw [rgL_len] at hk; exact hk) δ M h R hR) h0
end
/-- the first that is told -/
def ff (n : Nat) (f : Nat → Option D) : Option D := (List.range n).findSome? f
theorem ff_none {n : Nat} {f : Nat → Option D} (h : ∀ k, k < n → f k = none) : ff n f = none := by
  unfold ff
  rw [List.findSome?_eq_none_iff]
  intro k hk
  exact h k (List.mem_range.mp hk)
theorem ff_none_iff {n : Nat} {f : Nat → Option D} : ff n f = none ↔ ∀ k, k < n → f k = none := by
  unfold ff
  rw [List.findSome?_eq_none_iff]
  exact ⟨fun h k hk => h k (List.mem_range.mpr hk), fun h k hk => h k (List.mem_range.mp hk)⟩
theorem ff_congr {n : Nat} {f g : Nat → Option D} (h : ∀ k, k < n → f k = g k) : ff n f = ff n g := by
  unfold ff
  have go : ∀ l : List Nat, (∀ k ∈ l, f k = g k) → l.findSome? f = l.findSome? g := by
    intro l
    induction l with
    | nil => intro _; rfl
    | cons a l ih =>
      intro hl
      rw [List.findSome?_cons, List.findSome?_cons, hl a (List.mem_cons_self ..), ih fun k hk => hl k (List.mem_cons_of_mem _ hk)]
  exact go _ fun k hk => h k (List.mem_range.mp hk)
section
variable {g : TGd} {tb : TSd} {ok : Md → Prop} {E : EndsD}
/-- a search: each turn hands back what f tells, or goes on -/
theorem forGo_find {xs : List D} {inv : SD → Prop} {f : Nat → Option D} (hok : ok M)
    (hs : ∀ k (hk : k < xs.length) δ, inv δ → ∀ R : SD → Md → Prop, (f k = none → ∀ δ', inv δ' → R δ' M) → (∀ r, f k = some r → E.rt r M) → g (E.xk δ) xs[k] δ M fun δ1 M1 => tb { E with nx := R, ct := R, bk := E.nx } δ1 M1)
    (fin : ff xs.length f = none → ∀ δ, inv δ → E.nx δ M) (ret : ∀ r, ff xs.length f = some r → E.rt r M) {δ : SD} (h0 : inv δ) : forGo g tb ok E xs δ M := by
  have go : ∀ m k, k + m = xs.length → (∀ r, (List.range' k m).findSome? f = some r → E.rt r M) → ((List.range' k m).findSome? f = none → ∀ δ, inv δ → E.nx δ M) → ∀ δ, inv δ → forGo g tb ok E (xs.drop k) δ M := by
    intro m
    induction m with
    | zero =>
      intro k hk _ hn δ h
      rw [List.drop_eq_nil_of_le (by omega)]
      exact ⟨hok, hn rfl δ h⟩
    | succ m ih =>
      intro k hk hr hn δ h
      have hlt : k < xs.length := by omega
      rw [List.drop_eq_getElem_cons hlt]
      rw [List.range'_succ, List.findSome?_cons] at hr hn
      refine ⟨hok, hs k hlt δ h _ (fun e δ' h' => ?_) fun r e => hr r (by rw [e])⟩
      rw [e] at hr hn
      exact ih (k + 1) (by omega) hr hn δ' h'
  have z := go xs.length 0 (by omega) (by rw [← List.range_eq_range']; exact ret) (by rw [← List.range_eq_range']; exact fin) δ h0
  rw [List.drop_zero] at z
  exact z
theorem forGo_findR {n : Nat} {inv : SD → Prop} {f : Nat → Option D} (hok : ok M)
    (hs : ∀ k, k < n → ∀ δ, inv δ → ∀ R : SD → Md → Prop, (f k = none → ∀ δ', inv δ' → R δ' M) → (∀ r, f k = some r → E.rt r M) → g (E.xk δ) (.int (k : Int)) δ M fun δ1 M1 => tb { E with nx := R, ct := R, bk := E.nx } δ1 M1)
    (fin : ff n f = none → ∀ δ, inv δ → E.nx δ M) (ret : ∀ r, ff n f = some r → E.rt r M) {δ : SD} (h0 : inv δ) : forGo g tb ok E (rgL n) δ M :=
  forGo_find (xs := rgL n) (f := f) hok (fun k hk δ h R hR hr => by
    rw [rgL_at hk]
    exact hs k (by rw [rgL_len] at hk; exact hk) δ h R hR hr) (by rw [rgL_len]; exact fin) (by rw [rgL_len]; exact ret) h0
end
/-- for x in range(e), once e is known -/
theorem tFo_range {te : TEd} {g : TGd} {tb : TSd} {E : EndsD} {j : Int} (he : te (E.xk δ) δ M = fun Q => Q (.int j) M) (h1 : -(2 ^ 62) ≤ j) (h2 : j < 2 ^ 62) (h : forGo g tb (fun _ => True) E (rgL j.toNat) δ M) : tFo (tIR1 (tCo te tN0)) g tb E δ M := by
  show te (E.xk δ) δ M _
  rw [he]
  exact ⟨⟨h1, h2⟩, h⟩
theorem items_eq {xs : List D} {R : Src → Md → Prop} (h : seqA M d = some xs) : itemsD d M R = R ⟨xs, fun N => seqA N d = some xs⟩ M := by
  cases d with
  | rng _ _ => cases h
  | _ =>
    simp only [itemsD]
    rw [h]
    rfl
theorem ix_eq {x : D} {xs : List D} {i : Int} {v : D} (h : seqA M x = some xs) (h2 : atI xs i = some v) : rIxD x (.int i) M Q = Q v M := by
  simp only [rIxD, h, h2]
  rfl
theorem len_eq {x : D} {xs : List D} (h : seqA M x = some xs) : lenD [x] M Q = Q (.int xs.length) M := by
  simp only [lenD, h]
/-! ### rows of numbers -/
def iL (ns : List Int) : List D := ns.map .int
def gi (ns : List Int) (i : Int) : Int := ns.getD i.toNat 0
theorem iL_len {ns : List Int} : (iL ns).length = ns.length := List.length_map ..
theorem iL_get {ns : List Int} {k : Nat} (h : k < (iL ns).length) : (iL ns)[k] = .int (ns[k]'(by rw [iL_len] at h; exact h)) := by simp [iL]
theorem ixN_in {n : Nat} {i : Int} (h0 : 0 ≤ i) (h1 : i < n) : ixN n i = some i.toNat := by
  unfold ixN
  rw [if_pos h0, if_pos h1]
theorem atI_in {xs : List D} {i : Int} (h0 : 0 ≤ i) (h1 : i < xs.length) : atI xs i = xs[i.toNat]? := by
  unfold atI
  rw [ixN_in h0 h1]
  rfl
theorem atI_iL {ns : List Int} {i : Int} (h0 : 0 ≤ i) (h1 : i < ns.length) : atI (iL ns) i = some (.int (gi ns i)) := by
  rw [atI_in h0 (by rw [iL_len]; exact h1)]
  unfold iL gi
  rw [List.getElem?_map, List.getElem?_eq_getElem (by omega), List.getD_eq_getElem?_getD, List.getElem?_eq_getElem (by omega)]
  rfl
theorem iL_set {ns : List Int} {k : Nat} {i : Int} : (iL ns).set k (.int i) = iL (ns.set k i) := by
  unfold iL
  rw [List.map_set]
theorem atI_0 {a : D} {l : List D} : atI (a :: l) 0 = some a := by
  rw [atI_in (by omega) (by simp)]
  rfl
theorem atI_1 {a b : D} {l : List D} : atI (a :: b :: l) 1 = some b := by
  rw [atI_in (by omega) (by simp; omega)]
  rfl
theorem atI_2 {a b c : D} {l : List D} : atI (a :: b :: c :: l) 2 = some c := by
  rw [atI_in (by omega) (by simp; omega)]
  rfl
theorem atI_3 {a b c e : D} {l : List D} : atI (a :: b :: c :: e :: l) 3 = some e := by
  rw [atI_in (by omega) (by simp; omega)]
  rfl
theorem atI_4 {a b c e f : D} {l : List D} : atI (a :: b :: c :: e :: f :: l) 4 = some f := by
  rw [atI_in (by omega) (by simp; omega)]
  rfl
theorem seqA_ref {a : Addr} {xs : List D} (h : M a = some (.lst xs)) : seqA M (.ref a) = some xs := by
  show (match M a with
    | some (MC.lst xs) => some xs
    | _ => none) = some xs
  rw [h]
theorem seqA_tup {xs : List D} : seqA M (.tup xs) = some xs := rfl
theorem seqA_lst {xs : List D} : seqA M (.lst xs) = some xs := rfl
theorem setD_eq {a : Addr} {xs : List D} {j : Int} {v : D} {R : Md → Prop} (h : M a = some (.lst xs)) (h0 : 0 ≤ j) (h1 : j < xs.length) : setD (.ref a) (.int j) v M R = R (put M a (.lst (xs.set j.toNat v))) := by
  simp only [setD, h, ixN_in h0 h1]
  rfl
theorem ff_some {n : Nat} {f : Nat → Option D} {r : D} (h : ff n f = some r) : ∃ k, k < n ∧ f k = some r ∧ ∀ j, j < k → f j = none := by
  unfold ff at h
  rw [List.range_eq_range'] at h
  have go : ∀ m k, (List.range' k m).findSome? f = some r → ∃ i, k ≤ i ∧ i < k + m ∧ f i = some r ∧ ∀ j, k ≤ j → j < i → f j = none := by
    intro m
    induction m with
    | zero => intro k h; cases h
    | succ m ih =>
      intro k h
      rw [List.range'_succ, List.findSome?_cons] at h
      cases e : f k with
      | some d =>
        rw [e] at h
        exact ⟨k, Nat.le_refl _, by omega, e.trans h, fun j h1 h2 => by omega⟩
      | none =>
        rw [e] at h
        obtain ⟨i, h1, h2, h3, h4⟩ := ih (k + 1) h
        refine ⟨i, by omega, by omega, h3, fun j j1 j2 => ?_⟩
        by_cases q : j = k
        · rw [q]
          exact e
        · exact h4 j (by omega) j2
  obtain ⟨i, h1, h2, h3, h4⟩ := go n 0 h
  exact ⟨i, by omega, h3, fun j hj => h4 j (by omega) hj⟩
/-! ### comprehensions without tests -/
theorem lcF_run {te : TEd} {f : D → D} {xs : List D} {ok : Md → Prop} {δ : SD} {i : Nat} (hz : xs.length ≤ sizeLine) (hok : ∀ p c, M p = none → ok (put M p c))
    (he : ∀ d ∈ xs, ∀ p c, M p = none → ∀ Q' : VD, Q' (f d) (put M p c) → te X0 (δ.set i (some d)) (put M p c) Q') (h : Q (.lst (xs.map f)) M) (p : Addr) (hp : M p = none) :
    lcGo (.one i) tYs te ok δ p (fun N => ∃ acc, N p = some (.lst acc) ∧ Q (.lst acc) (cut N p)) xs (put M p (.lst [])) := by
  refine lc_run (b := fun _ => true) (f := f) hp (by rw [List.length_nil]; omega) (fun c => hok p c hp) (fun d hd c => ⟨_, rfl, fun _ h => h⟩) (fun d hd _ c δ' e Q' hQ => ?_) ⟨_, put_same, ?_⟩
  · cases e
    exact he d hd p c hp Q' hQ
  · rw [cut_put hp, List.nil_append, List.filter_eq_self.mpr fun _ _ => rfl]
    exact h
/-- .. the list a cell -/
theorem lcM_run {te : TEd} {f : D → D} {xs : List D} {ok : Md → Prop} {δ : SD} {i : Nat} {Q : Md → Prop} (hz : xs.length ≤ sizeLine) (p : Addr) (hp : M p = none) (hok : ∀ c, ok (put M p c))
    (he : ∀ d ∈ xs, ∀ c, ∀ Q' : VD, Q' (f d) (put M p c) → te X0 (δ.set i (some d)) (put M p c) Q') (h : Q (put M p (.lst (xs.map f)))) : lcGo (.one i) tYs te ok δ p Q xs (put M p (.lst [])) := by
  refine lc_run (b := fun _ => true) (f := f) hp (by rw [List.length_nil]; omega) hok (fun d hd c => ⟨_, rfl, fun _ h => h⟩) (fun d hd _ c δ' e Q' hQ => ?_) ?_
  · cases e
    exact he d hd c Q' hQ
  · rw [List.nil_append, List.filter_eq_self.mpr fun _ _ => rfl]
    exact h
def mapI (f : Int → D) : D → D
  | .int i => f i
  | d => d
theorem map_ints (f : Int → D) (ns : List Int) : (iL ns).map (mapI f) = ns.map f := by
  unfold iL
  rw [List.map_map]
  rfl
theorem lcF_ints {te : TEd} {f : Int → D} {ns : List Int} {ok : Md → Prop} {δ : SD} {i : Nat} (hz : ns.length ≤ sizeLine) (hok : ∀ p c, M p = none → ok (put M p c))
    (he : ∀ n ∈ ns, ∀ p c, M p = none → ∀ Q' : VD, Q' (f n) (put M p c) → te X0 (δ.set i (some (.int n))) (put M p c) Q') (h : Q (.lst (ns.map f)) M) (p : Addr) (hp : M p = none) :
    lcGo (.one i) tYs te ok δ p (fun N => ∃ acc, N p = some (.lst acc) ∧ Q (.lst acc) (cut N p)) (iL ns) (put M p (.lst [])) :=
  lcF_run (f := mapI f) (by rw [iL_len]; exact hz) hok (fun d hd p c hp Q' hQ => by
    obtain ⟨n, hn, rfl⟩ := List.mem_map.mp hd
    exact he n hn p c hp Q' hQ) (by rw [map_ints]; exact h) p hp
/-- a comprehension whose element may change the store -/
theorem lcGo_at {te : TEd} {ok : Md → Prop} {δ : SD} {i : Nat} {p : Addr} {Q : Md → Prop} {xs : List D} {I : List D → Md → Prop} (hz : xs.length ≤ sizeLine)
    (hok : ∀ acc N, N p = some (.lst acc) → I acc N → ok N)
    (he : ∀ k (hk : k < xs.length) acc N, acc.length = k → N p = some (.lst acc) → I acc N → ∀ R : VD, (∀ y N', N' p = some (.lst acc) → I (acc ++ [y]) (put N' p (.lst (acc ++ [y]))) → R y N') → te X0 (δ.set i (some xs[k])) N R)
    (fin : ∀ acc N, acc.length = xs.length → N p = some (.lst acc) → I acc N → Q N) {N : Md} (h0 : N p = some (.lst [])) (i0 : I [] N) : lcGo (.one i) tYs te ok δ p Q xs N := by
  have go : ∀ m k, k + m = xs.length → ∀ acc N, acc.length = k → N p = some (.lst acc) → I acc N → lcGo (.one i) tYs te ok δ p Q (xs.drop k) N := by
    intro m
    induction m with
    | zero =>
      intro k hk acc N ha hN hi
      rw [List.drop_eq_nil_of_le (by omega)]
      exact ⟨hok acc N hN hi, ⟨acc, hN⟩, fin acc N (by omega) hN hi⟩
    | succ m ih =>
      intro k hk acc N ha hN hi
      have hlt : k < xs.length := by omega
      rw [List.drop_eq_getElem_cons hlt]
      exact ⟨hok acc N hN hi, _, rfl, he k hlt acc N ha hN hi _ fun y N' h1 h2 => ⟨acc, h1, by omega, ih (k + 1) (by omega) _ _ (by rw [List.length_append]; show acc.length + 1 = k + 1; omega) put_same h2⟩⟩
  have z := go xs.length 0 (by omega) [] N rfl h0 i0
  rw [List.drop_zero] at z
  exact z
theorem app_eq {a : Addr} {xs : List D} {d : D} (h : M a = some (.lst xs)) : mAppD (.ref a) [d] M Q = (xs.length < sizeLine ∧ Q .non (put M a (.lst (xs ++ [d])))) := by
  simp only [mAppD, h]
theorem isLs_ref {a : Addr} {xs : List D} (h : M a = some (.lst xs)) : isLs (.ref a) M := by
  have e : seqL M (.ref a) = some xs := by
    show (match M a with
      | some (MC.lst xs) => some xs
      | _ => none) = some xs
    rw [h]
  unfold isLs
  rw [e]
  rfl
theorem seqA_sub {N : Md} {d : D} {xs : List D} (h : seqA M d = some xs) (k : Sub M N) : seqA N d = some xs := by
  cases d with
  | ref a =>
    cases e : M a with
    | none =>
      have h' : (match M a with
        | some (MC.lst xs) => some xs
        | _ => none) = some xs := h
      rw [e] at h'
      cases h'
    | some c =>
      have h' : (match M a with
        | some (MC.lst xs) => some xs
        | _ => none) = some xs := h
      rw [e] at h'
      cases c with
      | lst ys =>
        cases h'
        exact seqA_ref (k a _ e)
      | _ => cases h'
  | _ => first
    | exact h
    | cases h
theorem Sub.free {N : Md} (k : Sub M N) {p : Addr} (h : N p = none) : M p = none := by
  cases e : M p with
  | none => rfl
  | some c =>
    rw [k p c e] at h
    cases h
theorem items_tup {xs : List D} {R : Src → Md → Prop} : itemsD (.tup xs) M R = R ⟨xs, fun N => seqA N (.tup xs) = some xs⟩ M := rfl
theorem items_lst {xs : List D} {R : Src → Md → Prop} : itemsD (.lst xs) M R = R ⟨xs, fun N => seqA N (.lst xs) = some xs⟩ M := rfl
theorem items_rng {lo hi : Int} {R : Src → Md → Prop} : itemsD (.rng lo hi) M R = ((-(2 ^ 62) ≤ lo ∧ lo < 2 ^ 62 ∧ -(2 ^ 62) ≤ hi ∧ hi < 2 ^ 62) ∧ R ⟨(List.range (hi - lo).toNat).map fun i => .int (lo + (i : Nat)), fun _ => True⟩ M) := rfl
theorem seqA_put {d0 : D} {xs : List D} {p : Addr} {c : MC} (h : seqA M d0 = some xs) (hp : M p = none) : seqA (put M p c) d0 = some xs := by
  cases d0 with
  | ref a =>
    have h' : (match M a with
      | some (MC.lst xs) => some xs
      | _ => none) = some xs := h
    have ne : a ≠ p := fun e => by
      subst e
      rw [hp] at h'
      cases h'
    show (match put M p c a with
      | some (MC.lst xs) => some xs
      | _ => none) = some xs
    rw [put_ne ne]
    exact h'
  | _ => first
    | exact h
    | cases h
theorem seqA_keep {d0 : D} {xs : List D} {s C : Addr} {fs : Flds} (h : seqA M d0 = some xs) (hs : M s = some (.ins C fs)) (c : MC) : seqA (put M s c) d0 = some xs := by
  cases d0 with
  | ref a =>
    have h' : (match M a with
      | some (MC.lst xs) => some xs
      | _ => none) = some xs := h
    have ne : a ≠ s := fun e => by
      subst e
      rw [hs] at h'
      cases h'
    show (match put M s c a with
      | some (MC.lst xs) => some xs
      | _ => none) = some xs
    rw [put_ne ne]
    exact h'
  | _ => first
    | exact h
    | cases h
theorem tLcF_seq {Xd : XD} {tsrc te : TEd} {i : Nat} {vs : List Nat} {f : D → D} {d0 : D} {xs : List D} (h0 : ∀ Q' : VD, Q' d0 M → tsrc Xd δ M Q') (hq : seqA M d0 = some xs) (hz : xs.length ≤ sizeLine)
    (he : ∀ d ∈ xs, ∀ p c, M p = none → ∀ Q' : VD, Q' (f d) (put M p c) → te X0 ((wipeD δ vs).set i (some d)) (put M p c) Q') (h : Q (.lst (xs.map f)) M) : tLcF (.one i) (tIS tsrc) tYs te vs Xd δ M Q := by
  refine h0 _ ?_
  rw [items_eq hq]
  exact fun p hp => lcF_run hz (fun p c hp => seqA_put hq hp) he h p hp
theorem tLcF_ints {Xd : XD} {tsrc te : TEd} {i : Nat} {vs : List Nat} {f : Int → D} {d0 : D} {ns : List Int} (h0 : ∀ Q' : VD, Q' d0 M → tsrc Xd δ M Q') (hq : seqA M d0 = some (iL ns)) (hz : ns.length ≤ sizeLine)
    (he : ∀ n ∈ ns, ∀ p c, M p = none → ∀ Q' : VD, Q' (f n) (put M p c) → te X0 ((wipeD δ vs).set i (some (.int n))) (put M p c) Q') (h : Q (.lst (ns.map f)) M) : tLcF (.one i) (tIS tsrc) tYs te vs Xd δ M Q :=
  tLcF_seq (f := mapI f) h0 hq (by rw [iL_len]; exact hz) (fun d hd p c hp Q' hQ => by
    obtain ⟨n, hn, rfl⟩ := List.mem_map.mp hd
    exact he n hn p c hp Q' hQ) (by rw [map_ints]; exact h)
theorem filt_ints (b : Int → Bool) (ns : List Int) : (iL ns).filter (fun d => match d with
    | .int i => b i
    | _ => false) = iL (ns.filter b) := by
  unfold iL
  rw [List.filter_map]
  rfl
/-- [x for x in ns if ..] -/
theorem tLcF_filt {Xd : XD} {tsrc : TEd} {tt : TTd} {i : Nat} {vs : List Nat} {b : Int → Bool} {d0 : D} {ns : List Int} (h0 : ∀ Q' : VD, Q' d0 M → tsrc Xd δ M Q') (hq : seqA M d0 = some (iL ns)) (hz : ns.length ≤ sizeLine)
    (ht : ∀ n ∈ ns, ∀ p c, M p = none → ∀ Q' : Bool → Md → Prop, Q' (b n) (put M p c) → tt X0 ((wipeD δ vs).set i (some (.int n))) (put M p c) Q') (hl : i < (wipeD δ vs).length) (h : Q (.lst (iL (ns.filter b))) M) : tLcF (.one i) (tIS tsrc) tt (tV i) vs Xd δ M Q := by
  refine h0 _ ?_
  rw [items_eq hq]
  intro p hp
  refine lc_run (b := fun d => match d with
    | .int i => b i
    | _ => false) (f := id) hp (by rw [List.length_nil, iL_len]; omega) (fun c => seqA_put hq hp) (fun d hd c => ?_) (fun d hd _ c δ' e Q' hQ => ?_) ⟨_, put_same, ?_⟩
  · obtain ⟨n, hn, rfl⟩ := List.mem_map.mp hd
    exact ⟨_, rfl, fun Q' hQ => ht n hn p c hp Q' hQ⟩
  · cases e
    show (match ((wipeD δ vs).set i (some d))[i]? with
      | some (some d) => Q' d (put M p c)
      | _ => False)
    rw [List.getElem?_set_self hl]
    exact hQ
  · rw [cut_put hp, List.nil_append, List.map_id, filt_ints]
    exact h
theorem tLcM_ints {Xd : XD} {tsrc te : TEd} {i : Nat} {vs : List Nat} {f : Int → D} {d0 : D} {ns : List Int} (h0 : ∀ Q' : VD, Q' d0 M → tsrc Xd δ M Q') (hq : seqA M d0 = some (iL ns)) (hz : ns.length ≤ sizeLine)
    (he : ∀ n ∈ ns, ∀ p c, M p = none → ∀ Q' : VD, Q' (f n) (put M p c) → te X0 ((wipeD δ vs).set i (some (.int n))) (put M p c) Q') (h : ∀ p, M p = none → Q (.ref p) (put M p (.lst (ns.map f)))) : tLcM (.one i) (tIS tsrc) tYs te vs Xd δ M Q := by
  refine h0 _ ?_
  rw [items_eq hq]
  exact fun p hp => lcM_run (f := mapI f) (by rw [iL_len]; exact hz) p hp (fun c => seqA_put hq hp) (fun d hd c Q' hQ => by
    obtain ⟨n, hn, rfl⟩ := List.mem_map.mp hd
    exact he n hn p c hp Q' hQ) (by rw [map_ints]; exact h p hp)
theorem eqi {i j : Int} : DL.rEqD (.int i) (.int j) M Q = Q (.bl (decide (i = j))) M := rfl
theorem eqs {i j : Str} : DL.rEqD (.str i) (.str j) M Q = Q (.bl (decide (i = j))) M := rfl
theorem eqb {i j : Bool} : DL.rEqD (.bl i) (.bl j) M Q = Q (.bl (decide (i = j))) M := rfl
theorem nei {i j : Int} : DL.rNeD (.int i) (.int j) M Q = Q (.bl (!decide (i = j))) M := rfl
theorem nes {i j : Str} : DL.rNeD (.str i) (.str j) M Q = Q (.bl (!decide (i = j))) M := rfl
theorem neb {i j : Bool} : DL.rNeD (.bl i) (.bl j) M Q = Q (.bl (!decide (i = j))) M := rfl
theorem addi {i j : Int} : rAddD (.int i) (.int j) M Q = Q (.int (i + j)) M := rfl
theorem muli {i j : Int} : rMulD (.int i) (.int j) M Q = (CMul i j ∧ Q (.int (i * j)) M) := rfl
theorem i2_ii {g : Int → Int → D} {i j : Int} : i2 g (.int i) (.int j) M Q = Q (g i j) M := rfl
theorem i2c_ii {C : Int → Int → Prop} {g : Int → Int → D} {i j : Int} : i2c C g (.int i) (.int j) M Q = (C i j ∧ Q (g i j) M) := rfl
def rgI (n : Int) : List Int := (List.range n.toNat).map fun i => ((i : Nat) : Int)
theorem rgI_len {n : Int} : (rgI n).length = n.toNat := by simp [rgI]
theorem rgI_mem {n i : Int} (h : i ∈ rgI n) : 0 ≤ i ∧ i < n := by
  obtain ⟨k, hk, rfl⟩ := List.mem_map.mp h
  have := List.mem_range.mp hk
  omega
theorem rg0 {n : Int} : ((List.range (n - 0).toNat).map fun i => D.int (0 + ((i : Nat) : Int))) = rgL n.toNat := by simp
theorem rgL_iL {n : Int} : rgL n.toNat = iL (rgI n) := by simp [rgL, iL, rgI]
theorem atI_rg {n : Int} {f : Int → D} {x : Int} (h0 : 0 ≤ x) (h1 : x < n) : atI ((rgI n).map f) x = some (f x) := by
  rw [atI_in h0 (by rw [List.length_map, rgI_len]; omega)]
  unfold rgI
  rw [List.map_map, List.getElem?_map, List.getElem?_range (by omega)]
  show some (f ((x.toNat : Nat) : Int)) = some (f x)
  rw [Int.toNat_of_nonneg h0]
theorem tLcF_rng {Xd : XD} {tsrc te : TEd} {i : Nat} {vs : List Nat} {f : Int → D} {n : Int} (h0 : ∀ Q' : VD, Q' (.rng 0 n) M → tsrc Xd δ M Q') (hb : -(2 ^ 62) ≤ n) (hz : n ≤ 16777216)
    (he : ∀ x, 0 ≤ x → x < n → ∀ p c, M p = none → ∀ Q' : VD, Q' (f x) (put M p c) → te X0 ((wipeD δ vs).set i (some (.int x))) (put M p c) Q') (h : Q (.lst ((rgI n).map f)) M) : tLcF (.one i) (tIS tsrc) tYs te vs Xd δ M Q := by
  refine h0 _ ⟨⟨by omega, by omega, hb, by omega⟩, ?_⟩
  rw [rg0, rgL_iL]
  exact fun p hp => lcF_ints (by rw [rgI_len, sizeLine_eq]; omega) (fun _ _ _ => trivial) (fun x hx p c hp Q' hQ => he x (rgI_mem hx).1 (rgI_mem hx).2 p c hp Q' hQ) h p hp
/-- [f x for x in range(n)], a cell -/
theorem tLcM_rng {Xd : XD} {ta : TAd} {te : TEd} {i : Nat} {vs : List Nat} {f : Int → Int} {n : Int} (h0 : ∀ R : List D → Md → Prop, R [.int n] M → ta Xd δ M R) (hb : -(2 ^ 62) ≤ n) (hz : n ≤ 16777216)
    (he : ∀ x, 0 ≤ x → x < n → ∀ p c, M p = none → ∀ Q' : VD, Q' (.int (f x)) (put M p c) → te X0 ((wipeD δ vs).set i (some (.int x))) (put M p c) Q') (h : ∀ p, M p = none → Q (.ref p) (put M p (.lst (iL ((rgI n).map f))))) : tLcM (.one i) (tIR1 ta) tYs te vs Xd δ M Q := by
  refine h0 _ ⟨⟨hb, by omega⟩, fun p hp => ?_⟩
  show lcGo (.one i) tYs te _ _ p _ (rgL n.toNat) _
  rw [rgL_iL]
  refine lcM_run (f := mapI fun x => .int (f x)) (by rw [iL_len, rgI_len, sizeLine_eq]; omega) p hp (fun _ => trivial) (fun d hd c Q' hQ => ?_) ?_
  · obtain ⟨x, hx, rfl⟩ := List.mem_map.mp hd
    exact he x (rgI_mem hx).1 (rgI_mem hx).2 p c hp Q' hQ
  · rw [map_ints]
    have e : ((rgI n).map fun x => D.int (f x)) = iL ((rgI n).map f) := by simp [iL]
    rw [e]
    exact h p hp
theorem paired_get {α β : Type} {R : α → β → Prop} {xs : List α} {ys : List β} (h : Paired R xs ys) : ∀ {k : Nat} (h1 : k < xs.length) (h2 : k < ys.length), R xs[k] ys[k] := by
  induction h with
  | nil =>
    intro k h1
    exact absurd h1 (by simp)
  | cons r _ ih =>
    intro k h1 h2
    cases k with
    | zero => exact r
    | succ k => exact ih (by simpa using h1) (by simpa using h2)
/-! ### == of rows of numbers -/
theorem pys_ints : ∀ ns : List Int, Pys M (iL ns) (ns.map PyData.int)
  | [] => .nil
  | n :: ns => .cons (.int n) (pys_ints ns)
theorem can_ints : ∀ ns : List Int, PyData.canLayAll0 (ns.map PyData.int) = true
  | [] => rfl
  | n :: ns => can_ints ns
theorem dep_ints : ∀ ns : List Int, PyData.depthAll (ns.map PyData.int) = 0
  | [] => rfl
  | n :: ns => by
    show max (PyData.depth (.int n)) (PyData.depthAll (ns.map PyData.int)) = 0
    rw [dep_ints ns]
    rfl
theorem eqv_ints : ∀ ns ms : List Int, PyData.eqvAll (ns.map PyData.int) (ms.map PyData.int) = decide (ns = ms)
  | [], [] => rfl
  | [], m :: ms => rfl
  | n :: ns, [] => rfl
  | n :: ns, m :: ms => by
    show (n == m && PyData.eqvAll (ns.map PyData.int) (ms.map PyData.int)) = _
    rw [eqv_ints ns ms]
    by_cases e : n = m <;> simp [e]
theorem sh_tup {ns : List Int} : SeqAt.shaped (.tuple (ns.map PyData.int)) = true := by
  unfold SeqAt.shaped
  rw [Bool.and_eq_true]
  refine ⟨can_ints ns, decide_eq_true ?_⟩
  show PyData.depthAll (ns.map PyData.int) + 1 ≤ 64
  rw [dep_ints]
  omega
theorem eq_tup {a b : List Int} (h : Q (.bl (decide (a = b))) M) : DL.rEqD (.tup (iL a)) (.tup (iL b)) M Q := ⟨.tuple (a.map .int), .tuple (b.map .int), .tup (pys_ints a), .tup (pys_ints b), sh_tup, sh_tup, by
  show Q (.bl (PyData.eqvAll (a.map PyData.int) (b.map PyData.int))) M
  rw [eqv_ints]
  exact h⟩
theorem ne_tup {a b : List Int} (h : Q (.bl (!decide (a = b))) M) : DL.rNeD (.tup (iL a)) (.tup (iL b)) M Q := ⟨.tuple (a.map .int), .tuple (b.map .int), .tup (pys_ints a), .tup (pys_ints b), sh_tup, sh_tup, by
  show Q (.bl (!PyData.eqvAll (a.map PyData.int) (b.map PyData.int))) M
  rw [eqv_ints]
  exact h⟩
end
end DL
/-! What the head looks at: facts, defs, own errors whose __init__ begins with super().__init__. -/
namespace DLH
open PySem PySem.Spec PyProof.Rows L2 NdefX He
/-- an own error: its name, its __init__ -/
structure ErrS where
  x : Str
  qual : Str
  params : Arguments
  body : List Stmt
  scope : Scope
abbrev ErrW : Type := Option (Str × Str × Arguments × FuncBody × Scope × Addr × Addr)
def ErrS.val (e : ErrS) : ErrW := some ("__init__", e.qual, e.params, .stmts e.body, e.scope, mainGlobals, builtinsNs)
def errW (K : PySem.W.Frag) (e : ErrS) : ErrW := match K.lookup (ma K (ga K e.x) "__init__") with
  | some ⟨_, _, .func fd, _⟩ => some (fd.name, fd.qualname, fd.params, fd.body, fd.scope, fd.globals, fd.builtins)
  | _ => none
def oexB (K : PySem.W.Frag) (C : Addr) : Bool := match K.lookup C with
  | some ⟨.type c, _, .cls cd, sl⟩ => decide (c = "type") && (match cd.mro, sl.toList with
    | .ref C' :: bm, [_, _, _, _, some (.builtin n), _] => decide (C' = C) && (decide (n = "ValueError.__new__") && (PySem.HandSPX.refsVE bm && (cd.hasDict && !cd.hasDel)))
    | _, _ => false)
  | _ => false
theorem oexB_ok {K : PySem.W.Frag} {C : Addr} (h : oexB K C = true) : ∃ nm q N bs bm sn sub ab col dd k0 k1 k2 k3 k5, K.lookup C = some (excClassObj nm q C N bs bm true sn sub ab col dd k0 k1 k2 k3 k5 "ValueError.__new__") ∧ PySem.HandSPX.refsVE bm = true := by
  unfold oexB at h
  split at h
  · rename_i c dd cd sl e
    obtain ⟨h1, h2⟩ := ba h
    have hc := of_decide_eq_true h1
    subst hc
    split at h2
    · rename_i C' bm k0 k1 k2 k3 n k5 hm hs
      obtain ⟨h3, h2⟩ := ba h2
      obtain ⟨h4, h2⟩ := ba h2
      obtain ⟨h5, h2⟩ := ba h2
      obtain ⟨h6, h7⟩ := ba h2
      have e1 := of_decide_eq_true h3
      have e2 := of_decide_eq_true h4
      subst e1 e2
      obtain ⟨nm, bs, mro, ns, qn, hd, sn, sub, ab, col, del⟩ := cd
      have h6 : hd = true := h6
      have h7 : (!del) = true := h7
      have hdel : del = false := by
        cases del
        · rfl
        · cases h7
      dsimp only at hm
      subst hm hdel h6
      have hsl : sl = #[k0, k1, k2, k3, some (.builtin "ValueError.__new__"), k5] := by
        obtain ⟨l⟩ := sl
        simp only at hs
        rw [hs]
      subst hsl
      exact ⟨nm, qn, ns, bs, bm, sn, sub, ab, col, dd, k0, k1, k2, k3, k5, e, h5⟩
    · cases h2
  · cases h
def fileB (K : PySem.W.Frag) (c : Addr) (file : Str) : Bool := match K.lookup c with
  | some ⟨_, _, .fields vs, _⟩ => (match (vs[2]? : Option Value) with
    | some (.str z _) => file == z
    | _ => false)
  | _ => false
def cellB (K : PySem.W.Frag) (c C : Addr) : Bool := match K.lookup c with
  | some ⟨_, _, .cell (some (.ref D)), _⟩ => decide (D = C)
  | _ => false
def initB (K : PySem.W.Frag) (file : Str) (C fI : Addr) (q : Str) : Bool := match K.lookup fI with
  | some ⟨_, _, .func fd, _⟩ => (match fd.closure, fd.code, fd.defaults, fd.kwdefaults, fd.annotations with
    | [(n, cc)], .ref c, .none, .none, none => decide (n = "__class__") && (PySem.W.codeIn K (.ref c) q && (fileB K c file && cellB K cc C))
    | _, _, _, _, _ => false)
  | _ => false
def eqV (a b : Option Value) : Bool := decide (a = b)
def eqB (a b : Option Bool) : Bool := decide (a = b)
def errB (K : PySem.W.Frag) (file : Str) (e : ErrS) : Bool :=
  oexB K (ga K e.x) && (eqO (PySem.W.findIn K (.ref (ga K e.x)) "__setattr__") (some (some (.builtin "object.__setattr__"))) && (eqB (PySem.W.subIn K (.ref (ga K e.x)) (.type "BaseException")) (some true) && (eqV (PySem.W.typeIn K (.ref (ga K e.x))) (some (.type "type")) &&
  (PySem.W.keepIn K (.ref (ga K e.x)) && (initB K file (ga K e.x) (ma K (ga K e.x) "__init__") e.qual && (eqO (PySem.W.nsIn K mainGlobals "super") (some none) && (eqB (PySem.W.mroIn K (ga K e.x) (.ref (ga K e.x))) (some true) && (eqO (PySem.W.nsIn K PySem.cStatics "thirdparty.any") (some none) &&
  (eqO (PySem.W.ks_superIn K (ga K e.x) (ga K e.x) "__init__") (some (some (.builtin "ValueError.__init__"))) && (eqB (PySem.W.subIn K (.ref (ga K e.x)) (.type "ValueError")) (some true) && (eqO (PySem.W.findIn K (.ref (ga K e.x)) "__init__") (some (some (.ref (ma K (ga K e.x) "__init__")))) &&
  (eqV (PySem.W.typeIn K (.ref (ma K (ga K e.x) "__init__"))) (some (.type "function")) && eqO (PySem.W.nsIn K mainGlobals e.x) (some (some (.ref (ga K e.x))))))))))))))))
/-- what such an error's class and __init__ are -/
structure ErrOk (P : Program) (K : PySem.W.Frag) (e : ErrS) : Prop where
  ex : ∃ (F : NF) (cc : Addr) (oc doc pm ct : Value) (od : Option Addr) (osl : Array (Option Value)), DX.SupT P K (ga K e.x) (ma K (ga K e.x) "__init__") F cc ∧ K.lookup (ma K (ga K e.x) "__init__") = some ⟨oc, od, .func (F.fd doc pm ct), osl⟩ ∧ F.params = e.params ∧ F.body = e.body ∧ F.scope = e.scope
  iC : PySem.W.findIn K (.ref (ga K e.x)) "__init__" = some (some (.ref (ma K (ga K e.x) "__init__")))
  tI : PySem.W.typeIn K (.ref (ma K (ga K e.x) "__init__")) = some (.type "function")
  oex : OexC K (ga K e.x)
  g : PySem.W.nsIn K mainGlobals e.x = some (some (.ref (ga K e.x)))
theorem err_ok {P : Program} {K : PySem.W.Frag} {file : Str} {e : ErrS} (hf : P.main.file = file) (ht : (P.main.scope.names.lookup ("super" : Str)).isSome = false) (ha : ∃ (ar : Arg), (e.params.posonlyargs ++ e.params.args).head? = some ar ∧ ar.arg = "self")
    (hw : errW K e = e.val) (h : errB K file e = true) : ErrOk P K e := by
  obtain ⟨h1, h⟩ := ba h
  obtain ⟨h2, h⟩ := ba h
  obtain ⟨h3, h⟩ := ba h
  obtain ⟨h4, h⟩ := ba h
  obtain ⟨h5, h⟩ := ba h
  obtain ⟨h6, h⟩ := ba h
  obtain ⟨h7, h⟩ := ba h
  obtain ⟨h8, h⟩ := ba h
  obtain ⟨h9, h⟩ := ba h
  obtain ⟨h10, h⟩ := ba h
  obtain ⟨h11, h⟩ := ba h
  obtain ⟨h12, h⟩ := ba h
  obtain ⟨h13, h14⟩ := ba h
  have ox : OexC K (ga K e.x) := ⟨oexB_ok h1, of_decide_eq_true h2, of_decide_eq_true h3, of_decide_eq_true h4, h5⟩
  refine ⟨?_, of_decide_eq_true h12, of_decide_eq_true h13, ox, of_decide_eq_true h14⟩
  unfold initB at h6
  unfold errW at hw
  split at h6
  case h_2 => cases h6
  rename_i oc od fd osl lk
  rw [lk] at hw
  have hw : some (fd.name, fd.qualname, fd.params, fd.body, fd.scope, fd.globals, fd.builtins) = some (("__init__" : Str), e.qual, e.params, FuncBody.stmts e.body, e.scope, mainGlobals, builtinsNs) := hw
  split at h6
  case h_2 => cases h6
  rename_i n cc c e1 e2 e3 e4 e5
  obtain ⟨k1, h6⟩ := ba h6
  obtain ⟨k2, h6⟩ := ba h6
  obtain ⟨k3, k4⟩ := ba h6
  have k1 := of_decide_eq_true k1
  subst k1
  obtain ⟨name, qual, params, body, scope, globals, closure, defaults, kwd, doc, pm, an, code, ct, bl⟩ := fd
  dsimp only at hw e1 e2 e3 e4 e5
  injection hw with hw
  injection hw with a1 hw
  injection hw with a2 hw
  injection hw with a3 hw
  injection hw with a4 hw
  injection hw with a5 hw
  injection hw with a6 a7
  subst a1 a2 a3 a4 a5 a6 a7 e1 e2 e3 e4 e5
  refine ⟨⟨"__init__", e.qual, e.params, e.body, e.scope, [("__class__", cc)], c⟩, cc, oc, doc, pm, ct, od, osl, ⟨ox, rfl, ⟨oc, doc, pm, ct, od, osl, lk⟩, k2, ?_, ?_, of_decide_eq_true h7, ht, of_decide_eq_true h8, of_decide_eq_true h9, of_decide_eq_true h10, of_decide_eq_true h11, ha⟩, lk, rfl, rfl, rfl⟩
  · unfold fileB at k3
    split at k3
    · rename_i cl cd vs sl lk2
      split at k3
      · rename_i z t hz
        exact ⟨cl, cd, vs, sl, z, t, lk2, hz, by rw [hf]; exact k3⟩
      · cases k3
    · cases k3
  · unfold cellB at k4
    split at k4
    · rename_i cl cd D sl lk2
      have k4 := of_decide_eq_true k4
      subst k4
      exact ⟨cl, cd, sl, lk2⟩
    · cases k4
/-! ### the Hook -/
structure Spec where
  fa : List Fa
  fn : List DefD
  es : List ErrS
  file : Str
  ex : PySem.W.Frag → Bool
abbrev Al : Type := (Bool × List FnW) × List ErrW
def obsK (S : Spec) (K : PySem.W.Frag) : Al := (((S.fa.all fun f => f.ok K) && ((S.fn.all fun d => d.ok K) && ((S.es.all fun e => errB K S.file e) && S.ex K)), S.fn.map fun d => fnW K d.at_), S.es.map fun e => errW K e)
def valK (S : Spec) : Al := ((true, S.fn.map DefD.val), S.es.map ErrS.val)
def frK (g : Addr → Option Obj) (n : Nat) : PySem.W.Frag := frG g (PySem.cStatics :: asD g n)
def obsG (S : Spec) (n : Nat) (g : Addr → Option Obj) : Al := obsK S (frK g n)
def hook (S : Spec) (n : Nat) : PySem.W.Hook where
  α := Al
  obs := fun s => obsG S n s.heap.get?
  val := fun _ => valK S
  says := fun _ h => ∃ K : PySem.W.Frag, K.In h ∧ obsK S K = valK S
  of := fun _ _ e => ⟨_, frG_in, e⟩
  keeps := fun _ _ _ ⟨K, hK, c⟩ k => ⟨K, PySem.W.Frag.In.keeps hK k, c⟩
theorem obsG_eq {S : Spec} {n : Nat} {g : Addr → Option Obj} {s : Shared} (h : ∀ a, g a = s.heap.get? a) : obsG S n g = (hook S n).obs s := by
  have e : g = s.heap.get? := funext h
  rw [e] <;> rfl
section
variable {S : Spec} {K : PySem.W.Frag}
theorem bools (c : obsK S K = valK S) : (S.fa.all fun f => f.ok K) = true ∧ (S.fn.all fun d => d.ok K) = true ∧ (S.es.all fun e => errB K S.file e) = true ∧ S.ex K = true := by
  have h : ((S.fa.all fun f => f.ok K) && ((S.fn.all fun d => d.ok K) && ((S.es.all fun e => errB K S.file e) && S.ex K))) = true := congrArg (fun z : Al => z.1.1) c
  obtain ⟨h1, h⟩ := ba h
  obtain ⟨h2, h⟩ := ba h
  obtain ⟨h3, h4⟩ := ba h
  exact ⟨h1, h2, h3, h4⟩
theorem fact (c : obsK S K = valK S) (i : Nat) {f : Fa} (h : S.fa[i]? = some f := by rfl) : f.ok K = true := List.all_eq_true.mp (bools c).1 f (List.mem_of_getElem? h)
theorem def_ (c : obsK S K = valK S) (i : Nat) {d : DefD} (h : S.fn[i]? = some d := by rfl) : ∃ fd, FunD K d.name d.qual d.params d.body d.scope (d.dvs K) (d.kws K) (fAd K d.at_) fd := by
  have e : S.fn.map (fun d => fnW K d.at_) = S.fn.map DefD.val := congrArg (fun z : Al => z.1.2) c
  have e2 : (S.fn.map fun d => fnW K d.at_)[i]? = (S.fn.map DefD.val)[i]? := by rw [e]
  rw [List.getElem?_map, List.getElem?_map, h] at e2
  exact DefD.funD (Option.some.inj e2) (List.all_eq_true.mp (bools c).2.1 d (List.mem_of_getElem? h))
theorem err_ {P : Program} (c : obsK S K = valK S) (i : Nat) {e : ErrS} (h : S.es[i]? = some e) (hf : P.main.file = S.file) (ht : (P.main.scope.names.lookup ("super" : Str)).isSome = false) (ha : ∃ (ar : Arg), (e.params.posonlyargs ++ e.params.args).head? = some ar ∧ ar.arg = "self") : ErrOk P K e := by
  have z : S.es.map (fun e => errW K e) = S.es.map ErrS.val := congrArg (fun z : Al => z.2) c
  have e2 : (S.es.map fun e => errW K e)[i]? = (S.es.map ErrS.val)[i]? := by rw [z]
  rw [List.getElem?_map, List.getElem?_map, h] at e2
  exact err_ok hf ht ha (Option.some.inj e2) (List.all_eq_true.mp (bools c).2.2.1 e (List.mem_of_getElem? h))
theorem more (c : obsK S K = valK S) : S.ex K = true := (bools c).2.2.2
end
end DLH
/-! The head's end: the law's def, called with the script where no repr is under way. -/
namespace DL
open PySem PySem.Spec PyProof.Rows L2
variable [B : Obs]
/-- the promise of the law's def, over data: True, whatever the script -/
abbrev spLaw (n : Nat) : SpD := fun ds M Q _ => ∃ ns : List Int, ds = [.scr ns] ∧ ns.length ≤ n ∧ (∀ a, M a = none) ∧ ∀ N, Q (.bl true) N
def hide (h : Heap) (H : Hp) : Heap := hidT h H
theorem law_goes {P : Program} {w : World} {K : PySem.W.Frag} {mg mb : Str → Option Value} {k n : Nat} {fa a : Addr} {fd : FuncData} {x : Str} {s : Shared} {vs : List Value} {ns : List Int}
    (KX : K.In s.heap) (hns : s.heap.Ns mainGlobals mg) (hb : s.heap.Ns builtinsNs mb) (hbb : ∀ x : Str, x ≠ "__name__" → mb x = bootBuiltins x) (hlim : s.heap.NoLimit) (hg : s.gens = #[])
    (ha : s.heap.get? a = some { cls := .type "list", data := .seq vs.toArray }) (hi : IntsAre vs ns) (hl : ns.length ≤ n) (hn : n ≤ sizeLine) (hr : Room k callerA)
    (F : ∀ base : Heap, K.In base → base.Ns mainGlobals mg → FnD P w K mg base k fa fd [x] (spLaw n)) (hbind : ∀ (s : Shared) (u : Value), BindsTo s fd ⟨[u], []⟩ [(x, u)]) :
    codeAny (model P w) callerA (.call (.ref fa) ⟨[.ref a], []⟩) (fun r s' => r = .ok (.ret (.bool true)) ∧ OldK s.heap s'.heap ∧ s'.os = s.os ∧ AllBare s'.gens) s := by
  have rv := vals_ints hi
  have lenV := hi.length
  have small : vs.length ≤ sizeLine := by omega
  -- H: nothing, or the script alone
  have core : ∀ H : Hp, Only H → SqL K H a (ns.map V.int) → HOk P w H s.heap → (∀ b, H b ≠ none → b = a ∧ K.lookup a = none) →
      codeAny (model P w) callerA (.call (.ref fa) ⟨[.ref a], []⟩) (fun r s' => r = .ok (.ret (.bool true)) ∧ OldK s.heap s'.heap ∧ s'.os = s.os ∧ AllBare s'.gens) s := by
    intro H hO hS hok hA
    have stays : ∀ {b : Addr} {o : Obj}, s.heap.get? b = some o → (b = a → K.lookup a = none → False) → (hidT s.heap H).get? b = some o := fun {b o} e nb => hidT_get e (by
      cases q : H b with
      | none => rfl
      | some u =>
        obtain ⟨z1, z2⟩ := hA b (by rw [q]; exact fun z => nomatch z)
        exact (nb z1 z2).elim)
    have nsK : ∀ {b : Addr} {m : Str → Option Value}, s.heap.Ns b m → (hidT s.heap H).Ns b m := fun {b m} ⟨o, es, ep, e, d, r⟩ => ⟨o, es, ep, stays e (fun z _ => by
      subst z
      rw [ha] at e
      cases e
      cases (show Data.seq vs.toArray _ = Data.dict es ep from d)), d, r⟩
    have hKb : K.In (hidT s.heap H) := fun b o e => stays (KX b o e) fun z1 z2 => by
      subst z1
      rw [z2] at e
      cases e
    have e0 : Env0 P w K mg (hidT s.heap H) callerA [] s H := ⟨rfl, ⟨hKb, nsK hns, ⟨mb, nsK hb, hbb⟩, let ⟨mc, h1, h2⟩ := hlim; ⟨mc, nsK h1, h2⟩⟩, fun b o e => of_hidT e, Nat.le_of_eq (hidT_size _ _), trivial, fun b hb => absurd (show b ∈ ([] : List Addr) from hb) (by simp), hok, .of_eq hg⟩
    have sp : toSp K (spLaw n) [.ref a] H (fun v _ => v = .bl true) (fun _ _ _ => False) := ⟨H, fun _ => none, [.scr ns], fun d _ => d = .bl true, X0, ⟨.rfl' H, fun a c e => nomatch e⟩, .cons (.scr hS) .nil, ⟨fun {d M v G H'} _ _ r e => by
      subst e
      cases r
      rfl⟩, kx0, ns, rfl, hl, fun _ => rfl, fun _ => rfl⟩
    refine codeAny_mono ((F _ hKb (nsK hns)).goes hr rfl e0 (us := [.ref a]) (hbind s (.ref a)) (show Vals [V.ref a] [Value.ref a] from .cons rfl .nil) sp) fun r s' h => ?_
    match r, h with
    | .error e, ⟨_, _, _, _, _, _, _, _, _, _, _, _, z⟩ => exact z.elim
    | .ok .next, h => exact h.elim
    | .ok .brk, h => exact h.elim
    | .ok .cont, h => exact h.elim
    | .ok (.ret u), ⟨v, H', os, bare, un, hok', r', q⟩ =>
      have q : v = .bl true := q
      subst q
      obtain rfl : u = Value.bool true := r'
      refine ⟨rfl, OldK.of_keep fun b o e => ?_, os, bare⟩
      rcases hO b with z | ⟨ob, xs, z⟩
      · exact un.keep b o e z (fun t => absurd (show b ∈ ([] : List Addr) from t) (by simp)) (by simp)
      · obtain ⟨e1, _⟩ := hok b _ z
        obtain ⟨e2, _⟩ := hok' b _ (un.frzs b ob _ z)
        rw [e] at e1
        cases e1
        exact e2
  cases hk : K.lookup a with
  | some o =>
    have e := KX a o hk
    rw [ha] at e
    cases e
    exact core (fun _ => none) (fun _ => .inl rfl) (.inr ⟨_, vs.toArray, _, hk, rfl, rfl, rfl, by rw [List.size_toArray]; exact small, by simpa using rv⟩) (fun b u z => nomatch (show (none : Option HO) = some u from z)) fun b z => absurd rfl z
  | none =>
    refine core (fun b => if b = a then some (.frz { cls := .type "list", data := .seq vs.toArray } (.lst (ns.map V.int))) else none) (fun b => ?_) (.inl (.inr ⟨_, if_pos rfl⟩)) (fun b u z => ?_) fun b z => ?_
    · by_cases c : b = a
      · exact .inr ⟨_, _, if_pos c⟩
      · exact .inl (if_neg c)
    · by_cases c : b = a
      · cases (if_pos c).symm.trans z
        subst c
        exact ⟨ha, by rw [List.length_map]; omega, vs, _, rv, ha⟩
      · cases (if_neg c).symm.trans z
    · by_cases c : b = a
      · exact ⟨c, hk⟩
      · exact absurd (if_neg c) z
/-- the goal that the head leaves -/
theorem walk_ofG {l : PySem.W.OpenLaw} {n k : Nat} {q : Program} {loose : List Str} {XP : (Str → Option Value) → Heap → Prop} {YP : World → Heap → Prop} {d : DefRec} {x : Str}
    (hn : l.most = some n) (hn2 : n ≤ sizeLine) (hdf : d.params.defaults = []) (hr : Room k callerA)
    (F : ∀ (w : World) (mg : Str → Option Value) (fa : Addr) (h : Heap), YP w h → h.Ns mainGlobals mg → mg d.name = some (.ref fa) →
      ∃ (K : PySem.W.Frag) (fd : FuncData), K.In h ∧ (∀ (s : Shared) (u : Value), BindsTo s fd ⟨[u], []⟩ [(x, u)]) ∧ ∀ base : Heap, K.In base → base.Ns mainGlobals mg → FnD l.prog w K mg base k fa fd [x] (spLaw n)) :
    PySem.W.WalkO q loose XP YP l.row.toRowW d [] (fun f vs => PySem.call f vs) := by
  refine Att.attach_call hn hdf fun w s₀ s₁ mg mb fa o pm cd doc a vs ns G Y ho hd hcd hmg hobj hints hlen hg => ?_
  obtain ⟨K, fd, KX, hb, hF⟩ := F w mg fa _ Y G.T.g hmg
  exact law_goes KX G.T.g G.T.b G.T.builtins G.T.nolimit hg hobj hints hlen hn2 hr hF hb
end DL
/-! k63: what the defs promise. -/
namespace K63
open PySem PySem.Spec PyProof.Rows L2 DL
variable [B : Obs]
abbrev SpK := PySem.W.Frag → SpD
/-- a row of numbers: a tuple or a cell -/
def NumsAt (M : Md) (d : D) (ns : List Int) : Prop := seqA M d = some (iL ns)
def waysD : D := .tup [.str "a", .str "b", .str "c"]
def isW (w : Str) : Bool := ("a" : Str) == w || (("b" : Str) == w || ("c" : Str) == w)
def sp_is_way : SpK := fun K ds M Q X => ∃ w, ds = [.str w] ∧ Q (.bl (isW w)) M
def sp_check_way : SpK := fun K ds M Q X => ∃ w : Str, ds = [.str w] ∧ w.length ≤ 10000 ∧ (if isW w = true then Q .non M else X (He.ga K "BadWord") [("word", .str w)] M)
/-- the size of an algebra: its field -/
def SizeAt (K : PySem.W.Frag) (M : Md) (d : D) (n : Int) : Prop := ∃ C fs, fldsD M d = some (C, fs) ∧ OKF K C "size" ∧ fs.lookup ("size" : Str) = some (.int n)
def sp_check_element : SpK := fun K ds M Q X => ∃ (d : D) (i n : Int), ds = [d, .int i] ∧ SizeAt K M d n ∧ i.natAbs.log2 < 1920 ∧ (if 0 ≤ i ∧ i < n then Q .non M else X (He.ga K "BadElement") [("element", .int i)] M)
def rowB (ns : List Int) (n : Int) : Bool := decide ((ns.length : Int) = n) && ns.all fun i => decide (0 ≤ i) && decide (i < n)
def sp__is_row : SpK := fun K ds M Q X => ∃ (d : D) (ns : List Int) (n : Int), ds = [d, .int n] ∧ NumsAt M d ns ∧ Q (.bl (rowB ns n)) M
def sp__is_square : SpK := fun K ds M Q X => ∃ (d : D) (xs : List D) (nss : List (List Int)) (n : Int), ds = [d, .int n] ∧ seqA M d = some xs ∧ Paired (fun x ns => NumsAt M x ns) xs nss ∧ Q (.bl (decide ((nss.length : Int) = n) && nss.all fun ns => rowB ns n)) M
/-! ### algebras -/
abbrev CA (K : PySem.W.Frag) : Addr := He.ga K "Algebra"
structure Alg where
  n : Int
  meet : List (List Int)
  rest : List Int
  a : List Int
  b : List Int
  c : List Int
def rowsD (m : List (List Int)) : List D := m.map fun r => .tup (iL r)
def nsA : List Str := ["size", "meet", "rest", "a", "b", "c"]
def dsA (A : Alg) : List D := [.int A.n, .tup (rowsD A.meet), .tup (iL A.rest), .tup (iL A.a), .tup (iL A.b), .tup (iL A.c)]
def algD (K : PySem.W.Frag) (A : Alg) : D := .ins (CA K) nsA (dsA A)
structure WfR (n : Int) (r : List Int) : Prop where
  len : (r.length : Int) = n
  rg : ∀ i, 0 ≤ i → i < n → 0 ≤ gi r i ∧ gi r i < n
structure Wf (A : Alg) : Prop where
  lo : 2 ≤ A.n
  hi : A.n ≤ 32
  ml : (A.meet.length : Int) = A.n
  mr : ∀ r ∈ A.meet, WfR A.n r
  r : WfR A.n A.rest
  a : WfR A.n A.a
  b : WfR A.n A.b
  c : WfR A.n A.c
def gr (m : List (List Int)) (i : Int) : List Int := m.getD i.toNat []
def mt (m : List (List Int)) (x y : Int) : Int := gi (gr m x) y
def joinV (A : Alg) (x y : Int) : Int := gi A.rest (mt A.meet (gi A.rest x) (gi A.rest y))
def zeroV (A : Alg) : Int := mt A.meet 0 (gi A.rest 0)
def sp__join : SpK := fun K ds M Q X => ∃ (A : Alg) (x y : Int), ds = [algD K A, .int x, .int y] ∧ Wf A ∧ 0 ≤ x ∧ x < A.n ∧ 0 ≤ y ∧ y < A.n ∧ Q (.int (joinV A x y)) M
def sp_Algebra_zero : SpK := fun K ds M Q X => ∃ (A : Alg), ds = [algD K A] ∧ Wf A ∧ Q (.int (zeroV A)) M
def sp_Algebra_one : SpK := fun K ds M Q X => ∃ (A : Alg), ds = [algD K A] ∧ Wf A ∧ Q (.int (gi A.rest (zeroV A))) M
def wayT (A : Alg) (w : Str) : List Int := if w = "a" then A.a else if w = "b" then A.b else A.c
def sp_Algebra_table : SpK := fun K ds M Q X => ∃ (A : Alg) (w : Str), ds = [algD K A, .str w] ∧ w.length ≤ 10000 ∧ (if isW w = true then Q (.tup (iL (wayT A w))) M else X (He.ga K "BadWord") [("word", .str w)] M)
def sp_Algebra_join_of : SpK := fun K ds M Q X => ∃ (A : Alg) (x y : Int), ds = [algD K A, .int x, .int y] ∧ Wf A ∧ x.natAbs.log2 < 1920 ∧ y.natAbs.log2 < 1920 ∧
  (if 0 ≤ x ∧ x < A.n then (if 0 ≤ y ∧ y < A.n then Q (.int (joinV A x y)) M else X (He.ga K "BadElement") [("element", .int y)] M) else X (He.ga K "BadElement") [("element", .int x)] M)
def txt (s : Str) : D := .str s
def orderF (m : List (List Int)) (n : Nat) : Option D := ff n fun x => ff n fun y => if mt m x y ≠ mt m y x then some (.tup [.str "order", .int x, .int y]) else none
def groupF (m : List (List Int)) (n : Nat) : Option D := ff n fun x => ff n fun y => ff n fun z => if mt m x (mt m y z) ≠ mt m (mt m x y) z then some (.tup [.str "group", .int x, .int y, .int z]) else none
def zeroF (m : List (List Int)) (r : List Int) (n : Nat) : Option D := ff n fun x => if mt m x (gi r x) ≠ mt m 0 (gi r 0) then some (.tup [.str "zero", .int x]) else none
def restF (m : List (List Int)) (r : List Int) (n : Nat) : Option D := ff n fun x => ff n fun y => if decide (mt m x (gi r y) = mt m 0 (gi r 0)) ≠ decide (mt m x y = x) then some (.tup [.str "rest", .int x, .int y]) else none
def waysL : List Str := ["a", "b", "c"]
def noneF (A : Alg) : Option D := waysL.findSome? fun w => if gi (wayT A w) (zeroV A) ≠ zeroV A then some (.tup [.str "none", .str w]) else none
def joinF (A : Alg) : Option D := waysL.findSome? fun w => ff A.n.toNat fun x => ff A.n.toNat fun y => if gi (wayT A w) (joinV A x y) ≠ joinV A (gi (wayT A w) x) (gi (wayT A w) y) then some (.tup [.str "join", .str w, .int x, .int y]) else none
def orN (o : Option D) (d : D) : D := match o with
  | some r => r
  | none => d
def sp__order_fault : SpK := fun K ds M Q X => ∃ (A : Alg), ds = [algD K A] ∧ Wf A ∧ Q (orN (orderF A.meet A.n.toNat) .non) M
def sp__group_fault : SpK := fun K ds M Q X => ∃ (A : Alg), ds = [algD K A] ∧ Wf A ∧ Q (orN (groupF A.meet A.n.toNat) .non) M
def sp__rest_fault : SpK := fun K ds M Q X => ∃ (A : Alg), ds = [algD K A] ∧ Wf A ∧ Q (orN (zeroF A.meet A.rest A.n.toNat) (orN (restF A.meet A.rest A.n.toNat) .non)) M
def sp__may_fault : SpK := fun K ds M Q X => ∃ (A : Alg), ds = [algD K A] ∧ Wf A ∧ Q (orN (noneF A) (orN (joinF A) .non)) M
def faultV (A : Alg) : D := orN (orderF A.meet A.n.toNat) (orN (groupF A.meet A.n.toNat) (orN (zeroF A.meet A.rest A.n.toNat) (orN (restF A.meet A.rest A.n.toNat) (orN (noneF A) (orN (joinF A) .non)))))
def sp_algebra_fault : SpK := fun K ds M Q X => ∃ (A : Alg), ds = [algD K A] ∧ Wf A ∧ Q (faultV A) M
def badT (m : List (List Int)) (r a b c : List Int) : Option Str :=
  if (decide ((m.length : Int) = r.length) && m.all fun ns => rowB ns r.length) = false then some "meet" else if rowB r r.length = false then some "rest" else if rowB a r.length = false then some "a" else if rowB b r.length = false then some "b" else if rowB c r.length = false then some "c" else none
def sp_Algebra___init__ : SpK := fun K ds M Q X => ∃ (s : Addr) (dm dr da db dc : D) (xs : List D) (m : List (List Int)) (r a b c : List Int), ds = [.ref s, dm, dr, da, db, dc] ∧ M s = some (.ins (CA K) []) ∧ seqA M dm = some xs ∧ Paired (fun x ns => NumsAt M x ns) xs m ∧ NumsAt M dr r ∧ NumsAt M da a ∧ NumsAt M db b ∧ NumsAt M dc c ∧ r.length ≤ 1000 ∧ m.length ≤ 1000 ∧
  (if (r.length : Int) < 2 ∨ 32 < (r.length : Int) then X (He.ga K "BadSize") [("size", .int r.length)] M else match badT m r a b c with
    | some w => X (He.ga K "BadTable") [("word", .str w)] M
    | none => Q .non (put M s (.ins (CA K) (nsA.zip (dsA ⟨r.length, m, r, a, b, c⟩)))))
def sp_Algebra___eq__ : SpK := fun K ds M Q X => ∃ A A', ds = [algD K A, algD K A'] ∧ Q (.bl (decide (A.meet = A'.meet ∧ A.rest = A'.rest ∧ A.a = A'.a ∧ A.b = A'.b ∧ A.c = A'.c))) M
/-! ### the law's state of draws -/
structure StOk (M : Md) (st cs : Addr) : Prop where
  ex : ∃ (ns : List Int) (i c : Int), M st = some (.lst [.ref cs, .int i, .int c]) ∧ M cs = some (.lst (iL ns)) ∧ 0 ≤ i
/-- what stood stays, but the state of draws -/
structure Ext (st cs : Addr) (M N : Md) : Prop where
  at_ : ∀ a c, M a = some c → a ≠ st → a ≠ cs → N a = some c
def sp__law_take : SpK := fun K ds M Q X => ∃ (st cs : Addr) (many : Int), ds = [.ref st, .int many] ∧ StOk M st cs ∧ 0 < many ∧ many < 1000000 ∧
  ∀ (r : Int) (N : Md), 0 ≤ r → r < many → Ext st cs M N → (∀ a, M a = none → N a = none) → StOk N st cs → Q (.int r) N
def isInt : D → Bool
  | .int _ => true
  | _ => false
def sp__law_plain : SpK := fun K ds M Q X => ∃ d, ds = [d] ∧ (tyN M d).isSome = true ∧ Q (.bl (isInt d)) M
def sp__law_cells : SpK := fun K ds M Q X => ∃ ns : List Int, ds = [.scr ns] ∧ ns.length ≤ 63 ∧ ∀ (st cs : Addr) (N : Md), StOk N st cs → Q (.ref st) N
/-- all but p that was free stays free -/
structure Free1 (p : Addr) (M N : Md) : Prop where
  at_ : ∀ a, M a = none → a ≠ p → N a = none
def sp__law_shuffle : SpK := fun K ds M Q X => ∃ (st cs : Addr) (n : Int), ds = [.ref st, .int n] ∧ StOk M st cs ∧ 0 < n ∧ n ≤ 1000 ∧
  ∀ (p : Addr) (N : Md) (ns : List Int), M p = none → Ext st cs M N → Free1 p M N → StOk N st cs → N p = some (.lst (iL ns)) → WfR n ns → Q (.ref p) N
def sp__law_is_row : SpK := fun K ds M Q X => ∃ (a b : List Int) (d : D), ds = [.tup (iL a), d] ∧ NumsAt M d b ∧ b.length ≤ 1000 ∧ Q (.bl (decide (a = b))) M
def flatT (x : D) : Prop := (∃ s, x = .str s) ∨ ∃ i, x = .int i
def sp__law_is_fault : SpK := fun K ds M Q X => ∃ (d : D), ds = [d, d] ∧ (d = .non ∨ ∃ xs, d = .tup xs ∧ xs.length ≤ 1000 ∧ ∀ x ∈ xs, flatT x) ∧ Q (.bl true) M
/-- the tables at d, whatever their shape -/
structure TabA (M : Md) (d : D) (m : List (List Int)) (r a b c : List Int) : Prop where
  ex : ∃ (dm dr da db dc : D) (xs : List D), seqA M d = some [dm, dr, da, db, dc] ∧ seqA M dm = some xs ∧ Paired (fun x ns => NumsAt M x ns) xs m ∧ NumsAt M dr r ∧ NumsAt M da a ∧ NumsAt M db b ∧ NumsAt M dc c
/-- the cells that are not of the state of draws -/
def Bs (st cs : Addr) (a : Addr) : Prop := a ≠ st ∧ a ≠ cs
/-- a row: a cell of S that is neither t nor tm -/
structure RowE (M : Md) (S : Addr → Prop) (t tm : Addr) (d : D) (ns : List Int) : Prop where
  ex : ∃ p : Addr, d = .ref p ∧ S p ∧ p ≠ t ∧ p ≠ tm ∧ M p = some (.lst (iL ns))
/-- the tables at t, with what they hold: the rows m, then the rows q -/
structure TabE (M : Md) (S : Addr → Prop) (t : Addr) (m q : List (List Int)) : Prop where
  ex : ∃ (tm : Addr) (rows rs : List D), S t ∧ S tm ∧ t ≠ tm ∧ M t = some (.lst (.ref tm :: rs)) ∧ Paired (RowE M S t tm) rs q ∧ M tm = some (.lst rows) ∧ Paired (RowE M S t tm) rows m
/-- the tables at t: okl of the number of the rows, ok of each one, k rows behind them -/
structure TabG (M : Md) (S : Addr → Prop) (ok : List Int → Prop) (okl : Nat → Prop) (k : Nat) (t : Addr) : Prop where
  ex : ∃ (tm : Addr) (rows rs : List D), S t ∧ S tm ∧ t ≠ tm ∧ M t = some (.lst (.ref tm :: rs)) ∧ rs.length = k ∧ (∀ d ∈ rs, ∃ ns, RowE M S t tm d ns ∧ ok ns) ∧ M tm = some (.lst rows) ∧ okl rows.length ∧ ∀ d ∈ rows, ∃ ns, RowE M S t tm d ns ∧ ok ns
abbrev TabN (M : Md) (S : Addr → Prop) (n : Int) (k : Nat) (t : Addr) : Prop := TabG M S (WfR n) (fun l => (l : Int) = n) k t
/-- weak rows -/
def okW (b : Nat) (ns : List Int) : Prop := ns.length ≤ b ∧ ∀ i ∈ ns, i.natAbs ≤ 1000000
abbrev TabW (M : Md) (S : Addr → Prop) (b : Nat) (t : Addr) : Prop := TabG M S (okW b) (fun l => l ≤ b) 4 t
/-- drawn steps: three rows of k numbers -/
structure WaysOk (M : Md) (st cs : Addr) (k : Nat) (p : Addr) : Prop where
  ex : ∃ ws : List D, Bs st cs p ∧ M p = some (.lst ws) ∧ ws.length = 3 ∧ ∀ d ∈ ws, ∃ (q : Addr) (ns : List Int), d = .ref q ∧ Bs st cs q ∧ M q = some (.lst (iL ns)) ∧ ns.length = k
def sp__law_draw_steps : SpK := fun K ds M Q X => ∃ (st cs : Addr) (n : Int), ds = [.ref st, .int n] ∧ StOk M st cs ∧ 1 ≤ n ∧ n ≤ 5 ∧ ∀ (p : Addr) (N : Md), StOk N st cs → WaysOk N st cs n.toNat p → Q (.ref p) N
def sp__law_before : SpK := fun K ds M Q X => ∃ (d : D) (ns : List Int) (e : Int), ds = [d, .int e] ∧ NumsAt M d ns ∧ ns.length ≤ 5 ∧ ∀ r : Int, 0 ≤ r → r < 2 ^ ns.length → Q (.int r) M
def sp__law_set_tables : SpK := fun K ds M Q X => ∃ (st cs p o : Addr) (k : Nat) (ns : List Int), ds = [.ref p, .ref o] ∧ StOk M st cs ∧ WaysOk M st cs k p ∧ M o = some (.lst (iL ns)) ∧ WfR (2 ^ k) ns ∧ k ≤ 5 ∧ ∀ (t : Addr) (N : Md), StOk N st cs → TabN N (Bs st cs) (2 ^ k) 4 t → Q (.ref t) N
/-- the tables at d hold what A holds -/
structure TabC (M : Md) (d : D) (A : Alg) : Prop where
  ex : ∃ (dm dr da db dc : D) (xs : List D), seqA M d = some [dm, dr, da, db, dc] ∧ seqA M dm = some xs ∧ Paired (fun x ns => NumsAt M x ns) xs A.meet ∧ NumsAt M dr A.rest ∧ NumsAt M da A.a ∧ NumsAt M db A.b ∧ NumsAt M dc A.c
def sp__law_join : SpK := fun K ds M Q X => ∃ (A : Alg) (d : D) (x y : Int), ds = [d, .int x, .int y] ∧ TabC M d A ∧ Wf A ∧ 0 ≤ x ∧ x < A.n ∧ 0 ≤ y ∧ y < A.n ∧ Q (.int (joinV A x y)) M
def sp__law_group : SpK := fun K ds M Q X => ∃ (A : Alg) (d : D) (xs : List D), ds = [d, .int A.n] ∧ seqA M d = some xs ∧ Paired (fun x ns => NumsAt M x ns) xs A.meet ∧ Wf A ∧ Q (orN (groupF A.meet A.n.toNat) .non) M
def sp__law_mays : SpK := fun K ds M Q X => ∃ (A : Alg) (d : D), ds = [d, .int (zeroV A)] ∧ TabC M d A ∧ Wf A ∧ Q (orN (noneF A) (orN (joinF A) .non)) M
def sp__law_first_fault : SpK := fun K ds M Q X => ∃ (A : Alg) (d : D), ds = [d] ∧ TabC M d A ∧ Wf A ∧ Q (faultV A) M
def sp__law_copy : SpK := fun K ds M Q X => ∃ (d : D) (m : List (List Int)) (r a b c : List Int), ds = [d] ∧ TabA M d m r a b c ∧ r.length ≤ 1000 ∧ m.length ≤ 1000 ∧ (∀ x ∈ m, x.length ≤ 1000) ∧ a.length ≤ 1000 ∧ b.length ≤ 1000 ∧ c.length ≤ 1000 ∧
  ∀ (t : Addr) (N : Md), Sub M N → TabE N (fun a => M a = none) t m [r, a, b, c] → Q (.ref t) N
def sp__law_filled : SpK := fun K ds M Q X => ∃ (st cs t : Addr) (n : Int) (k : Nat), ds = [.ref st, .ref t] ∧ StOk M st cs ∧ TabN M (Bs st cs) n k t ∧ k ≤ 4 ∧ 0 ≤ n ∧ n ≤ 1000 ∧ ∀ N, StOk N st cs → TabN N (Bs st cs) n 4 t → Q (.ref t) N
def sp__law_chain : SpK := fun K ds M Q X => ∃ (st cs : Addr) (n : Int), ds = [.ref st, .int n] ∧ StOk M st cs ∧ 0 ≤ n ∧ n ≤ 100 ∧ ∀ (t : Addr) (N : Md), StOk N st cs → TabN N (Bs st cs) n 4 t → Q (.ref t) N
def sp__law_odd_tables : SpK := fun K ds M Q X => ∃ (st cs : Addr) (w : Int) (g : Bool), ds = [.ref st, .int w, .bl g] ∧ StOk M st cs ∧ 0 ≤ w ∧ w < 3 ∧ ∀ (t : Addr) (N : Md) (n : Int), 2 ≤ n → n ≤ 32 → StOk N st cs → TabN N (Bs st cs) n 4 t → Q (.ref t) N
def sp__law_spoil : SpK := fun K ds M Q X => ∃ (st cs t : Addr) (n : Int) (S : Addr → Prop), ds = [.ref st, .ref t] ∧ StOk M st cs ∧ ¬ S st ∧ ¬ S cs ∧ TabN M S n 4 t ∧ 0 < n ∧ n ≤ 1000 ∧
  ∀ (N : Md), StOk N st cs → TabN N S n 4 t → (∀ a, ¬ S a → a ≠ st → a ≠ cs → N a = M a) → Q .non N
def sp__law_built : SpK := fun K ds M Q X => ∃ (st cs : Addr), ds = [.ref st] ∧ StOk M st cs ∧ ∀ (t : Addr) (N : Md) (n : Int), 2 ≤ n → n ≤ 32 → StOk N st cs → TabN N (Bs st cs) n 4 t → Q (.ref t) N
def dueV (m : List (List Int)) (r a b c : List Int) : D := if (r.length : Int) < 2 ∨ 32 < (r.length : Int) then .tup [.str "size", .int r.length] else match badT m r a b c with
  | some w => .tup [.str "table", .str w]
  | none => .tup [.str "made", .int 0]
def sp__law_shape : SpK := fun K ds M Q X => ∃ (d : D) (m : List (List Int)) (r a b c : List Int), ds = [d] ∧ TabA M d m r a b c ∧ r.length ≤ 1000 ∧ m.length ≤ 1000 ∧ (∀ x ∈ m, x.length ≤ 1000) ∧ a.length ≤ 1000 ∧ b.length ≤ 1000 ∧ c.length ≤ 1000 ∧ Q (dueV m r a b c) M
def sp__law_bend : SpK := fun K ds M Q X => ∃ (st cs t : Addr) (b : Nat), ds = [.ref st, .ref t] ∧ StOk M st cs ∧ TabW M (Bs st cs) b t ∧ b ≤ 100 ∧ ∀ N, StOk N st cs → TabW N (Bs st cs) (b + 1) t → Q .non N
def sp__law_try : SpK := fun K ds M Q X => ∃ (d : D) (m : List (List Int)) (r a b c : List Int), ds = [d] ∧ TabA M d m r a b c ∧ r.length ≤ 1000 ∧ m.length ≤ 1000 ∧ Q (dueV m r a b c) M
def sp__law_refused : SpK := fun K ds M Q X => ∃ (st cs : Addr), ds = [.ref st] ∧ StOk M st cs ∧ ∀ N, Q (.bl true) N
def sp__law_try_join : SpK := fun K ds M Q X => ∃ (A : Alg) (x y : Int), ds = [algD K A, .int x, .int y] ∧ Wf A ∧ x.natAbs.log2 < 1920 ∧ y.natAbs.log2 < 1920 ∧
  Q (if 0 ≤ x ∧ x < A.n then (if 0 ≤ y ∧ y < A.n then .tup [.str "join", .int (joinV A x y)] else .tup [.str "element", .int y]) else .tup [.str "element", .int x]) M
def sp__law_handed : SpK := fun K ds M Q X => ∃ (st cs : Addr) (n : Int), ds = [.ref st, .int n] ∧ StOk M st cs ∧ 0 < n ∧ n ≤ 32 ∧
  ∀ (r : Int) (N : Md), r.natAbs ≤ 1000000 → Ext st cs M N → (∀ a, M a = none → N a = none) → StOk N st cs → Q (.int r) N
def sp__law_joined : SpK := fun K ds M Q X => ∃ (st cs : Addr) (A : Alg) (t : D), ds = [.ref st, algD K A, t] ∧ StOk M st cs ∧ Wf A ∧ (∀ N, Ext st cs M N → TabC N t A) ∧
  ∀ (N : Md), Ext st cs M N → (∀ a, M a = none → N a = none) → StOk N st cs → Q (.bl true) N
def sp__law_no_table : SpK := fun K ds M Q X => ∃ (st cs : Addr) (A : Alg), ds = [.ref st, algD K A] ∧ StOk M st cs ∧ Wf A ∧
  ∀ (N : Md), Ext st cs M N → (∀ a, M a = none → N a = none) → StOk N st cs → Q (.bl true) N
def sp__law_fields : SpK := fun K ds M Q X => ∃ (A : Alg) (t : D), ds = [algD K A, t] ∧ TabC M t A ∧ Wf A ∧ Q (.bl true) M
def sp__law_equal : SpK := fun K ds M Q X => ∃ (st cs t : Addr) (A : Alg), ds = [.ref st, algD K A, .ref t] ∧ StOk M st cs ∧ Wf A ∧ TabE M (Bs st cs) t A.meet [A.rest, A.a, A.b, A.c] ∧ ∀ N, StOk N st cs → Q (.bl true) N
/-- as DL.spLaw 63 -/
def sp_law : SpK := fun K ds M Q X => ∃ ns : List Int, ds = [.scr ns] ∧ ns.length ≤ 63 ∧ (∀ a, M a = none) ∧ ∀ N, Q (.bl true) N
def okE (K : PySem.W.Frag) (C : Addr) : Prop := C = He.ga K "BadWord" ∨ C = He.ga K "BadSize" ∨ C = He.ga K "BadTable" ∨ C = He.ga K "BadElement"
/-- facts -/
structure Fc (P : Program) (K : PySem.W.Frag) (mg : Str → Option Value) : Prop where
  b_len : mg "len" = none
  b_range : mg "range" = none
  b_int : mg "int" = none
  b_bool : mg "bool" = none
  b_str : mg "str" = none
  b_tuple : mg "tuple" = none
  b_list : mg "list" = none
  b_isinstance : mg "isinstance" = none
  b_abs : mg "abs" = none
  b_min : mg "min" = none
  b_repr : mg "repr" = none
  b_super : mg "super" = none
  g_WAYS : HasG K mg "WAYS" waysD
  g_LEAST_SIZE : HasG K mg "LEAST_SIZE" (.int 2)
  g_MOST_SIZE : HasG K mg "MOST_SIZE" (.int 32)
  b_ValueError : mg "ValueError" = none
  g_SayError : HasG K mg "SayError" (.ref (He.ga K "SayError"))
  n_SayError : mg "SayError" = some (.ref (He.ga K "SayError"))
  g_BadWord : HasG K mg "BadWord" (.ref (He.ga K "BadWord"))
  n_BadWord : mg "BadWord" = some (.ref (He.ga K "BadWord"))
  g_BadSize : HasG K mg "BadSize" (.ref (He.ga K "BadSize"))
  n_BadSize : mg "BadSize" = some (.ref (He.ga K "BadSize"))
  g_BadTable : HasG K mg "BadTable" (.ref (He.ga K "BadTable"))
  n_BadTable : mg "BadTable" = some (.ref (He.ga K "BadTable"))
  g_BadElement : HasG K mg "BadElement" (.ref (He.ga K "BadElement"))
  n_BadElement : mg "BadElement" = some (.ref (He.ga K "BadElement"))
  g_Algebra : HasG K mg "Algebra" (.ref (He.ga K "Algebra"))
  n_Algebra : mg "Algebra" = some (.ref (He.ga K "Algebra"))
  e_BadWord : ∀ {w : World} {base : Heap}, HasE P w K mg base "BadWord" (He.ga K "BadWord") "word"
  e_BadSize : ∀ {w : World} {base : Heap}, HasE P w K mg base "BadSize" (He.ga K "BadSize") "size"
  e_BadTable : ∀ {w : World} {base : Heap}, HasE P w K mg base "BadTable" (He.ga K "BadTable") "word"
  e_BadElement : ∀ {w : World} {base : Heap}, HasE P w K mg base "BadElement" (He.ga K "BadElement") "element"
  xf_word : ∀ C, okE K C → XfC K C ∧ PySem.W.findIn K (.ref C) "word" = some none
  xf_size : ∀ C, okE K C → XfC K C ∧ PySem.W.findIn K (.ref C) "size" = some none
  xf_element : ∀ C, okE K C → XfC K C ∧ PySem.W.findIn K (.ref C) "element" = some none
  isx : ∀ C, okE K C → ExcC K C
  x_BadSize_BadSize : PySem.W.exmOne K (.ref (He.ga K "BadSize")) (.ref (He.ga K "BadSize")) = some true
  x_BadTable_BadSize : PySem.W.exmOne K (.ref (He.ga K "BadTable")) (.ref (He.ga K "BadSize")) = some false
  x_BadTable_BadTable : PySem.W.exmOne K (.ref (He.ga K "BadTable")) (.ref (He.ga K "BadTable")) = some true
  x_BadWord_BadWord : PySem.W.exmOne K (.ref (He.ga K "BadWord")) (.ref (He.ga K "BadWord")) = some true
  x_BadElement_BadElement : PySem.W.exmOne K (.ref (He.ga K "BadElement")) (.ref (He.ga K "BadElement")) = some true
  k_BadSize_BadTable : PySem.W.kitOne K (.ref (He.ga K "BadSize")) (.ref (He.ga K "BadTable")) = some false
  k_BadSize_SayError : PySem.W.kitOne K (.ref (He.ga K "BadSize")) (.ref (He.ga K "SayError")) = some true
  k_BadTable_BadElement : PySem.W.kitOne K (.ref (He.ga K "BadTable")) (.ref (He.ga K "BadElement")) = some false
  k_BadTable_SayError : PySem.W.kitOne K (.ref (He.ga K "BadTable")) (.ref (He.ga K "SayError")) = some true
  k_BadElement_BadTable : PySem.W.kitOne K (.ref (He.ga K "BadElement")) (.ref (He.ga K "BadTable")) = some false
  k_BadElement_SayError : PySem.W.kitOne K (.ref (He.ga K "BadElement")) (.ref (He.ga K "SayError")) = some true
  k_BadWord_BadTable : PySem.W.kitOne K (.ref (He.ga K "BadWord")) (.ref (He.ga K "BadTable")) = some false
  k_BadWord_SayError : PySem.W.kitOne K (.ref (He.ga K "BadWord")) (.ref (He.ga K "SayError")) = some true
  k_BadTable_ValueError : PySem.W.kitOne K (.ref (He.ga K "BadTable")) (.type "ValueError") = some true
  is_Algebra : IsC K (He.ga K "Algebra")
  f_size : OKF K (He.ga K "Algebra") "size"
  f_meet : OKF K (He.ga K "Algebra") "meet"
  f_rest : OKF K (He.ga K "Algebra") "rest"
  f_a : OKF K (He.ga K "Algebra") "a"
  f_b : OKF K (He.ga K "Algebra") "b"
  f_c : OKF K (He.ga K "Algebra") "c"
end K63
namespace K63
open PySem PySem.Spec PyProof.Rows L2
def topS (i : Nat) : Stmt := (PySem.W.OpenLaw.prog PySem.Challenge.rw_framesays_k63_algebra_faults).main.body.getD i (.Pass ⟨0, 0, 0, 0⟩)
def inC (j : Nat) (s : Stmt) : Stmt := inClass s j
end K63
/-! Readings of the defs, printed by gen.py. -/
namespace K63
open PySem PySem.Spec PyProof.Rows L2 DL
variable [B : Obs]
def N_is_way : List Str := ["word"]
def t_is_way (K : PySem.W.Frag) : TSd := tRt (tO (rInD false) (tV 0) (tK waysD))
def N_check_way : List Str := ["way"]
def t_check_way (K : PySem.W.Frag) : TSd := tIf' (tNo (tTr (tFn (sp_is_way K) [] (tCo (tV 0) tN0)))) (DX.tRs (He.ga K "BadWord") "word" (tCo (tV 0) tN0)) tNx
def N__is_row : List Str := ["row", "size", "number"]
def t__is_row (K : PySem.W.Frag) : TSd := tSq (tIf' (tTs (tO rNeD (tCl lenD (tCo (tV 0) tN0)) (tV 1))) (tRt (tK (.bl false))) tNx) (tSq (tFo (tIS (tV 0)) (gN 2) (tIf' (tOr' (tTs (tO rLtD (tV 2) (tK (.int 0)))) (tTs (tO rGeD (tV 2) (tV 1)))) (tRt (tK (.bl false))) tNx)) (tRt (tK (.bl true))))
def N__is_square : List Str := ["rows", "size", "row"]
def t__is_square (K : PySem.W.Frag) : TSd := tSq (tIf' (tTs (tO rNeD (tCl lenD (tCo (tV 0) tN0)) (tV 1))) (tRt (tK (.bl false))) tNx) (tSq (tFo (tIS (tV 0)) (gN 2) (tIf' (tNo (tTr (tFn (sp__is_row K) [] (tCo (tV 2) (tCo (tV 1) tN0))))) (tRt (tK (.bl false))) tNx)) (tRt (tK (.bl true))))
def N_Algebra___init__ : List Str := ["self", "meet", "rest", "a", "b", "c", "size", "row"]
def t_Algebra___init__ (K : PySem.W.Frag) : TSd := tSq (tSe (tCl lenD (tCo (tV 2) tN0)) 6) (tSq (tIf' (tOr' (tTs (tO rLtD (tV 6) (tK (.int 2)))) (tTs (tO rGtD (tV 6) (tK (.int 32))))) (DX.tRs (He.ga K "BadSize") "size" (tCo (tV 6) tN0)) tNx) (tSq (tIf' (tNo (tTr (tFn (sp__is_square K) [] (tCo (tV 1) (tCo (tV 6) tN0))))) (DX.tRs (He.ga K "BadTable") "word" (tCo (tK (.str "meet")) tN0)) tNx) (tSq (tIf' (tNo (tTr (tFn (sp__is_row K) [] (tCo (tV 2) (tCo (tV 6) tN0))))) (DX.tRs (He.ga K "BadTable") "word" (tCo (tK (.str "rest")) tN0)) tNx) (tSq (tIf' (tNo (tTr (tFn (sp__is_row K) [] (tCo (tV 3) (tCo (tV 6) tN0))))) (DX.tRs (He.ga K "BadTable") "word" (tCo (tK (.str "a")) tN0)) tNx) (tSq (tIf' (tNo (tTr (tFn (sp__is_row K) [] (tCo (tV 4) (tCo (tV 6) tN0))))) (DX.tRs (He.ga K "BadTable") "word" (tCo (tK (.str "b")) tN0)) tNx) (tSq (tIf' (tNo (tTr (tFn (sp__is_row K) [] (tCo (tV 5) (tCo (tV 6) tN0))))) (DX.tRs (He.ga K "BadTable") "word" (tCo (tK (.str "c")) tN0)) tNx) (tSq (tSf K "size" (tV 0) (tV 6)) (tSq (tSf K "meet" (tV 0) (tCl tupleD (tCo (tLcF (.one 7) (tIS (tV 1)) tYs (tCl tupleD (tCo (tV 7) tN0)) [7]) tN0))) (tSq (tSf K "rest" (tV 0) (tCl tupleD (tCo (tV 2) tN0))) (tSq (tSf K "a" (tV 0) (tCl tupleD (tCo (tV 3) tN0))) (tSq (tSf K "b" (tV 0) (tCl tupleD (tCo (tV 4) tN0))) (tSf K "c" (tV 0) (tCl tupleD (tCo (tV 5) tN0))))))))))))))
def N_Algebra___eq__ : List Str := ["self", "other"]
def t_Algebra___eq__ (K : PySem.W.Frag) : TSd := tRt (tAnV (tCl (isO (He.ga K "Algebra")) (tCo (tV 1) (tCo (tK (.ref (He.ga K "Algebra"))) tN0))) (tAnV (tO rEqD (tFd K "meet" (tV 0)) (tFd K "meet" (tV 1))) (tAnV (tO rEqD (tFd K "rest" (tV 0)) (tFd K "rest" (tV 1))) (tAnV (tO rEqD (tFd K "a" (tV 0)) (tFd K "a" (tV 1))) (tAnV (tO rEqD (tFd K "b" (tV 0)) (tFd K "b" (tV 1))) (tO rEqD (tFd K "c" (tV 0)) (tFd K "c" (tV 1))))))))
def N_Algebra_table : List Str := ["self", "way"]
def t_Algebra_table (K : PySem.W.Frag) : TSd := tSq (tEx (tFn (sp_check_way K) [] (tCo (tV 1) tN0))) (tSq (tIf' (tTs (tO rEqD (tV 1) (tK (.str "a")))) (tRt (tFd K "a" (tV 0))) tNx) (tSq (tIf' (tTs (tO rEqD (tV 1) (tK (.str "b")))) (tRt (tFd K "b" (tV 0))) tNx) (tRt (tFd K "c" (tV 0)))))
def N_Algebra_zero : List Str := ["self"]
def t_Algebra_zero (K : PySem.W.Frag) : TSd := tRt (tO rIxD (tO rIxD (tFd K "meet" (tV 0)) (tK (.int 0))) (tO rIxD (tFd K "rest" (tV 0)) (tK (.int 0))))
def N_Algebra_one : List Str := ["self"]
def t_Algebra_one (K : PySem.W.Frag) : TSd := tRt (tO rIxD (tFd K "rest" (tV 0)) (tMh (He.ga K "Algebra") "zero" (sp_Algebra_zero K) [] (tV 0) tN0))
def N_check_element : List Str := ["algebra", "number"]
def t_check_element (K : PySem.W.Frag) : TSd := tIf' (tOr' (tTs (tO rLtD (tV 1) (tK (.int 0)))) (tTs (tO rGeD (tV 1) (tFd K "size" (tV 0))))) (DX.tRs (He.ga K "BadElement") "element" (tCo (tV 1) tN0)) tNx
def N__join : List Str := ["algebra", "x", "y", "rest"]
def t__join (K : PySem.W.Frag) : TSd := tSq (tSe (tFd K "rest" (tV 0)) 3) (tRt (tO rIxD (tV 3) (tO rIxD (tO rIxD (tFd K "meet" (tV 0)) (tO rIxD (tV 3) (tV 1))) (tO rIxD (tV 3) (tV 2)))))
def N_Algebra_join_of : List Str := ["self", "x", "y"]
def t_Algebra_join_of (K : PySem.W.Frag) : TSd := tSq (tEx (tFn (sp_check_element K) [] (tCo (tV 0) (tCo (tV 1) tN0)))) (tSq (tEx (tFn (sp_check_element K) [] (tCo (tV 0) (tCo (tV 2) tN0)))) (tRt (tFn (sp__join K) [] (tCo (tV 0) (tCo (tV 1) (tCo (tV 2) tN0))))))
def N__order_fault : List Str := ["algebra", "meet", "x", "y"]
def t__order_fault (K : PySem.W.Frag) : TSd := tSq (tSe (tFd K "meet" (tV 0)) 1) (tSq (tFo (tIR1 (tCo (tFd K "size" (tV 0)) tN0)) (gN 2) (tFo (tIR1 (tCo (tFd K "size" (tV 0)) tN0)) (gN 3) (tIf' (tTs (tO rNeD (tO rIxD (tO rIxD (tV 1) (tV 2)) (tV 3)) (tO rIxD (tO rIxD (tV 1) (tV 3)) (tV 2)))) (tRt (tTu (tCo (tK (.str "order")) (tCo (tV 2) (tCo (tV 3) tN0))))) tNx))) (tRt (tK .non)))
def N__group_fault : List Str := ["algebra", "meet", "x", "y", "left", "inner", "right", "z"]
def t__group_fault (K : PySem.W.Frag) : TSd := tSq (tSe (tFd K "meet" (tV 0)) 1) (tSq (tFo (tIR1 (tCo (tFd K "size" (tV 0)) tN0)) (gN 2) (tFo (tIR1 (tCo (tFd K "size" (tV 0)) tN0)) (gN 3) (tSq (tSe (tCl tupleD (tCo (tLcF (.one 5) (tIS (tO rIxD (tV 1) (tV 3))) tYs (tO rIxD (tO rIxD (tV 1) (tV 2)) (tV 5)) [5]) tN0)) 4) (tSq (tSe (tO rIxD (tV 1) (tO rIxD (tO rIxD (tV 1) (tV 2)) (tV 3))) 6) (tIf' (tTs (tO rNeD (tV 4) (tV 6))) (tSq (tSe (tK (.int 0)) 7) (tSq (tWh (tTs (tO rEqD (tO rIxD (tV 4) (tV 7)) (tO rIxD (tV 6) (tV 7)))) (tSe (tO rAddD (tV 7) (tK (.int 1))) 7)) (tRt (tTu (tCo (tK (.str "group")) (tCo (tV 2) (tCo (tV 3) (tCo (tV 7) tN0)))))))) tNx))))) (tRt (tK .non)))
def N__rest_fault : List Str := ["algebra", "meet", "rest", "zero", "x", "y", "is_outside", "is_below"]
def t__rest_fault (K : PySem.W.Frag) : TSd := tSq (tSe (tFd K "meet" (tV 0)) 1) (tSq (tSe (tFd K "rest" (tV 0)) 2) (tSq (tSe (tMh (He.ga K "Algebra") "zero" (sp_Algebra_zero K) [] (tV 0) tN0) 3) (tSq (tFo (tIR1 (tCo (tFd K "size" (tV 0)) tN0)) (gN 4) (tIf' (tTs (tO rNeD (tO rIxD (tO rIxD (tV 1) (tV 4)) (tO rIxD (tV 2) (tV 4))) (tV 3))) (tRt (tTu (tCo (tK (.str "zero")) (tCo (tV 4) tN0)))) tNx)) (tSq (tFo (tIR1 (tCo (tFd K "size" (tV 0)) tN0)) (gN 4) (tFo (tIR1 (tCo (tFd K "size" (tV 0)) tN0)) (gN 5) (tSq (tSe (tO rEqD (tO rIxD (tO rIxD (tV 1) (tV 4)) (tO rIxD (tV 2) (tV 5))) (tV 3)) 6) (tSq (tSe (tO rEqD (tO rIxD (tO rIxD (tV 1) (tV 4)) (tV 5)) (tV 4)) 7) (tIf' (tTs (tO rNeD (tV 6) (tV 7))) (tRt (tTu (tCo (tK (.str "rest")) (tCo (tV 4) (tCo (tV 5) tN0))))) tNx))))) (tRt (tK .non))))))
def N__may_fault : List Str := ["algebra", "zero", "way", "numbers", "joins", "y", "x", "table"]
def t__may_fault (K : PySem.W.Frag) : TSd := tSq (tSe (tMh (He.ga K "Algebra") "zero" (sp_Algebra_zero K) [] (tV 0) tN0) 1) (tSq (tFo (tIS (tK waysD)) (gN 2) (tIf' (tTs (tO rNeD (tO rIxD (tMh (He.ga K "Algebra") "table" (sp_Algebra_table K) [] (tV 0) (tCo (tV 2) tN0)) (tV 1)) (tV 1))) (tRt (tTu (tCo (tK (.str "none")) (tCo (tV 2) tN0)))) tNx)) (tSq (tSe (tCl rangeD (tCo (tFd K "size" (tV 0)) tN0)) 3) (tSq (tSe (tLcF (.one 6) (tIS (tV 3)) tYs (tLcF (.one 5) (tIS (tV 3)) tYs (tFn (sp__join K) [] (tCo (tV 0) (tCo (tV 6) (tCo (tV 5) tN0)))) [5]) [6]) 4) (tSq (tFo (tIS (tK waysD)) (gN 2) (tSq (tSe (tMh (He.ga K "Algebra") "table" (sp_Algebra_table K) [] (tV 0) (tCo (tV 2) tN0)) 7) (tFo (tIS (tV 3)) (gN 6) (tFo (tIS (tV 3)) (gN 5) (tIf' (tTs (tO rNeD (tO rIxD (tV 7) (tO rIxD (tO rIxD (tV 4) (tV 6)) (tV 5))) (tO rIxD (tO rIxD (tV 4) (tO rIxD (tV 7) (tV 6))) (tO rIxD (tV 7) (tV 5))))) (tRt (tTu (tCo (tK (.str "join")) (tCo (tV 2) (tCo (tV 6) (tCo (tV 5) tN0)))))) tNx))))) (tRt (tK .non))))))
def N_algebra_fault : List Str := ["algebra", "fault"]
def t_algebra_fault (K : PySem.W.Frag) : TSd := tSq (tSe (tFn (sp__order_fault K) [] (tCo (tV 0) tN0)) 1) (tSq (tIf' (tTs (tO rIsD (tV 1) (tK .non))) (tSe (tFn (sp__group_fault K) [] (tCo (tV 0) tN0)) 1) tNx) (tSq (tIf' (tTs (tO rIsD (tV 1) (tK .non))) (tSe (tFn (sp__rest_fault K) [] (tCo (tV 0) tN0)) 1) tNx) (tSq (tIf' (tTs (tO rIsD (tV 1) (tK .non))) (tSe (tFn (sp__may_fault K) [] (tCo (tV 0) tN0)) 1) tNx) (tRt (tV 1)))))
def N__law_cells : List Str := ["script", "cell"]
def t__law_cells (K : PySem.W.Frag) : TSd := tRt (tLsM (tCo (tLcM (.one 1) (tIS (tSlc (tV 0) tP0 (tP1 (tK (.int 63))))) tYs (tCl absD (tCo (tCl intC (tCo (tV 1) tN0)) tN0)) [1]) (tCo (tK (.int 0)) (tCo (tK (.int 0)) tN0))))
def N__law_take : List Str := ["state", "many", "cell"]
def t__law_take (K : PySem.W.Frag) : TSd := tSq (tAs (tO rAddD (tO rIxD (tV 0) (tK (.int 2))) (tK (.int 1))) (gS (tV 0) (tK (.int 2)))) (tSq (tIf' (tTs (tO rLtD (tV 1) (tK (.int 2)))) (tRt (tK (.int 0))) tNx) (tSq (tIf' (tTs (tO rLtD (tO rIxD (tV 0) (tK (.int 1))) (tCl lenD (tCo (tO rIxD (tV 0) (tK (.int 0))) tN0)))) (tSq (tSe (tO rIxD (tO rIxD (tV 0) (tK (.int 0))) (tO rIxD (tV 0) (tK (.int 1)))) 2) (tSq (tAs (tO rDivD (tV 2) (tV 1)) (gS (tO rIxD (tV 0) (tK (.int 0))) (tO rIxD (tV 0) (tK (.int 1))))) (tSq (tIf' (tTs (tO rLtD (tV 2) (tV 1))) (tAs (tO rAddD (tO rIxD (tV 0) (tK (.int 1))) (tK (.int 1))) (gS (tV 0) (tK (.int 1)))) tNx) (tRt (tO rModD (tCl intC (tCo (tV 2) tN0)) (tV 1)))))) tNx) (tRt (tO rModD (tCl intC (tCo (tO rModD (tCl intC (tCo (tO rMulD (tO rIxD (tV 0) (tK (.int 2))) (tK (.int 48271))) tN0)) (tK (.int 65537))) tN0)) (tV 1)))))
def N__law_plain : List Str := ["told"]
def t__law_plain (K : PySem.W.Frag) : TSd := tRt (tAnV (tCl isD (tCo (tV 0) (tCo (tK (.ty "int")) tN0))) (tNoV (tCl isD (tCo (tV 0) (tCo (tK (.ty "bool")) tN0)))))
def N__law_shuffle : List Str := ["state", "size", "order", "k", "other", "held"]
def t__law_shuffle (K : PySem.W.Frag) : TSd := tSq (tSe (tLsRg true (tV 1)) 2) (tSq (tFo (tIR1 (tCo (tV 1) tN0)) (gN 3) (tSq (tSe (tO rAddD (tV 3) (tFn (sp__law_take K) [] (tCo (tV 0) (tCo (tO rSubD (tV 1) (tV 3)) tN0)))) 4) (tSq (tSe (tO rIxD (tV 2) (tV 3)) 5) (tSq (tAs (tO rIxD (tV 2) (tV 4)) (gS (tV 2) (tV 3))) (tAs (tV 5) (gS (tV 2) (tV 4))))))) (tRt (tV 2)))
def N__law_is_row : List Str := ["told", "due", "k"]
def t__law_is_row (K : PySem.W.Frag) : TSd := tSq (tIf' (tOr' (tNo (tTr (tCl isD (tCo (tV 0) (tCo (tK (.ty "tuple")) tN0))))) (tTs (tO rNeD (tCl lenD (tCo (tV 0) tN0)) (tCl lenD (tCo (tV 1) tN0))))) (tRt (tK (.bl false))) tNx) (tSq (tFo (tIR1 (tCo (tCl lenD (tCo (tV 1) tN0)) tN0)) (gN 2) (tIf' (tOr' (tNo (tTr (tFn (sp__law_plain K) [] (tCo (tO rIxD (tV 0) (tV 2)) tN0)))) (tTs (tO rNeD (tO rIxD (tV 0) (tV 2)) (tO rIxD (tV 1) (tV 2))))) (tRt (tK (.bl false))) tNx)) (tRt (tK (.bl true))))
def N__law_is_fault : List Str := ["told", "due", "k"]
def t__law_is_fault (K : PySem.W.Frag) : TSd := tSq (tIf' (tTs (tO rIsD (tV 1) (tK .non))) (tRt (tO rIsD (tV 0) (tK .non))) tNx) (tSq (tIf' (tOr' (tNo (tTr (tCl isD (tCo (tV 0) (tCo (tK (.ty "tuple")) tN0))))) (tTs (tO rNeD (tCl lenD (tCo (tV 0) tN0)) (tCl lenD (tCo (tV 1) tN0))))) (tRt (tK (.bl false))) tNx) (tSq (tFo (tIR1 (tCo (tCl lenD (tCo (tV 1) tN0)) tN0)) (gN 2) (tSq (tIf' (tAn (tTr (tCl isD (tCo (tO rIxD (tV 1) (tV 2)) (tCo (tK (.ty "str")) tN0)))) (tNo (tTr (tCl isD (tCo (tO rIxD (tV 0) (tV 2)) (tCo (tK (.ty "str")) tN0)))))) (tRt (tK (.bl false))) tNx) (tSq (tIf' (tAn (tNo (tTr (tCl isD (tCo (tO rIxD (tV 1) (tV 2)) (tCo (tK (.ty "str")) tN0))))) (tNo (tTr (tFn (sp__law_plain K) [] (tCo (tO rIxD (tV 0) (tV 2)) tN0))))) (tRt (tK (.bl false))) tNx) (tIf' (tTs (tO rNeD (tO rIxD (tV 0) (tV 2)) (tO rIxD (tV 1) (tV 2)))) (tRt (tK (.bl false))) tNx)))) (tRt (tK (.bl true)))))
def N__law_draw_steps : List Str := ["state", "size", "thin", "ways", "k", "steps", "x", "y"]
def t__law_draw_steps (K : PySem.W.Frag) : TSd := tSq (tSe (tO rAddD (tK (.int 2)) (tFn (sp__law_take K) [] (tCo (tV 0) (tCo (tK (.int 3)) tN0)))) 2) (tSq (tSe (tLsM tN0) 3) (tSq (tFo (tIR1 (tCo (tK (.int 3)) tN0)) (gN 4) (tSq (tSe (tO rMulM (tLs (tCo (tK (.int 0)) tN0)) (tV 1)) 5) (tSq (tFo (tIR1 (tCo (tV 1) tN0)) (gN 6) (tFo (tIR1 (tCo (tV 1) tN0)) (gN 7) (tIf' (tTs (tO rEqD (tFn (sp__law_take K) [] (tCo (tV 0) (tCo (tV 2) tN0))) (tK (.int 0)))) (tAs (tO rOrD (tO rIxD (tV 5) (tV 6)) (tO rShlD (tK (.int 1)) (tV 7))) (gS (tV 5) (tV 6))) tNx))) (tEx (tMe isLs mAppD (tV 3) (tCo (tV 5) tN0)))))) (tRt (tV 3))))
def N__law_before : List Str := ["steps", "e", "found", "x"]
def t__law_before (K : PySem.W.Frag) : TSd := tSq (tSe (tK (.int 0)) 2) (tSq (tFo (tIR1 (tCo (tCl lenD (tCo (tV 0) tN0)) tN0)) (gN 3) (tIf' (tTr (tO rAndD (tO rIxD (tV 0) (tV 3)) (tV 1))) (tSe (tO rOrD (tV 2) (tO rShlD (tK (.int 1)) (tV 3))) 2) tNx)) (tRt (tV 2)))
def N__law_set_tables : List Str := ["ways", "order", "size", "tables", "e", "k", "at", "f"]
def t__law_set_tables (K : PySem.W.Frag) : TSd := tSq (tSe (tCl lenD (tCo (tV 1) tN0)) 2) (tSq (tSe (tLsM (tCo (tLsM tN0) tN0)) 3) (tSq (tFo (tIR1 (tCo (tV 2) tN0)) (gN 4) (tEx (tMe isLs mAppD (tO rIxD (tV 3) (tK (.int 0))) (tCo (tO rMulM (tLs (tCo (tK (.int 0)) tN0)) (tV 2)) tN0)))) (tSq (tFo (tIR1 (tCo (tK (.int 4)) tN0)) (gN 5) (tEx (tMe isLs mAppD (tV 3) (tCo (tO rMulM (tLs (tCo (tK (.int 0)) tN0)) (tV 2)) tN0)))) (tSq (tFo (tIR1 (tCo (tV 2) tN0)) (gN 4) (tSq (tSe (tO rIxD (tV 1) (tV 4)) 6) (tSq (tAs (tO rIxD (tV 1) (tO rSubD (tO rSubD (tV 2) (tK (.int 1))) (tV 4))) (gS (tO rIxD (tV 3) (tK (.int 1))) (tV 6))) (tSq (tFo (tIR1 (tCo (tV 2) tN0)) (gN 7) (tAs (tO rIxD (tV 1) (tO rAndD (tV 4) (tV 7))) (gS (tO rIxD (tO rIxD (tV 3) (tK (.int 0))) (tV 6)) (tO rIxD (tV 1) (tV 7))))) (tFo (tIR1 (tCo (tK (.int 3)) tN0)) (gN 5) (tAs (tO rIxD (tV 1) (tFn (sp__law_before K) [] (tCo (tO rIxD (tV 0) (tV 5)) (tCo (tV 4) tN0)))) (gS (tO rIxD (tV 3) (tO rAddD (tK (.int 2)) (tV 5))) (tV 6)))))))) (tRt (tV 3))))))
def N__law_join : List Str := ["tables", "x", "y", "rest"]
def t__law_join (K : PySem.W.Frag) : TSd := tSq (tSe (tO rIxD (tV 0) (tK (.int 1))) 3) (tRt (tO rIxD (tV 3) (tO rIxD (tO rIxD (tO rIxD (tV 0) (tK (.int 0))) (tO rIxD (tV 3) (tV 1))) (tO rIxD (tV 3) (tV 2)))))
def N__law_group : List Str := ["meet", "size", "x", "y", "outer", "inner", "whole", "z"]
def t__law_group (K : PySem.W.Frag) : TSd := tSq (tFo (tIR1 (tCo (tV 1) tN0)) (gN 2) (tFo (tIR1 (tCo (tV 1) tN0)) (gN 3) (tSq (tSe (tO rIxD (tV 0) (tV 2)) 4) (tSq (tSe (tO rIxD (tV 0) (tV 3)) 5) (tSq (tSe (tO rIxD (tV 0) (tO rIxD (tV 4) (tV 3))) 6) (tFo (tIR1 (tCo (tV 1) tN0)) (gN 7) (tIf' (tTs (tO rNeD (tO rIxD (tV 4) (tO rIxD (tV 5) (tV 7))) (tO rIxD (tV 6) (tV 7)))) (tRt (tTu (tCo (tK (.str "group")) (tCo (tV 2) (tCo (tV 3) (tCo (tV 7) tN0)))))) tNx))))))) (tRt (tK .non))
def N__law_mays : List Str := ["tables", "zero", "k", "may", "x", "y", "whole"]
def t__law_mays (K : PySem.W.Frag) : TSd := tSq (tFo (tIR1 (tCo (tK (.int 3)) tN0)) (gN 2) (tIf' (tTs (tO rNeD (tO rIxD (tO rIxD (tV 0) (tO rAddD (tK (.int 2)) (tV 2))) (tV 1)) (tV 1))) (tRt (tTu (tCo (tK (.str "none")) (tCo (tO rIxD (tK (.str "abc")) (tV 2)) tN0)))) tNx)) (tSq (tFo (tIR1 (tCo (tK (.int 3)) tN0)) (gN 2) (tSq (tSe (tO rIxD (tV 0) (tO rAddD (tK (.int 2)) (tV 2))) 3) (tFo (tIR1 (tCo (tCl lenD (tCo (tV 3) tN0)) tN0)) (gN 4) (tFo (tIR1 (tCo (tCl lenD (tCo (tV 3) tN0)) tN0)) (gN 5) (tSq (tSe (tO rIxD (tV 3) (tFn (sp__law_join K) [] (tCo (tV 0) (tCo (tV 4) (tCo (tV 5) tN0))))) 6) (tIf' (tTs (tO rNeD (tV 6) (tFn (sp__law_join K) [] (tCo (tV 0) (tCo (tO rIxD (tV 3) (tV 4)) (tCo (tO rIxD (tV 3) (tV 5)) tN0)))))) (tRt (tTu (tCo (tK (.str "join")) (tCo (tO rIxD (tK (.str "abc")) (tV 2)) (tCo (tV 4) (tCo (tV 5) tN0)))))) tNx)))))) (tRt (tK .non)))
def N__law_first_fault : List Str := ["tables", "meet", "rest", "size", "x", "y", "found", "zero"]
def t__law_first_fault (K : PySem.W.Frag) : TSd := tSq (tSe (tO rIxD (tV 0) (tK (.int 0))) 1) (tSq (tSe (tO rIxD (tV 0) (tK (.int 1))) 2) (tSq (tSe (tCl lenD (tCo (tV 2) tN0)) 3) (tSq (tFo (tIR1 (tCo (tV 3) tN0)) (gN 4) (tFo (tIR1 (tCo (tV 3) tN0)) (gN 5) (tIf' (tTs (tO rNeD (tO rIxD (tO rIxD (tV 1) (tV 4)) (tV 5)) (tO rIxD (tO rIxD (tV 1) (tV 5)) (tV 4)))) (tRt (tTu (tCo (tK (.str "order")) (tCo (tV 4) (tCo (tV 5) tN0))))) tNx))) (tSq (tSe (tFn (sp__law_group K) [] (tCo (tV 1) (tCo (tV 3) tN0))) 6) (tSq (tIf' (tTs (tO rIsnD (tV 6) (tK .non))) (tRt (tV 6)) tNx) (tSq (tSe (tO rIxD (tO rIxD (tV 1) (tK (.int 0))) (tO rIxD (tV 2) (tK (.int 0)))) 7) (tSq (tFo (tIR1 (tCo (tV 3) tN0)) (gN 4) (tIf' (tTs (tO rNeD (tO rIxD (tO rIxD (tV 1) (tV 4)) (tO rIxD (tV 2) (tV 4))) (tV 7))) (tRt (tTu (tCo (tK (.str "zero")) (tCo (tV 4) tN0)))) tNx)) (tSq (tFo (tIR1 (tCo (tV 3) tN0)) (gN 4) (tFo (tIR1 (tCo (tV 3) tN0)) (gN 5) (tIf' (tTs (tO rNeD (tO rEqD (tO rIxD (tO rIxD (tV 1) (tV 4)) (tO rIxD (tV 2) (tV 5))) (tV 7)) (tO rEqD (tO rIxD (tO rIxD (tV 1) (tV 4)) (tV 5)) (tV 4)))) (tRt (tTu (tCo (tK (.str "rest")) (tCo (tV 4) (tCo (tV 5) tN0))))) tNx))) (tRt (tFn (sp__law_mays K) [] (tCo (tV 0) (tCo (tV 7) tN0))))))))))))
def N__law_copy : List Str := ["tables", "found", "row", "k"]
def t__law_copy (K : PySem.W.Frag) : TSd := tSq (tSe (tLsM (tCo (tLcM (.one 2) (tIS (tO rIxD (tV 0) (tK (.int 0)))) tYs (tCl listM (tCo (tV 2) tN0)) [2]) tN0)) 1) (tSq (tFo (tIR1 (tCo (tK (.int 4)) tN0)) (gN 3) (tEx (tMe isLs mAppD (tV 1) (tCo (tCl listM (tCo (tO rIxD (tV 0) (tO rAddD (tK (.int 1)) (tV 3))) tN0)) tN0)))) (tRt (tV 1)))
def N__law_filled : List Str := ["state", "tables", "size", "x"]
def t__law_filled (K : PySem.W.Frag) : TSd := tSq (tSe (tCl lenD (tCo (tO rIxD (tV 1) (tK (.int 0))) tN0)) 2) (tSq (tWh (tTs (tO rLtD (tCl lenD (tCo (tV 1) tN0)) (tK (.int 5)))) (tEx (tMe isLs mAppD (tV 1) (tCo (tLcM (.one 3) (tIR1 (tCo (tV 2) tN0)) tYs (tFn (sp__law_take K) [] (tCo (tV 0) (tCo (tV 2) tN0))) [3]) tN0)))) (tRt (tV 1)))
def N__law_chain : List Str := ["state", "size", "meet", "x", "y", "rest"]
def t__law_chain (K : PySem.W.Frag) : TSd := tSq (tSe (tLsM tN0) 2) (tSq (tFo (tIR1 (tCo (tV 1) tN0)) (gN 3) (tEx (tMe isLs mAppD (tV 2) (tCo (tLcM (.one 4) (tIR1 (tCo (tV 1) tN0)) tYs (tCl minD (tCo (tV 3) (tCo (tV 4) tN0))) [4]) tN0)))) (tSq (tSe (tLcM (.one 3) (tIR1 (tCo (tV 1) tN0)) tYs (tO rSubD (tO rSubD (tV 1) (tK (.int 1))) (tV 3)) [3]) 5) (tSq (tIf' (tTs (tO rEqD (tFn (sp__law_take K) [] (tCo (tV 0) (tCo (tK (.int 2)) tN0))) (tK (.int 1)))) (tSe (tLcM (.one 3) (tIR1 (tCo (tV 1) tN0)) tYs (tO rMulD (tO rSubD (tV 1) (tK (.int 1))) (tCl intC (tCo (tO rEqD (tV 3) (tK (.int 0))) tN0))) [3]) 5) tNx) (tRt (tFn (sp__law_filled K) [] (tCo (tV 0) (tCo (tLsM (tCo (tV 2) (tCo (tV 5) tN0))) tN0)))))))
def N__law_odd_tables : List Str := ["state", "way", "great", "meet", "size", "x", "y"]
def t__law_odd_tables (K : PySem.W.Frag) : TSd := tSq (tSe (tLsM tN0) 3) (tSq (tIf' (tTs (tO rEqD (tV 1) (tK (.int 0)))) (tSq (tSe (tO rAddD (tK (.int 2)) (tFn (sp__law_take K) [] (tCo (tV 0) (tCo (tK (.int 4)) tN0)))) 4) (tSq (tFo (tIR1 (tCo (tV 4) tN0)) (gN 5) (tEx (tMe isLs mAppD (tV 3) (tCo (tLcM (.one 6) (tIR1 (tCo (tV 4) tN0)) tYs (tFn (sp__law_take K) [] (tCo (tV 0) (tCo (tV 4) tN0))) [6]) tN0)))) (tRt (tFn (sp__law_filled K) [] (tCo (tV 0) (tCo (tLsM (tCo (tV 3) tN0)) tN0)))))) tNx) (tSq (tIf' (tTs (tO rEqD (tV 1) (tK (.int 1)))) (tRt (tFn (sp__law_chain K) [] (tCo (tV 0) (tCo (tO rAddD (tK (.int 2)) (tFn (sp__law_take K) [] (tCo (tV 0) (tCo (tIfE (tTr (tV 2)) (tK (.int 31)) (tK (.int 8))) tN0)))) tN0)))) tNx) (tSq (tSe (tO rShlD (tK (.int 2)) (tFn (sp__law_take K) [] (tCo (tV 0) (tCo (tK (.int 3)) tN0)))) 4) (tSq (tFo (tIR1 (tCo (tV 4) tN0)) (gN 5) (tEx (tMe isLs mAppD (tV 3) (tCo (tLcM (.one 6) (tIR1 (tCo (tV 4) tN0)) tYs (tO rXorD (tV 5) (tV 6)) [6]) tN0)))) (tRt (tFn (sp__law_filled K) [] (tCo (tV 0) (tCo (tLsM (tCo (tV 3) (tCo (tLsRg true (tV 4)) tN0))) tN0))))))))
def N__law_spoil : List Str := ["state", "tables", "size", "x", "y", "item", "which"]
def t__law_spoil (K : PySem.W.Frag) : TSd := tSq (tSe (tCl lenD (tCo (tO rIxD (tV 1) (tK (.int 1))) tN0)) 2) (tSq (tSe (tFn (sp__law_take K) [] (tCo (tV 0) (tCo (tV 2) tN0))) 3) (tSq (tSe (tFn (sp__law_take K) [] (tCo (tV 0) (tCo (tV 2) tN0))) 4) (tSq (tSe (tFn (sp__law_take K) [] (tCo (tV 0) (tCo (tV 2) tN0))) 5) (tSq (tSe (tFn (sp__law_take K) [] (tCo (tV 0) (tCo (tK (.int 6)) tN0))) 6) (tIf' (tTs (tO rLtD (tV 6) (tK (.int 2)))) (tSq (tAs (tV 5) (gS (tO rIxD (tO rIxD (tV 1) (tK (.int 0))) (tV 3)) (tV 4))) (tIf' (tTs (tO rEqD (tV 6) (tK (.int 1)))) (tAs (tV 5) (gS (tO rIxD (tO rIxD (tV 1) (tK (.int 0))) (tV 4)) (tV 3))) tNx)) (tAs (tV 5) (gS (tO rIxD (tV 1) (tO rSubD (tV 6) (tK (.int 1)))) (tV 3))))))))
def N__law_built : List Str := ["state", "way", "great", "places", "ways", "tables"]
def t__law_built (K : PySem.W.Frag) : TSd := tSq (tSe (tFn (sp__law_take K) [] (tCo (tV 0) (tCo (tK (.int 8)) tN0))) 1) (tSq (tSe (tO rEqD (tFn (sp__law_take K) [] (tCo (tV 0) (tCo (tK (.int 16)) tN0))) (tK (.int 9))) 2) (tSq (tIf' (tTs (tO rLtD (tV 1) (tK (.int 3)))) (tRt (tFn (sp__law_odd_tables K) [] (tCo (tV 0) (tCo (tV 1) (tCo (tV 2) tN0))))) tNx) (tSq (tSe (tIfE (tTr (tV 2)) (tK (.int 5)) (tO rAddD (tK (.int 1)) (tFn (sp__law_take K) [] (tCo (tV 0) (tCo (tK (.int 3)) tN0))))) 3) (tSq (tSe (tFn (sp__law_draw_steps K) [] (tCo (tV 0) (tCo (tV 3) tN0))) 4) (tSq (tSe (tFn (sp__law_set_tables K) [] (tCo (tV 4) (tCo (tFn (sp__law_shuffle K) [] (tCo (tV 0) (tCo (tO rShlD (tK (.int 1)) (tV 3)) tN0))) tN0))) 5) (tSq (tIf' (tTs (tO rGtD (tV 1) (tK (.int 4)))) (tEx (tFn (sp__law_spoil K) [] (tCo (tV 0) (tCo (tV 5) tN0)))) tNx) (tSq (tIf' (tTs (tO rEqD (tV 1) (tK (.int 7)))) (tEx (tFn (sp__law_spoil K) [] (tCo (tV 0) (tCo (tV 5) tN0)))) tNx) (tRt (tV 5)))))))))
def N__law_shape : List Str := ["tables", "size", "k", "rows", "wrong", "row", "odd", "x"]
def t__law_shape (K : PySem.W.Frag) : TSd := tSq (tSe (tCl lenD (tCo (tO rIxD (tV 0) (tK (.int 1))) tN0)) 1) (tSq (tIf' (tOr' (tTs (tO rLtD (tV 1) (tK (.int 2)))) (tTs (tO rGtD (tV 1) (tK (.int 32))))) (tRt (tTu (tCo (tK (.str "size")) (tCo (tV 1) tN0)))) tNx) (tSq (tFo (tIR1 (tCo (tK (.int 5)) tN0)) (gN 2) (tSq (tSe (tLs (tCo (tO rIxD (tV 0) (tV 2)) tN0)) 3) (tSq (tIf' (tTs (tO rEqD (tV 2) (tK (.int 0)))) (tSe (tO rIxD (tV 0) (tK (.int 0))) 3) tNx) (tSq (tSe (tAnV (tO rEqD (tV 2) (tK (.int 0))) (tO rNeD (tCl lenD (tCo (tV 3) tN0)) (tV 1))) 4) (tSq (tFo (tIS (tV 3)) (gN 5) (tSq (tSe (tLcF (.one 7) (tIS (tV 5)) (tOr' (tTs (tO rLtD (tV 7) (tK (.int 0)))) (tTs (tO rGeD (tV 7) (tV 1)))) (tV 7) [7]) 6) (tIf' (tOr' (tTs (tO rNeD (tCl lenD (tCo (tV 5) tN0)) (tV 1))) (tTs (tO rNeD (tV 6) (tLs tN0)))) (tSe (tK (.bl true)) 4) tNx))) (tIf' (tTr (tV 4)) (tRt (tTu (tCo (tK (.str "table")) (tCo (tO rIxD (tLs (tCo (tK (.str "meet")) (tCo (tK (.str "rest")) (tCo (tK (.str "a")) (tCo (tK (.str "b")) (tCo (tK (.str "c")) tN0)))))) (tV 2)) tN0)))) tNx)))))) (tRt (tTu (tCo (tK (.str "made")) (tCo (tK (.int 0)) tN0))))))
def N__law_bend : List Str := ["state", "tables", "which", "row", "outer", "way", "at"]
def t__law_bend (K : PySem.W.Frag) : TSd := tSq (tSe (tFn (sp__law_take K) [] (tCo (tV 0) (tCo (tK (.int 5)) tN0))) 2) (tSq (tSe (tO rIxD (tV 1) (tV 2)) 3) (tSq (tSe (tO rEqD (tV 2) (tK (.int 0))) 4) (tSq (tIf' (tAn (tTr (tV 4)) (tAn (tTs (tO rNeD (tV 3) (tLs tN0))) (tTs (tO rGtD (tFn (sp__law_take K) [] (tCo (tV 0) (tCo (tK (.int 3)) tN0))) (tK (.int 0)))))) (tSq (tSe (tO rIxD (tO rIxD (tV 1) (tK (.int 0))) (tFn (sp__law_take K) [] (tCo (tV 0) (tCo (tCl lenD (tCo (tO rIxD (tV 1) (tK (.int 0))) tN0)) tN0)))) 3) (tSe (tK (.bl false)) 4)) tNx) (tSq (tSe (tFn (sp__law_take K) [] (tCo (tV 0) (tCo (tK (.int 5)) tN0))) 5) (tIf' (tAn (tTs (tO rEqD (tV 5) (tK (.int 0)))) (tTr (tV 4))) (tEx (tMe isLs mAppD (tV 3) (tCo (tO rMulM (tLs (tCo (tK (.int 0)) tN0)) (tCl lenD (tCo (tO rIxD (tV 1) (tK (.int 1))) tN0))) tN0))) (tIf' (tTs (tO rEqD (tV 5) (tK (.int 0)))) (tEx (tMe isLs mAppD (tV 3) (tCo (tK (.int 0)) tN0))) (tIf' (tAn (tTs (tO rEqD (tV 5) (tK (.int 1)))) (tTs (tO rNeD (tV 3) (tLs tN0)))) (tEx (tMe0 isLs mPopD (tV 3))) (tIf' (tAn (tTs (tO rGtD (tV 5) (tK (.int 1)))) (tAn (tNo (tTr (tV 4))) (tTs (tO rNeD (tV 3) (tLs tN0))))) (tSq (tSe (tFn (sp__law_take K) [] (tCo (tV 0) (tCo (tCl lenD (tCo (tV 3) tN0)) tN0))) 6) (tAs (tO rIxD (tLs (tCo (tCl lenD (tCo (tO rIxD (tV 1) (tK (.int 1))) tN0)) (tCo (tU rNegD (tK (.int 1))) (tCo (tK (.int 1000000)) tN0)))) (tO rSubD (tV 5) (tK (.int 2)))) (gS (tV 3) (tV 6)))) tNx))))))))
def N__law_try : List Str := ["tables", "e"]
def t__law_try (K : PySem.W.Frag) : TSd := tSq (tTry K (tEx (tMk (He.ga K "Algebra") (sp_Algebra___init__ K) [] (tCo (tO rIxD (tV 0) (tK (.int 0))) (tCo (tO rIxD (tV 0) (tK (.int 1))) (tCo (tO rIxD (tV 0) (tK (.int 2))) (tCo (tO rIxD (tV 0) (tK (.int 3))) (tCo (tO rIxD (tV 0) (tK (.int 4))) tN0))))))) [⟨.ref (He.ga K "BadSize"), some 1, fun a cls d => tSq (tIf' (tOr' (tTr (tIsE K (okE K) a cls d (tCo (tV 1) (tCo (tK (.ref (He.ga K "BadTable"))) tN0)))) (tNo (tTr (tIsE K (okE K) a cls d (tCo (tV 1) (tCo (tK (.ref (He.ga K "SayError"))) tN0)))))) (tRt (tTu (tCo (tK (.str "other")) (tCo (tK (.int 0)) tN0)))) tNx) (tRt (tTu (tCo (tK (.str "size")) (tCo (tIfE (tTr (tFn (sp__law_plain K) [] (tCo (tXfd (okE K) a cls d "size" (tV 1)) tN0))) (tXfd (okE K) a cls d "size" (tV 1)) (tK (.str "no number"))) tN0))))⟩, ⟨.ref (He.ga K "BadTable"), some 1, fun a cls d => tSq (tIf' (tOr' (tTr (tIsE K (okE K) a cls d (tCo (tV 1) (tCo (tK (.ref (He.ga K "BadElement"))) tN0)))) (tNo (tTr (tIsE K (okE K) a cls d (tCo (tV 1) (tCo (tK (.ty "ValueError")) tN0)))))) (tRt (tTu (tCo (tK (.str "other")) (tCo (tK (.int 0)) tN0)))) tNx) (tRt (tTu (tCo (tK (.str "table")) (tCo (tIfE (tTr (tIsE K (okE K) a cls d (tCo (tV 1) (tCo (tK (.ref (He.ga K "SayError"))) tN0)))) (tXfd (okE K) a cls d "word" (tV 1)) (tK (.int 0))) tN0))))⟩, ⟨.ref (He.ga K "SayError"), none, fun a cls d => tRt (tTu (tCo (tK (.str "other")) (tCo (tK (.int 0)) tN0)))⟩]) (tRt (tTu (tCo (tK (.str "made")) (tCo (tK (.int 0)) tN0))))
def N__law_refused : List Str := ["state", "size", "tables", "k", "due", "kept"]
def t__law_refused (K : PySem.W.Frag) : TSd := tSq (tSe (tO rIxD (tLs (tCo (tK (.int 2)) (tCo (tK (.int 3)) (tCo (tK (.int 4)) (tCo (tK (.int 32)) (tCo (tK (.int 33)) (tCo (tK (.int 1)) (tCo (tK (.int 0)) (tCo (tK (.int 34)) tN0))))))))) (tFn (sp__law_take K) [] (tCo (tV 0) (tCo (tK (.int 8)) tN0)))) 1) (tSq (tSe (tFn (sp__law_chain K) [] (tCo (tV 0) (tCo (tV 1) tN0))) 2) (tSq (tFo (tIR1 (tCo (tFn (sp__law_take K) [] (tCo (tV 0) (tCo (tK (.int 3)) tN0))) tN0)) (gN 3) (tEx (tFn (sp__law_bend K) [] (tCo (tV 0) (tCo (tV 2) tN0))))) (tSq (tSe (tFn (sp__law_shape K) [] (tCo (tV 2) tN0)) 4) (tSq (tSe (tCl reprD (tCo (tV 2) tN0)) 5) (tRt (tAnV (tO rEqD (tFn (sp__law_try K) [] (tCo (tV 2) tN0)) (tV 4)) (tO rEqD (tCl reprD (tCo (tV 2) tN0)) (tV 5))))))))
def N__law_try_join : List Str := ["made", "x", "y", "told", "e"]
def t__law_try_join (K : PySem.W.Frag) : TSd := tSq (tTry K (tSe (tMh (He.ga K "Algebra") "join_of" (sp_Algebra_join_of K) [] (tV 0) (tCo (tV 1) (tCo (tV 2) tN0))) 3) [⟨.ref (He.ga K "BadElement"), some 4, fun a cls d => tSq (tIf' (tOr' (tTr (tIsE K (okE K) a cls d (tCo (tV 4) (tCo (tK (.ref (He.ga K "BadTable"))) tN0)))) (tNo (tTr (tIsE K (okE K) a cls d (tCo (tV 4) (tCo (tK (.ref (He.ga K "SayError"))) tN0)))))) (tRt (tTu (tCo (tK (.str "other")) (tCo (tK (.int 0)) tN0)))) tNx) (tRt (tTu (tCo (tK (.str "element")) (tCo (tIfE (tTr (tFn (sp__law_plain K) [] (tCo (tXfd (okE K) a cls d "element" (tV 4)) tN0))) (tXfd (okE K) a cls d "element" (tV 4)) (tK (.str "no number"))) tN0))))⟩, ⟨.ref (He.ga K "SayError"), none, fun a cls d => tRt (tTu (tCo (tK (.str "other")) (tCo (tK (.int 0)) tN0)))⟩]) (tRt (tTu (tCo (tK (.str "join")) (tCo (tIfE (tTr (tFn (sp__law_plain K) [] (tCo (tV 3) tN0))) (tV 3) (tK (.str "no number"))) tN0))))
def N__law_handed : List Str := ["state", "size", "way"]
def t__law_handed (K : PySem.W.Frag) : TSd := tSq (tSe (tFn (sp__law_take K) [] (tCo (tV 0) (tCo (tK (.int 7)) tN0))) 2) (tSq (tIf' (tTs (tO rLtD (tV 2) (tK (.int 4)))) (tRt (tFn (sp__law_take K) [] (tCo (tV 0) (tCo (tV 1) tN0)))) tNx) (tRt (tO rIxD (tLs (tCo (tV 1) (tCo (tU rNegD (tK (.int 1))) (tCo (tK (.int 1000000)) tN0)))) (tO rSubD (tV 2) (tK (.int 4))))))
def N__law_joined : List Str := ["state", "made", "tables", "size", "k", "x", "y", "due"]
def t__law_joined (K : PySem.W.Frag) : TSd := tSq (tSe (tCl lenD (tCo (tO rIxD (tV 2) (tK (.int 1))) tN0)) 3) (tSq (tFo (tIR1 (tCo (tK (.int 3)) tN0)) (gN 4) (tSq (tSe (tFn (sp__law_handed K) [] (tCo (tV 0) (tCo (tV 3) tN0))) 5) (tSq (tSe (tFn (sp__law_handed K) [] (tCo (tV 0) (tCo (tV 3) tN0))) 6) (tSq (tIf' (tOr' (tTs (tO rLtD (tV 5) (tK (.int 0)))) (tTs (tO rGeD (tV 5) (tV 3)))) (tSe (tTu (tCo (tK (.str "element")) (tCo (tV 5) tN0))) 7) (tIf' (tOr' (tTs (tO rLtD (tV 6) (tK (.int 0)))) (tTs (tO rGeD (tV 6) (tV 3)))) (tSe (tTu (tCo (tK (.str "element")) (tCo (tV 6) tN0))) 7) (tSe (tTu (tCo (tK (.str "join")) (tCo (tFn (sp__law_join K) [] (tCo (tV 2) (tCo (tV 5) (tCo (tV 6) tN0)))) tN0))) 7))) (tIf' (tTs (tO rNeD (tFn (sp__law_try_join K) [] (tCo (tV 1) (tCo (tV 5) (tCo (tV 6) tN0)))) (tV 7))) (tRt (tK (.bl false))) tNx))))) (tRt (tK (.bl true))))
def N__law_no_table : List Str := ["state", "made", "word", "e"]
def t__law_no_table (K : PySem.W.Frag) : TSd := tSq (tSe (tO rIxD (tLs (tCo (tK (.str "~a")) (tCo (tK (.str "~b")) (tCo (tK (.str "~c")) (tCo (tK (.str "all")) (tCo (tK (.str "d")) (tCo (tK (.str "")) (tCo (tK (.str "ab")) (tCo (tK (.str "A")) tN0))))))))) (tFn (sp__law_take K) [] (tCo (tV 0) (tCo (tK (.int 8)) tN0)))) 2) (tSq (tTry K (tEx (tMh (He.ga K "Algebra") "table" (sp_Algebra_table K) [] (tV 1) (tCo (tV 2) tN0))) [⟨.ref (He.ga K "BadWord"), some 3, fun a cls d => tSq (tIf' (tOr' (tTr (tIsE K (okE K) a cls d (tCo (tV 3) (tCo (tK (.ref (He.ga K "BadTable"))) tN0)))) (tNo (tTr (tIsE K (okE K) a cls d (tCo (tV 3) (tCo (tK (.ref (He.ga K "SayError"))) tN0)))))) (tRt (tK (.bl false))) tNx) (tRt (tAnV (tCl isD (tCo (tXfd (okE K) a cls d "word" (tV 3)) (tCo (tK (.ty "str")) tN0))) (tO rEqD (tXfd (okE K) a cls d "word" (tV 3)) (tV 2))))⟩, ⟨.ref (He.ga K "SayError"), none, fun a cls d => tRt (tK (.bl false))⟩]) (tRt (tK (.bl false))))
def N__law_fields : List Str := ["made", "tables", "meet", "zero", "x", "told", "k"]
def t__law_fields (K : PySem.W.Frag) : TSd := tSq (tSe (tO rIxD (tV 1) (tK (.int 0))) 2) (tSq (tSe (tO rIxD (tO rIxD (tV 2) (tK (.int 0))) (tO rIxD (tO rIxD (tV 1) (tK (.int 1))) (tK (.int 0)))) 3) (tSq (tIf' (tOr' (tNo (tTr (tFn (sp__law_plain K) [] (tCo (tFd K "size" (tV 0)) tN0)))) (tTs (tO rNeD (tFd K "size" (tV 0)) (tCl lenD (tCo (tV 2) tN0))))) (tRt (tK (.bl false))) tNx) (tSq (tIf' (tOr' (tNo (tTr (tCl isD (tCo (tFd K "meet" (tV 0)) (tCo (tK (.ty "tuple")) tN0))))) (tTs (tO rNeD (tCl lenD (tCo (tFd K "meet" (tV 0)) tN0)) (tCl lenD (tCo (tV 2) tN0))))) (tRt (tK (.bl false))) tNx) (tSq (tFo (tIR1 (tCo (tCl lenD (tCo (tV 2) tN0)) tN0)) (gN 4) (tIf' (tNo (tTr (tFn (sp__law_is_row K) [] (tCo (tO rIxD (tFd K "meet" (tV 0)) (tV 4)) (tCo (tO rIxD (tV 2) (tV 4)) tN0))))) (tRt (tK (.bl false))) tNx)) (tSq (tSe (tLs (tCo (tFd K "rest" (tV 0)) (tCo (tFd K "a" (tV 0)) (tCo (tFd K "b" (tV 0)) (tCo (tFd K "c" (tV 0)) tN0))))) 5) (tSq (tFo (tIR1 (tCo (tK (.int 4)) tN0)) (gN 6) (tIf' (tNo (tTr (tFn (sp__law_is_row K) [] (tCo (tO rIxD (tV 5) (tV 6)) (tCo (tO rIxD (tV 1) (tO rAddD (tK (.int 1)) (tV 6))) tN0))))) (tRt (tK (.bl false))) tNx)) (tSq (tFo (tIR1 (tCo (tK (.int 3)) tN0)) (gN 6) (tIf' (tNo (tTr (tFn (sp__law_is_row K) [] (tCo (tMh (He.ga K "Algebra") "table" (sp_Algebra_table K) [] (tV 0) (tCo (tO rIxD (tK (.str "abc")) (tV 6)) tN0)) (tCo (tO rIxD (tV 1) (tO rAddD (tK (.int 2)) (tV 6))) tN0))))) (tRt (tK (.bl false))) tNx)) (tRt (tFn (sp__law_is_row K) [] (tCo (tTu (tCo (tMh (He.ga K "Algebra") "zero" (sp_Algebra_zero K) [] (tV 0) tN0) (tCo (tMh (He.ga K "Algebra") "one" (sp_Algebra_one K) [] (tV 0) tN0) tN0))) (tCo (tTu (tCo (tV 3) (tCo (tO rIxD (tO rIxD (tV 1) (tK (.int 1))) (tV 3)) tN0))) tN0)))))))))))
def N__law_equal : List Str := ["state", "made", "tables", "rows", "table", "meet", "row", "same", "other", "due", "told"]
def t__law_equal (K : PySem.W.Frag) : TSd := tSq (tSe (tLcF (.one 4) (tIS (tSlc (tV 2) (tP1 (tK (.int 1))) tP0)) tYs (tCl tupleD (tCo (tV 4) tN0)) [4]) 3) (tSq (tSe (tCl tupleD (tCo (tLcF (.one 6) (tIS (tO rIxD (tV 2) (tK (.int 0)))) tYs (tCl tupleD (tCo (tV 6) tN0)) [6]) tN0)) 5) (tSq (tSe (tO (rEqID (He.ga K "Algebra") (sp_Algebra___eq__ K)) (tV 1) (tMk (He.ga K "Algebra") (sp_Algebra___init__ K) [] (tCo (tV 5) (tCo (tO rIxD (tV 3) (tK (.int 0))) (tCo (tO rIxD (tV 3) (tK (.int 1))) (tCo (tO rIxD (tV 3) (tK (.int 2))) (tCo (tO rIxD (tV 3) (tK (.int 3))) tN0))))))) 7) (tSq (tIf' (tTs (tO rIsnD (tV 7) (tK (.bl true)))) (tRt (tK (.bl false))) tNx) (tSq (tSe (tFn (sp__law_copy K) [] (tCo (tV 2) tN0)) 8) (tSq (tEx (tFn (sp__law_spoil K) [] (tCo (tV 0) (tCo (tV 8) tN0)))) (tSq (tSe (tO rEqD (tV 8) (tV 2)) 9) (tSq (tSe (tO (rEqID (He.ga K "Algebra") (sp_Algebra___eq__ K)) (tV 1) (tMk (He.ga K "Algebra") (sp_Algebra___init__ K) [] (tCo (tO rIxD (tV 8) (tK (.int 0))) (tCo (tO rIxD (tV 8) (tK (.int 1))) (tCo (tO rIxD (tV 8) (tK (.int 2))) (tCo (tO rIxD (tV 8) (tK (.int 3))) (tCo (tO rIxD (tV 8) (tK (.int 4))) tN0))))))) 10) (tRt (tAnV (tCl isD (tCo (tV 10) (tCo (tK (.ty "bool")) tN0))) (tO rEqD (tV 10) (tV 9)))))))))))
def N_law : List Str := ["script", "state", "tables", "due", "given", "kept", "made", "k"]
def t_law (K : PySem.W.Frag) : TSd := tSq (tSe (tFn (sp__law_cells K) [] (tCo (tV 0) tN0)) 1) (tSq (tSe (tFn (sp__law_built K) [] (tCo (tV 1) tN0)) 2) (tSq (tSe (tFn (sp__law_first_fault K) [] (tCo (tV 2) tN0)) 3) (tSq (tSe (tFn (sp__law_copy K) [] (tCo (tV 2) tN0)) 4) (tSq (tSe (tCl reprD (tCo (tV 4) tN0)) 5) (tSq (tSe (tMk (He.ga K "Algebra") (sp_Algebra___init__ K) [] (tCo (tO rIxD (tV 4) (tK (.int 0))) (tCo (tO rIxD (tV 4) (tK (.int 1))) (tCo (tO rIxD (tV 4) (tK (.int 2))) (tCo (tO rIxD (tV 4) (tK (.int 3))) (tCo (tO rIxD (tV 4) (tK (.int 4))) tN0)))))) 6) (tSq (tIf' (tOr' (tTs (tO rNeD (tCl reprD (tCo (tV 4) tN0)) (tV 5))) (tNo (tTr (tFn (sp__law_fields K) [] (tCo (tV 6) (tCo (tV 2) tN0)))))) (tRt (tK (.bl false))) tNx) (tSq (tIf' (tNo (tTr (tFn (sp__law_is_fault K) [] (tCo (tFn (sp_algebra_fault K) [] (tCo (tV 6) tN0)) (tCo (tV 3) tN0))))) (tRt (tK (.bl false))) tNx) (tSq (tFo (tIR1 (tCo (tK (.int 5)) tN0)) (gN 7) (tEx (tMe isLs mAppD (tO rIxD (tV 4) (tV 7)) (tCo (tO rIxD (tO rIxD (tV 4) (tV 7)) (tK (.int 0))) tN0)))) (tSq (tAs (tCl lenD (tCo (tV 5) tN0)) (gS (tO rIxD (tO rIxD (tV 4) (tK (.int 0))) (tK (.int 0))) (tK (.int 0)))) (tSq (tAs (tCl lenD (tCo (tV 5) tN0)) (gS (tO rIxD (tV 4) (tK (.int 1))) (tK (.int 0)))) (tSq (tIf' (tNo (tTr (tFn (sp__law_fields K) [] (tCo (tV 6) (tCo (tV 2) tN0))))) (tRt (tK (.bl false))) tNx) (tSq (tIf' (tNo (tTr (tFn (sp__law_is_fault K) [] (tCo (tFn (sp_algebra_fault K) [] (tCo (tV 6) tN0)) (tCo (tV 3) tN0))))) (tRt (tK (.bl false))) tNx) (tSq (tIf' (tOr' (tNo (tTr (tFn (sp__law_joined K) [] (tCo (tV 1) (tCo (tV 6) (tCo (tV 2) tN0)))))) (tNo (tTr (tFn (sp__law_no_table K) [] (tCo (tV 1) (tCo (tV 6) tN0)))))) (tRt (tK (.bl false))) tNx) (tRt (tAnV (tFn (sp__law_equal K) [] (tCo (tV 1) (tCo (tV 6) (tCo (tV 2) tN0)))) (tFn (sp__law_refused K) [] (tCo (tV 1) tN0)))))))))))))))))
end K63
/-! Walks of the defs, printed by gen.py. -/
namespace K63
open PySem PySem.Spec PyProof.Rows L2 DL
variable [B : Obs]
abbrev s_is_way : Stmt := topS 8
theorem sc_is_way : FnScope N_is_way ["word"] (defScope s_is_way) := ⟨rfl, rfl, rfl, by decide +kernel, rfl, by decide +kernel, by decide +kernel⟩
theorem w_is_way {P : Program} {w : World} {K : PySem.W.Frag} {mg : Str → Option Value} {base : Heap} {f : Addr} {fd : FuncData} (Z : Fc P K mg) 
    (F : FunD K "is_way" "is_way" (defArgs s_is_way) (defBody s_is_way) (defScope s_is_way) [] [] f fd) (len : ∀ {ds M Qd Xd}, sp_is_way K ds M Qd Xd → ds.length = 1)
    (pure_ : ∀ {ds M Qd Xd}, sp_is_way K ds M Qd Xd → t_is_way K (outD Qd Xd) (startD N_is_way ds) M) : FnD P w K mg base 1 f fd ["word"] (sp_is_way K) :=
  fn_data F sc_is_way len (fun cdv A outer s H E c => (ss1 (sret (pcmp op_inA ok_in (pv 0) (pgl Z.g_WAYS) (by rfl))))) pure_
abbrev s_check_way : Stmt := topS 10
theorem sc_check_way : FnScope N_check_way ["way"] (defScope s_check_way) := ⟨rfl, rfl, rfl, by decide +kernel, rfl, by decide +kernel, by decide +kernel⟩
theorem w_check_way {P : Program} {w : World} {K : PySem.W.Frag} {mg : Str → Option Value} {base : Heap} {f : Addr} {fd : FuncData} (Z : Fc P K mg) (h_is_way : Has P w K mg base 1 "is_way" ["word"] (sp_is_way K))
    (F : FunD K "check_way" "check_way" (defArgs s_check_way) (defBody s_check_way) (defScope s_check_way) [] [] f fd) (len : ∀ {ds M Qd Xd}, sp_check_way K ds M Qd Xd → ds.length = 1)
    (pure_ : ∀ {ds M Qd Xd}, sp_check_way K ds M Qd Xd → t_check_way K (outD Qd Xd) (startD N_check_way ds) M) : FnD P w K mg base 3 f fd ["way"] (sp_check_way K) :=
  fn_data F sc_check_way len (fun cdv A outer s H E c => (ss1 (sif (ptnot (pttru (pcall c h_is_way (pac (pv 0) pa0)))) (ss1 (srai c Z.e_BadWord (pac (pv 0) pa0))) ss0))) pure_
abbrev s__is_row : Stmt := topS 18
theorem sc__is_row : FnScope N__is_row ["row", "size"] (defScope s__is_row) := ⟨rfl, rfl, rfl, by decide +kernel, rfl, by decide +kernel, by decide +kernel⟩
theorem w__is_row {P : Program} {w : World} {K : PySem.W.Frag} {mg : Str → Option Value} {base : Heap} {f : Addr} {fd : FuncData} (Z : Fc P K mg) 
    (F : FunD K "_is_row" "_is_row" (defArgs s__is_row) (defBody s__is_row) (defScope s__is_row) [] [] f fd) (len : ∀ {ds M Qd Xd}, sp__is_row K ds M Qd Xd → ds.length = 2)
    (pure_ : ∀ {ds M Qd Xd}, sp__is_row K ds M Qd Xd → t__is_row K (outD Qd Xd) (startD N__is_row ds) M) : FnD P w K mg base 1 f fd ["row", "size"] (sp__is_row K) :=
  fn_data F sc__is_row len (fun cdv A outer s H E c => (ssc (sif (ptcmp (op_neA c.hu) ok_ne (pblt call_len ok_len Z.b_len (pac (pv 0) pa0)) (pv 1) (by rfl)) (ss1 (sret pbl)) ss0) (ssc (sfor c.hp c.calm (pis (pv 0)) (gname (i := 2) c.nd rfl (by first | exact .inl rfl | exact .inr rfl)) (ss1 (sif (PW.pt (pwor (ptcmp op_lt (ok_i2 fun _ _ _ => .bl _) (pv 2) pint (by rfl)) (pwor1 (ptcmp op_ge (ok_i2 fun _ _ _ => .bl _) (pv 2) (pv 1) (by rfl))))) (ss1 (sret pbl)) ss0))) (ss1 (sret pbl))))) pure_
abbrev s__is_square : Stmt := topS 17
theorem sc__is_square : FnScope N__is_square ["rows", "size"] (defScope s__is_square) := ⟨rfl, rfl, rfl, by decide +kernel, rfl, by decide +kernel, by decide +kernel⟩
theorem w__is_square {P : Program} {w : World} {K : PySem.W.Frag} {mg : Str → Option Value} {base : Heap} {f : Addr} {fd : FuncData} (Z : Fc P K mg) (h__is_row : Has P w K mg base 1 "_is_row" ["row", "size"] (sp__is_row K))
    (F : FunD K "_is_square" "_is_square" (defArgs s__is_square) (defBody s__is_square) (defScope s__is_square) [] [] f fd) (len : ∀ {ds M Qd Xd}, sp__is_square K ds M Qd Xd → ds.length = 2)
    (pure_ : ∀ {ds M Qd Xd}, sp__is_square K ds M Qd Xd → t__is_square K (outD Qd Xd) (startD N__is_square ds) M) : FnD P w K mg base 2 f fd ["rows", "size"] (sp__is_square K) :=
  fn_data F sc__is_square len (fun cdv A outer s H E c => (ssc (sif (ptcmp (op_neA c.hu) ok_ne (pblt call_len ok_len Z.b_len (pac (pv 0) pa0)) (pv 1) (by rfl)) (ss1 (sret pbl)) ss0) (ssc (sfor c.hp c.calm (pis (pv 0)) (gname (i := 2) c.nd rfl (by first | exact .inl rfl | exact .inr rfl)) (ss1 (sif (ptnot (pttru (pcall c h__is_row (pac (pv 2) (pac (pv 1) pa0))))) (ss1 (sret pbl)) ss0))) (ss1 (sret pbl))))) pure_
abbrev s_Algebra___init__ : Stmt := inC 0 (topS 14)
theorem sc_Algebra___init__ : FnScope N_Algebra___init__ ["self", "meet", "rest", "a", "b", "c"] (defScope s_Algebra___init__) := ⟨rfl, rfl, rfl, by decide +kernel, rfl, by decide +kernel, by decide +kernel⟩
theorem w_Algebra___init__ {P : Program} {w : World} {K : PySem.W.Frag} {mg : Str → Option Value} {base : Heap} {f : Addr} {fd : FuncData} (Z : Fc P K mg) (h__is_square : Has P w K mg base 2 "_is_square" ["rows", "size"] (sp__is_square K)) (h__is_row : Has P w K mg base 1 "_is_row" ["row", "size"] (sp__is_row K))
    (F : FunD K "__init__" "Algebra.__init__" (defArgs s_Algebra___init__) (defBody s_Algebra___init__) (defScope s_Algebra___init__) [] [] f fd) (len : ∀ {ds M Qd Xd}, sp_Algebra___init__ K ds M Qd Xd → ds.length = 6)
    (pure_ : ∀ {ds M Qd Xd}, sp_Algebra___init__ K ds M Qd Xd → t_Algebra___init__ K (outD Qd Xd) (startD N_Algebra___init__ ds) M) : FnD P w K mg base 3 f fd ["self", "meet", "rest", "a", "b", "c"] (sp_Algebra___init__ K) :=
  fn_data F sc_Algebra___init__ len (fun cdv A outer s H E c => (ssc (sset (i := 6) c.nd rfl (by first | exact .inl rfl | exact .inr rfl) (pblt call_len ok_len Z.b_len (pac (pv 2) pa0))) (ssc (sif (PW.pt (pwor (ptcmp op_lt (ok_i2 fun _ _ _ => .bl _) (pv 6) (pgl Z.g_LEAST_SIZE) (by rfl)) (pwor1 (ptcmp op_gt (ok_i2 fun _ _ _ => .bl _) (pv 6) (pgl Z.g_MOST_SIZE) (by rfl))))) (ss1 (srai c Z.e_BadSize (pac (pv 6) pa0))) ss0) (ssc (sif (ptnot (pttru (pcall c h__is_square (pac (pv 1) (pac (pv 6) pa0))))) (ss1 (srai c Z.e_BadTable (pac pstr pa0))) ss0) (ssc (sif (ptnot (pttru (pcall c h__is_row (pac (pv 2) (pac (pv 6) pa0))))) (ss1 (srai c Z.e_BadTable (pac pstr pa0))) ss0) (ssc (sif (ptnot (pttru (pcall c h__is_row (pac (pv 3) (pac (pv 6) pa0))))) (ss1 (srai c Z.e_BadTable (pac pstr pa0))) ss0) (ssc (sif (ptnot (pttru (pcall c h__is_row (pac (pv 4) (pac (pv 6) pa0))))) (ss1 (srai c Z.e_BadTable (pac pstr pa0))) ss0) (ssc (sif (ptnot (pttru (pcall c h__is_row (pac (pv 5) (pac (pv 6) pa0))))) (ss1 (srai c Z.e_BadTable (pac pstr pa0))) ss0) (ssc (sfld (pv 0) (pv 6)) (ssc (sfld (pv 0) (pbty call_tuple_of ok_tuple Z.b_tuple (pac (plcF (own := [("row", 7)]) c (pis (pv 1)) ⟨blk_of N_Algebra___init__ (defScope s_Algebra___init__) rfl rfl ⟨rfl, by decide +kernel, by decide +kernel, by decide +kernel, by decide +kernel⟩, by decide, fun s H C cl fp => g1 7 (by exact c.nd), fun s H C cl fp c => pts0, fun s H C cl fp c => (pbty call_tuple_of ok_tuple Z.b_tuple (pac (pv 7) pa0))⟩) pa0))) (ssc (sfld (pv 0) (pbty call_tuple_of ok_tuple Z.b_tuple (pac (pv 2) pa0))) (ssc (sfld (pv 0) (pbty call_tuple_of ok_tuple Z.b_tuple (pac (pv 3) pa0))) (ssc (sfld (pv 0) (pbty call_tuple_of ok_tuple Z.b_tuple (pac (pv 4) pa0))) (ss1 (sfld (pv 0) (pbty call_tuple_of ok_tuple Z.b_tuple (pac (pv 5) pa0))))))))))))))))) pure_
abbrev s_Algebra___eq__ : Stmt := inC 1 (topS 14)
theorem sc_Algebra___eq__ : FnScope N_Algebra___eq__ ["self", "other"] (defScope s_Algebra___eq__) := ⟨rfl, rfl, rfl, by decide +kernel, rfl, by decide +kernel, by decide +kernel⟩
theorem w_Algebra___eq__ {P : Program} {w : World} {K : PySem.W.Frag} {mg : Str → Option Value} {base : Heap} {f : Addr} {fd : FuncData} (Z : Fc P K mg) 
    (F : FunD K "__eq__" "Algebra.__eq__" (defArgs s_Algebra___eq__) (defBody s_Algebra___eq__) (defScope s_Algebra___eq__) [] [] f fd) (len : ∀ {ds M Qd Xd}, sp_Algebra___eq__ K ds M Qd Xd → ds.length = 2)
    (pure_ : ∀ {ds M Qd Xd}, sp_Algebra___eq__ K ds M Qd Xd → t_Algebra___eq__ K (outD Qd Xd) (startD N_Algebra___eq__ ds) M) : FnD P w K mg base 1 f fd ["self", "other"] (sp_Algebra___eq__ K) :=
  fn_data F sc_Algebra___eq__ len (fun cdv A outer s H E c => (ss1 (sret (pand (pblt call_isi (ok_isO Z.is_Algebra) Z.b_isinstance (pac (pv 1) (pac (pgl Z.g_Algebra) pa0))) (pand (pcmp (op_eqA c.hu) ok_eq (pfld (pv 0)) (pfld (pv 1)) (by rfl)) (pand (pcmp (op_eqA c.hu) ok_eq (pfld (pv 0)) (pfld (pv 1)) (by rfl)) (pand (pcmp (op_eqA c.hu) ok_eq (pfld (pv 0)) (pfld (pv 1)) (by rfl)) (pand (pcmp (op_eqA c.hu) ok_eq (pfld (pv 0)) (pfld (pv 1)) (by rfl)) (pone (pcmp (op_eqA c.hu) ok_eq (pfld (pv 0)) (pfld (pv 1)) (by rfl))))))))))) pure_
abbrev s_Algebra_table : Stmt := inC 2 (topS 14)
theorem sc_Algebra_table : FnScope N_Algebra_table ["self", "way"] (defScope s_Algebra_table) := ⟨rfl, rfl, rfl, by decide +kernel, rfl, by decide +kernel, by decide +kernel⟩
theorem w_Algebra_table {P : Program} {w : World} {K : PySem.W.Frag} {mg : Str → Option Value} {base : Heap} {f : Addr} {fd : FuncData} (Z : Fc P K mg) (h_check_way : Has P w K mg base 3 "check_way" ["way"] (sp_check_way K))
    (F : FunD K "table" "Algebra.table" (defArgs s_Algebra_table) (defBody s_Algebra_table) (defScope s_Algebra_table) [] [] f fd) (len : ∀ {ds M Qd Xd}, sp_Algebra_table K ds M Qd Xd → ds.length = 2)
    (pure_ : ∀ {ds M Qd Xd}, sp_Algebra_table K ds M Qd Xd → t_Algebra_table K (outD Qd Xd) (startD N_Algebra_table ds) M) : FnD P w K mg base 4 f fd ["self", "way"] (sp_Algebra_table K) :=
  fn_data F sc_Algebra_table len (fun cdv A outer s H E c => (ssc (sexpr (pcall c h_check_way (pac (pv 1) pa0))) (ssc (sif (ptcmp (op_eqA c.hu) ok_eq (pv 1) pstr (by rfl)) (ss1 (sret (pfld (pv 0)))) ss0) (ssc (sif (ptcmp (op_eqA c.hu) ok_eq (pv 1) pstr (by rfl)) (ss1 (sret (pfld (pv 0)))) ss0) (ss1 (sret (pfld (pv 0)))))))) pure_
abbrev s_Algebra_zero : Stmt := inC 3 (topS 14)
theorem sc_Algebra_zero : FnScope N_Algebra_zero ["self"] (defScope s_Algebra_zero) := ⟨rfl, rfl, rfl, by decide +kernel, rfl, by decide +kernel, by decide +kernel⟩
theorem w_Algebra_zero {P : Program} {w : World} {K : PySem.W.Frag} {mg : Str → Option Value} {base : Heap} {f : Addr} {fd : FuncData} (Z : Fc P K mg) 
    (F : FunD K "zero" "Algebra.zero" (defArgs s_Algebra_zero) (defBody s_Algebra_zero) (defScope s_Algebra_zero) [] [] f fd) (len : ∀ {ds M Qd Xd}, sp_Algebra_zero K ds M Qd Xd → ds.length = 1)
    (pure_ : ∀ {ds M Qd Xd}, sp_Algebra_zero K ds M Qd Xd → t_Algebra_zero K (outD Qd Xd) (startD N_Algebra_zero ds) M) : FnD P w K mg base 1 f fd ["self"] (sp_Algebra_zero K) :=
  fn_data F sc_Algebra_zero len (fun cdv A outer s H E c => (ss1 (sret (pix ix_seq ok_ix (pix ix_seq ok_ix (pfld (pv 0)) pint (fun _ _ => rfl)) (pix ix_seq ok_ix (pfld (pv 0)) pint (fun _ _ => rfl)) (fun _ _ => rfl))))) pure_
abbrev s_Algebra_one : Stmt := inC 4 (topS 14)
theorem sc_Algebra_one : FnScope N_Algebra_one ["self"] (defScope s_Algebra_one) := ⟨rfl, rfl, rfl, by decide +kernel, rfl, by decide +kernel, by decide +kernel⟩
theorem w_Algebra_one {P : Program} {w : World} {K : PySem.W.Frag} {mg : Str → Option Value} {base : Heap} {f : Addr} {fd : FuncData} (Z : Fc P K mg) (h_Algebra_zero : HasM P w K mg base 1 (He.ga K "Algebra") "zero" ["self"] (sp_Algebra_zero K))
    (F : FunD K "one" "Algebra.one" (defArgs s_Algebra_one) (defBody s_Algebra_one) (defScope s_Algebra_one) [] [] f fd) (len : ∀ {ds M Qd Xd}, sp_Algebra_one K ds M Qd Xd → ds.length = 1)
    (pure_ : ∀ {ds M Qd Xd}, sp_Algebra_one K ds M Qd Xd → t_Algebra_one K (outD Qd Xd) (startD N_Algebra_one ds) M) : FnD P w K mg base 2 f fd ["self"] (sp_Algebra_one K) :=
  fn_data F sc_Algebra_one len (fun cdv A outer s H E c => (ss1 (sret (pix ix_seq ok_ix (pfld (pv 0)) (pmcall0 c h_Algebra_zero (pv 0)) (fun _ _ => rfl))))) pure_
abbrev s_check_element : Stmt := topS 15
theorem sc_check_element : FnScope N_check_element ["algebra", "number"] (defScope s_check_element) := ⟨rfl, rfl, rfl, by decide +kernel, rfl, by decide +kernel, by decide +kernel⟩
theorem w_check_element {P : Program} {w : World} {K : PySem.W.Frag} {mg : Str → Option Value} {base : Heap} {f : Addr} {fd : FuncData} (Z : Fc P K mg) 
    (F : FunD K "check_element" "check_element" (defArgs s_check_element) (defBody s_check_element) (defScope s_check_element) [] [] f fd) (len : ∀ {ds M Qd Xd}, sp_check_element K ds M Qd Xd → ds.length = 2)
    (pure_ : ∀ {ds M Qd Xd}, sp_check_element K ds M Qd Xd → t_check_element K (outD Qd Xd) (startD N_check_element ds) M) : FnD P w K mg base 3 f fd ["algebra", "number"] (sp_check_element K) :=
  fn_data F sc_check_element len (fun cdv A outer s H E c => (ss1 (sif (PW.pt (pwor (ptcmp op_lt (ok_i2 fun _ _ _ => .bl _) (pv 1) pint (by rfl)) (pwor1 (ptcmp op_ge (ok_i2 fun _ _ _ => .bl _) (pv 1) (pfld (pv 0)) (by rfl))))) (ss1 (srai c Z.e_BadElement (pac (pv 1) pa0))) ss0))) pure_
abbrev s__join : Stmt := topS 19
theorem sc__join : FnScope N__join ["algebra", "x", "y"] (defScope s__join) := ⟨rfl, rfl, rfl, by decide +kernel, rfl, by decide +kernel, by decide +kernel⟩
theorem w__join {P : Program} {w : World} {K : PySem.W.Frag} {mg : Str → Option Value} {base : Heap} {f : Addr} {fd : FuncData} (Z : Fc P K mg) 
    (F : FunD K "_join" "_join" (defArgs s__join) (defBody s__join) (defScope s__join) [] [] f fd) (len : ∀ {ds M Qd Xd}, sp__join K ds M Qd Xd → ds.length = 3)
    (pure_ : ∀ {ds M Qd Xd}, sp__join K ds M Qd Xd → t__join K (outD Qd Xd) (startD N__join ds) M) : FnD P w K mg base 1 f fd ["algebra", "x", "y"] (sp__join K) :=
  fn_data F sc__join len (fun cdv A outer s H E c => (ssc (sset (i := 3) c.nd rfl (by first | exact .inl rfl | exact .inr rfl) (pfld (pv 0))) (ss1 (sret (pix ix_seq ok_ix (pv 3) (pix ix_seq ok_ix (pix ix_seq ok_ix (pfld (pv 0)) (pix ix_seq ok_ix (pv 3) (pv 1) (fun _ _ => rfl)) (fun _ _ => rfl)) (pix ix_seq ok_ix (pv 3) (pv 2) (fun _ _ => rfl)) (fun _ _ => rfl)) (fun _ _ => rfl)))))) pure_
abbrev s_Algebra_join_of : Stmt := inC 5 (topS 14)
theorem sc_Algebra_join_of : FnScope N_Algebra_join_of ["self", "x", "y"] (defScope s_Algebra_join_of) := ⟨rfl, rfl, rfl, by decide +kernel, rfl, by decide +kernel, by decide +kernel⟩
theorem w_Algebra_join_of {P : Program} {w : World} {K : PySem.W.Frag} {mg : Str → Option Value} {base : Heap} {f : Addr} {fd : FuncData} (Z : Fc P K mg) (h_check_element : Has P w K mg base 3 "check_element" ["algebra", "number"] (sp_check_element K)) (h__join : Has P w K mg base 1 "_join" ["algebra", "x", "y"] (sp__join K))
    (F : FunD K "join_of" "Algebra.join_of" (defArgs s_Algebra_join_of) (defBody s_Algebra_join_of) (defScope s_Algebra_join_of) [] [] f fd) (len : ∀ {ds M Qd Xd}, sp_Algebra_join_of K ds M Qd Xd → ds.length = 3)
    (pure_ : ∀ {ds M Qd Xd}, sp_Algebra_join_of K ds M Qd Xd → t_Algebra_join_of K (outD Qd Xd) (startD N_Algebra_join_of ds) M) : FnD P w K mg base 4 f fd ["self", "x", "y"] (sp_Algebra_join_of K) :=
  fn_data F sc_Algebra_join_of len (fun cdv A outer s H E c => (ssc (sexpr (pcall c h_check_element (pac (pv 0) (pac (pv 1) pa0)))) (ssc (sexpr (pcall c h_check_element (pac (pv 0) (pac (pv 2) pa0)))) (ss1 (sret (pcall c h__join (pac (pv 0) (pac (pv 1) (pac (pv 2) pa0))))))))) pure_
abbrev s__order_fault : Stmt := topS 20
theorem sc__order_fault : FnScope N__order_fault ["algebra"] (defScope s__order_fault) := ⟨rfl, rfl, rfl, by decide +kernel, rfl, by decide +kernel, by decide +kernel⟩
theorem w__order_fault {P : Program} {w : World} {K : PySem.W.Frag} {mg : Str → Option Value} {base : Heap} {f : Addr} {fd : FuncData} (Z : Fc P K mg) 
    (F : FunD K "_order_fault" "_order_fault" (defArgs s__order_fault) (defBody s__order_fault) (defScope s__order_fault) [] [] f fd) (len : ∀ {ds M Qd Xd}, sp__order_fault K ds M Qd Xd → ds.length = 1)
    (pure_ : ∀ {ds M Qd Xd}, sp__order_fault K ds M Qd Xd → t__order_fault K (outD Qd Xd) (startD N__order_fault ds) M) : FnD P w K mg base 1 f fd ["algebra"] (sp__order_fault K) :=
  fn_data F sc__order_fault len (fun cdv A outer s H E c => (ssc (sset (i := 1) c.nd rfl (by first | exact .inl rfl | exact .inr rfl) (pfld (pv 0))) (ssc (sfor c.hp c.calm (pir1 rfl Z.b_range (pac (pfld (pv 0)) pa0)) (gname (i := 2) c.nd rfl (by first | exact .inl rfl | exact .inr rfl)) (ss1 (sfor c.hp c.calm (pir1 rfl Z.b_range (pac (pfld (pv 0)) pa0)) (gname (i := 3) c.nd rfl (by first | exact .inl rfl | exact .inr rfl)) (ss1 (sif (ptcmp (op_neA c.hu) ok_ne (pix ix_seq ok_ix (pix ix_seq ok_ix (pv 1) (pv 2) (fun _ _ => rfl)) (pv 3) (fun _ _ => rfl)) (pix ix_seq ok_ix (pix ix_seq ok_ix (pv 1) (pv 3) (fun _ _ => rfl)) (pv 2) (fun _ _ => rfl)) (by rfl)) (ss1 (sret (ptup (pac pstr (pac (pv 2) (pac (pv 3) pa0)))))) ss0))))) (ss1 (sret pnon))))) pure_
abbrev s__group_fault : Stmt := topS 21
theorem sc__group_fault : FnScope N__group_fault ["algebra"] (defScope s__group_fault) := ⟨rfl, rfl, rfl, by decide +kernel, rfl, by decide +kernel, by decide +kernel⟩
theorem w__group_fault {P : Program} {w : World} {K : PySem.W.Frag} {mg : Str → Option Value} {base : Heap} {f : Addr} {fd : FuncData} (Z : Fc P K mg) 
    (F : FunD K "_group_fault" "_group_fault" (defArgs s__group_fault) (defBody s__group_fault) (defScope s__group_fault) [] [] f fd) (len : ∀ {ds M Qd Xd}, sp__group_fault K ds M Qd Xd → ds.length = 1)
    (pure_ : ∀ {ds M Qd Xd}, sp__group_fault K ds M Qd Xd → t__group_fault K (outD Qd Xd) (startD N__group_fault ds) M) : FnD P w K mg base 1 f fd ["algebra"] (sp__group_fault K) :=
  fn_data F sc__group_fault len (fun cdv A outer s H E c => (ssc (sset (i := 1) c.nd rfl (by first | exact .inl rfl | exact .inr rfl) (pfld (pv 0))) (ssc (sfor c.hp c.calm (pir1 rfl Z.b_range (pac (pfld (pv 0)) pa0)) (gname (i := 2) c.nd rfl (by first | exact .inl rfl | exact .inr rfl)) (ss1 (sfor c.hp c.calm (pir1 rfl Z.b_range (pac (pfld (pv 0)) pa0)) (gname (i := 3) c.nd rfl (by first | exact .inl rfl | exact .inr rfl)) (ssc (sset (i := 4) c.nd rfl (by first | exact .inl rfl | exact .inr rfl) (pbty call_tuple_of ok_tuple Z.b_tuple (pac (plcF (own := [("inner", 5)]) c (pis (pix ix_seq ok_ix (pv 1) (pv 3) (fun _ _ => rfl))) ⟨blk_of N__group_fault (defScope s__group_fault) rfl rfl ⟨rfl, by decide +kernel, by decide +kernel, by decide +kernel, by decide +kernel⟩, by decide, fun s H C cl fp => g1 5 (by exact c.nd), fun s H C cl fp c => pts0, fun s H C cl fp c => (pix ix_seq ok_ix (pix ix_seq ok_ix (pv 1) (pv 2) (fun _ _ => rfl)) (pv 5) (fun _ _ => rfl))⟩) pa0))) (ssc (sset (i := 6) c.nd rfl (by first | exact .inl rfl | exact .inr rfl) (pix ix_seq ok_ix (pv 1) (pix ix_seq ok_ix (pix ix_seq ok_ix (pv 1) (pv 2) (fun _ _ => rfl)) (pv 3) (fun _ _ => rfl)) (fun _ _ => rfl))) (ss1 (sif (ptcmp (op_neA c.hu) ok_ne (pv 4) (pv 6) (by rfl)) (ssc (sset (i := 7) c.nd rfl (by first | exact .inl rfl | exact .inr rfl) pint) (ssc (swhile c.hp (ptcmp (op_eqA c.hu) ok_eq (pix ix_seq ok_ix (pv 4) (pv 7) (fun _ _ => rfl)) (pix ix_seq ok_ix (pv 6) (pv 7) (fun _ _ => rfl)) (by rfl)) (ss1 (sset (i := 7) c.nd rfl (by first | exact .inl rfl | exact .inr rfl) (pbin op_addA ok_add (pv 7) pint)))) (ss1 (sret (ptup (pac pstr (pac (pv 2) (pac (pv 3) (pac (pv 7) pa0))))))))) ss0))))))) (ss1 (sret pnon))))) pure_
abbrev s__rest_fault : Stmt := topS 22
theorem sc__rest_fault : FnScope N__rest_fault ["algebra"] (defScope s__rest_fault) := ⟨rfl, rfl, rfl, by decide +kernel, rfl, by decide +kernel, by decide +kernel⟩
theorem w__rest_fault {P : Program} {w : World} {K : PySem.W.Frag} {mg : Str → Option Value} {base : Heap} {f : Addr} {fd : FuncData} (Z : Fc P K mg) (h_Algebra_zero : HasM P w K mg base 1 (He.ga K "Algebra") "zero" ["self"] (sp_Algebra_zero K))
    (F : FunD K "_rest_fault" "_rest_fault" (defArgs s__rest_fault) (defBody s__rest_fault) (defScope s__rest_fault) [] [] f fd) (len : ∀ {ds M Qd Xd}, sp__rest_fault K ds M Qd Xd → ds.length = 1)
    (pure_ : ∀ {ds M Qd Xd}, sp__rest_fault K ds M Qd Xd → t__rest_fault K (outD Qd Xd) (startD N__rest_fault ds) M) : FnD P w K mg base 2 f fd ["algebra"] (sp__rest_fault K) :=
  fn_data F sc__rest_fault len (fun cdv A outer s H E c => (ssc (sset (i := 1) c.nd rfl (by first | exact .inl rfl | exact .inr rfl) (pfld (pv 0))) (ssc (sset (i := 2) c.nd rfl (by first | exact .inl rfl | exact .inr rfl) (pfld (pv 0))) (ssc (sset (i := 3) c.nd rfl (by first | exact .inl rfl | exact .inr rfl) (pmcall0 c h_Algebra_zero (pv 0))) (ssc (sfor c.hp c.calm (pir1 rfl Z.b_range (pac (pfld (pv 0)) pa0)) (gname (i := 4) c.nd rfl (by first | exact .inl rfl | exact .inr rfl)) (ss1 (sif (ptcmp (op_neA c.hu) ok_ne (pix ix_seq ok_ix (pix ix_seq ok_ix (pv 1) (pv 4) (fun _ _ => rfl)) (pix ix_seq ok_ix (pv 2) (pv 4) (fun _ _ => rfl)) (fun _ _ => rfl)) (pv 3) (by rfl)) (ss1 (sret (ptup (pac pstr (pac (pv 4) pa0))))) ss0))) (ssc (sfor c.hp c.calm (pir1 rfl Z.b_range (pac (pfld (pv 0)) pa0)) (gname (i := 4) c.nd rfl (by first | exact .inl rfl | exact .inr rfl)) (ss1 (sfor c.hp c.calm (pir1 rfl Z.b_range (pac (pfld (pv 0)) pa0)) (gname (i := 5) c.nd rfl (by first | exact .inl rfl | exact .inr rfl)) (ssc (sset (i := 6) c.nd rfl (by first | exact .inl rfl | exact .inr rfl) (pcmp (op_eqA c.hu) ok_eq (pix ix_seq ok_ix (pix ix_seq ok_ix (pv 1) (pv 4) (fun _ _ => rfl)) (pix ix_seq ok_ix (pv 2) (pv 5) (fun _ _ => rfl)) (fun _ _ => rfl)) (pv 3) (by rfl))) (ssc (sset (i := 7) c.nd rfl (by first | exact .inl rfl | exact .inr rfl) (pcmp (op_eqA c.hu) ok_eq (pix ix_seq ok_ix (pix ix_seq ok_ix (pv 1) (pv 4) (fun _ _ => rfl)) (pv 5) (fun _ _ => rfl)) (pv 4) (by rfl))) (ss1 (sif (ptcmp (op_neA c.hu) ok_ne (pv 6) (pv 7) (by rfl)) (ss1 (sret (ptup (pac pstr (pac (pv 4) (pac (pv 5) pa0)))))) ss0))))))) (ss1 (sret pnon)))))))) pure_
abbrev s__may_fault : Stmt := topS 23
theorem sc__may_fault : FnScope N__may_fault ["algebra"] (defScope s__may_fault) := ⟨rfl, rfl, rfl, by decide +kernel, rfl, by decide +kernel, by decide +kernel⟩
theorem w__may_fault {P : Program} {w : World} {K : PySem.W.Frag} {mg : Str → Option Value} {base : Heap} {f : Addr} {fd : FuncData} (Z : Fc P K mg) (h_Algebra_zero : HasM P w K mg base 1 (He.ga K "Algebra") "zero" ["self"] (sp_Algebra_zero K)) (h_Algebra_table : HasM P w K mg base 4 (He.ga K "Algebra") "table" ["self", "way"] (sp_Algebra_table K)) (h__join : Has P w K mg base 1 "_join" ["algebra", "x", "y"] (sp__join K))
    (F : FunD K "_may_fault" "_may_fault" (defArgs s__may_fault) (defBody s__may_fault) (defScope s__may_fault) [] [] f fd) (len : ∀ {ds M Qd Xd}, sp__may_fault K ds M Qd Xd → ds.length = 1)
    (pure_ : ∀ {ds M Qd Xd}, sp__may_fault K ds M Qd Xd → t__may_fault K (outD Qd Xd) (startD N__may_fault ds) M) : FnD P w K mg base 5 f fd ["algebra"] (sp__may_fault K) :=
  fn_data F sc__may_fault len (fun cdv A outer s H E c => (ssc (sset (i := 1) c.nd rfl (by first | exact .inl rfl | exact .inr rfl) (pmcall0 c h_Algebra_zero (pv 0))) (ssc (sfor c.hp c.calm (pis (pgl Z.g_WAYS)) (gname (i := 2) c.nd rfl (by first | exact .inl rfl | exact .inr rfl)) (ss1 (sif (ptcmp (op_neA c.hu) ok_ne (pix ix_seq ok_ix (pmcall c h_Algebra_table (pv 0) (pac (pv 2) pa0)) (pv 1) (fun _ _ => rfl)) (pv 1) (by rfl)) (ss1 (sret (ptup (pac pstr (pac (pv 2) pa0))))) ss0))) (ssc (sset (i := 3) c.nd rfl (by first | exact .inl rfl | exact .inr rfl) (pbty cr_range ok_range Z.b_range (pac (pfld (pv 0)) pa0))) (ssc (ssetLc (own := [("x", 6)]) (i := 4) c rfl rfl (sw_true rfl rfl rfl (by decide +kernel)) (pis (pv 3)) ⟨blk_of N__may_fault (defScope s__may_fault) rfl rfl ⟨rfl, by decide +kernel, by decide +kernel, by decide +kernel, by decide +kernel⟩, by decide, fun s H C cl fp => g1 6 (by exact c.nd), fun s H C cl fp c => pts0, fun s H C cl fp c => (plcF (own := [("y", 5)]) c (pis (pv 3)) ⟨blk_in N__may_fault rfl ⟨rfl, by decide +kernel, by decide +kernel, by decide +kernel, by decide +kernel⟩, by decide, fun s H C cl fp => g1 5 (by exact c.nd), fun s H C cl fp c => pts0, fun s H C cl fp c => (pcall c h__join (pac (pv 0) (pac (pv 6) (pac (pv 5) pa0))))⟩)⟩) (ssc (sfor c.hp c.calm (pis (pgl Z.g_WAYS)) (gname (i := 2) c.nd rfl (by first | exact .inl rfl | exact .inr rfl)) (ssc (sset (i := 7) c.nd rfl (by first | exact .inl rfl | exact .inr rfl) (pmcall c h_Algebra_table (pv 0) (pac (pv 2) pa0))) (ss1 (sfor c.hp c.calm (pis (pv 3)) (gname (i := 6) c.nd rfl (by first | exact .inl rfl | exact .inr rfl)) (ss1 (sfor c.hp c.calm (pis (pv 3)) (gname (i := 5) c.nd rfl (by first | exact .inl rfl | exact .inr rfl)) (ss1 (sif (ptcmp (op_neA c.hu) ok_ne (pix ix_seq ok_ix (pv 7) (pix ix_seq ok_ix (pix ix_seq ok_ix (pv 4) (pv 6) (fun _ _ => rfl)) (pv 5) (fun _ _ => rfl)) (fun _ _ => rfl)) (pix ix_seq ok_ix (pix ix_seq ok_ix (pv 4) (pix ix_seq ok_ix (pv 7) (pv 6) (fun _ _ => rfl)) (fun _ _ => rfl)) (pix ix_seq ok_ix (pv 7) (pv 5) (fun _ _ => rfl)) (fun _ _ => rfl)) (by rfl)) (ss1 (sret (ptup (pac pstr (pac (pv 2) (pac (pv 6) (pac (pv 5) pa0))))))) ss0)))))))) (ss1 (sret pnon)))))))) pure_
abbrev s_algebra_fault : Stmt := topS 16
theorem sc_algebra_fault : FnScope N_algebra_fault ["algebra"] (defScope s_algebra_fault) := ⟨rfl, rfl, rfl, by decide +kernel, rfl, by decide +kernel, by decide +kernel⟩
theorem w_algebra_fault {P : Program} {w : World} {K : PySem.W.Frag} {mg : Str → Option Value} {base : Heap} {f : Addr} {fd : FuncData} (Z : Fc P K mg) (h__order_fault : Has P w K mg base 1 "_order_fault" ["algebra"] (sp__order_fault K)) (h__group_fault : Has P w K mg base 1 "_group_fault" ["algebra"] (sp__group_fault K)) (h__rest_fault : Has P w K mg base 2 "_rest_fault" ["algebra"] (sp__rest_fault K)) (h__may_fault : Has P w K mg base 5 "_may_fault" ["algebra"] (sp__may_fault K))
    (F : FunD K "algebra_fault" "algebra_fault" (defArgs s_algebra_fault) (defBody s_algebra_fault) (defScope s_algebra_fault) [] [] f fd) (len : ∀ {ds M Qd Xd}, sp_algebra_fault K ds M Qd Xd → ds.length = 1)
    (pure_ : ∀ {ds M Qd Xd}, sp_algebra_fault K ds M Qd Xd → t_algebra_fault K (outD Qd Xd) (startD N_algebra_fault ds) M) : FnD P w K mg base 6 f fd ["algebra"] (sp_algebra_fault K) :=
  fn_data F sc_algebra_fault len (fun cdv A outer s H E c => (ssc (sset (i := 1) c.nd rfl (by first | exact .inl rfl | exact .inr rfl) (pcall c h__order_fault (pac (pv 0) pa0))) (ssc (sif (ptcmp op_isA ok_is (pv 1) pnon (by rfl)) (ss1 (sset (i := 1) c.nd rfl (by first | exact .inl rfl | exact .inr rfl) (pcall c h__group_fault (pac (pv 0) pa0)))) ss0) (ssc (sif (ptcmp op_isA ok_is (pv 1) pnon (by rfl)) (ss1 (sset (i := 1) c.nd rfl (by first | exact .inl rfl | exact .inr rfl) (pcall c h__rest_fault (pac (pv 0) pa0)))) ss0) (ssc (sif (ptcmp op_isA ok_is (pv 1) pnon (by rfl)) (ss1 (sset (i := 1) c.nd rfl (by first | exact .inl rfl | exact .inr rfl) (pcall c h__may_fault (pac (pv 0) pa0)))) ss0) (ss1 (sret (pv 1)))))))) pure_
abbrev s__law_cells : Stmt := topS 25
theorem sc__law_cells : FnScope N__law_cells ["script"] (defScope s__law_cells) := ⟨rfl, rfl, rfl, by decide +kernel, rfl, by decide +kernel, by decide +kernel⟩
theorem w__law_cells {P : Program} {w : World} {K : PySem.W.Frag} {mg : Str → Option Value} {base : Heap} {f : Addr} {fd : FuncData} (Z : Fc P K mg) 
    (F : FunD K "_law_cells" "_law_cells" (defArgs s__law_cells) (defBody s__law_cells) (defScope s__law_cells) [] [] f fd) (len : ∀ {ds M Qd Xd}, sp__law_cells K ds M Qd Xd → ds.length = 1)
    (pure_ : ∀ {ds M Qd Xd}, sp__law_cells K ds M Qd Xd → t__law_cells K (outD Qd Xd) (startD N__law_cells ds) M) : FnD P w K mg base 1 f fd ["script"] (sp__law_cells K) :=
  fn_data F sc__law_cells len (fun cdv A outer s H E c => (ss1 (sret (plstM (pac (plcM (own := [("cell", 1)]) c (pis (psl (pv 0) po0 (po1 pint))) ⟨blk_of N__law_cells (defScope s__law_cells) rfl rfl ⟨rfl, by decide +kernel, by decide +kernel, by decide +kernel, by decide +kernel⟩, by decide, fun s H C cl fp => g1 1 (by exact c.nd), fun s H C cl fp c => pts0, fun s H C cl fp c => (pblt call_abs ok_abs Z.b_abs (pac (pbty call_int1 ok_int Z.b_int (pac (pv 1) pa0)) pa0))⟩) (pac pint (pac pint pa0))))))) pure_
abbrev s__law_take : Stmt := topS 26
theorem sc__law_take : FnScope N__law_take ["state", "many"] (defScope s__law_take) := ⟨rfl, rfl, rfl, by decide +kernel, rfl, by decide +kernel, by decide +kernel⟩
theorem w__law_take {P : Program} {w : World} {K : PySem.W.Frag} {mg : Str → Option Value} {base : Heap} {f : Addr} {fd : FuncData} (Z : Fc P K mg) 
    (F : FunD K "_law_take" "_law_take" (defArgs s__law_take) (defBody s__law_take) (defScope s__law_take) [] [] f fd) (len : ∀ {ds M Qd Xd}, sp__law_take K ds M Qd Xd → ds.length = 2)
    (pure_ : ∀ {ds M Qd Xd}, sp__law_take K ds M Qd Xd → t__law_take K (outD Qd Xd) (startD N__law_take ds) M) : FnD P w K mg base 1 f fd ["state", "many"] (sp__law_take K) :=
  fn_data F sc__law_take len (fun cdv A outer s H E c => (ssc (sasg (pbin op_addA ok_add (pix ix_seq ok_ix (pv 0) pint (fun _ _ => rfl)) pint) (gsub (pv 0) pint)) (ssc (sif (ptcmp op_lt (ok_i2 fun _ _ _ => .bl _) (pv 1) pint (by rfl)) (ss1 (sret pint)) ss0) (ssc (sif (ptcmp op_lt (ok_i2 fun _ _ _ => .bl _) (pix ix_seq ok_ix (pv 0) pint (fun _ _ => rfl)) (pblt call_len ok_len Z.b_len (pac (pix ix_seq ok_ix (pv 0) pint (fun _ _ => rfl)) pa0)) (by rfl)) (ssc (sset (i := 2) c.nd rfl (by first | exact .inl rfl | exact .inr rfl) (pix ix_seq ok_ix (pix ix_seq ok_ix (pv 0) pint (fun _ _ => rfl)) (pix ix_seq ok_ix (pv 0) pint (fun _ _ => rfl)) (fun _ _ => rfl))) (ssc (sasg (pbin op_fdiv (ok_i2c fun _ _ _ => .int _) (pv 2) (pv 1)) (gsub (pix ix_seq ok_ix (pv 0) pint (fun _ _ => rfl)) (pix ix_seq ok_ix (pv 0) pint (fun _ _ => rfl)))) (ssc (sif (ptcmp op_lt (ok_i2 fun _ _ _ => .bl _) (pv 2) (pv 1) (by rfl)) (ss1 (sasg (pbin op_addA ok_add (pix ix_seq ok_ix (pv 0) pint (fun _ _ => rfl)) pint) (gsub (pv 0) pint))) ss0) (ss1 (sret (pbin op_mod (ok_i2c fun _ _ _ => .int _) (pbty call_int1 ok_int Z.b_int (pac (pv 2) pa0)) (pv 1))))))) ss0) (ss1 (sret (pbin op_mod (ok_i2c fun _ _ _ => .int _) (pbty call_int1 ok_int Z.b_int (pac (pbin op_mod (ok_i2c fun _ _ _ => .int _) (pbty call_int1 ok_int Z.b_int (pac (pbin op_mulA ok_mul (pix ix_seq ok_ix (pv 0) pint (fun _ _ => rfl)) pint) pa0)) pint) pa0)) (pv 1)))))))) pure_
abbrev s__law_plain : Stmt := topS 27
theorem sc__law_plain : FnScope N__law_plain ["told"] (defScope s__law_plain) := ⟨rfl, rfl, rfl, by decide +kernel, rfl, by decide +kernel, by decide +kernel⟩
theorem w__law_plain {P : Program} {w : World} {K : PySem.W.Frag} {mg : Str → Option Value} {base : Heap} {f : Addr} {fd : FuncData} (Z : Fc P K mg) 
    (F : FunD K "_law_plain" "_law_plain" (defArgs s__law_plain) (defBody s__law_plain) (defScope s__law_plain) [] [] f fd) (len : ∀ {ds M Qd Xd}, sp__law_plain K ds M Qd Xd → ds.length = 1)
    (pure_ : ∀ {ds M Qd Xd}, sp__law_plain K ds M Qd Xd → t__law_plain K (outD Qd Xd) (startD N__law_plain ds) M) : FnD P w K mg base 1 f fd ["told"] (sp__law_plain K) :=
  fn_data F sc__law_plain len (fun cdv A outer s H E c => (ss1 (sret (pand (pblt call_isi ok_is' Z.b_isinstance (pac (pv 0) (pac (pety Z.b_int) pa0))) (pone (pnot (pblt call_isi ok_is' Z.b_isinstance (pac (pv 0) (pac (pety Z.b_bool) pa0))))))))) pure_
theorem wh__law_plain {P : Program} {w : World} {K : PySem.W.Frag} {mg : Str → Option Value} {base : Heap} {f : Addr} {fd : FuncData} (Z : Fc P K mg)
    (F : FunD K "_law_plain" "_law_plain" (defArgs s__law_plain) (defBody s__law_plain) (defScope s__law_plain) [] [] f fd) (len : ∀ {ds M Qd Xd}, sp__law_plain K ds M Qd Xd → ds.length = 1)
    (pure_ : ∀ {ds M Qd Xd}, sp__law_plain K ds M Qd Xd → t__law_plain K (outD Qd X0) (startD N__law_plain ds) M) : FnHD P w K mg base 1 f fd ["told"] (sp__law_plain K) :=
  fn_dataH F sc__law_plain len (fun cdv A outer s H E p hot hr => (ss1 (sret (pand (pblt call_isi ok_is' Z.b_isinstance (pac (pv 0) (pac (pety Z.b_int) pa0))) (pone (pnot (pblt call_isi ok_is' Z.b_isinstance (pac (pv 0) (pac (pety Z.b_bool) pa0))))))))) pure_
abbrev s__law_shuffle : Stmt := topS 28
theorem sc__law_shuffle : FnScope N__law_shuffle ["state", "size"] (defScope s__law_shuffle) := ⟨rfl, rfl, rfl, by decide +kernel, rfl, by decide +kernel, by decide +kernel⟩
theorem w__law_shuffle {P : Program} {w : World} {K : PySem.W.Frag} {mg : Str → Option Value} {base : Heap} {f : Addr} {fd : FuncData} (Z : Fc P K mg) (h__law_take : Has P w K mg base 1 "_law_take" ["state", "many"] (sp__law_take K))
    (F : FunD K "_law_shuffle" "_law_shuffle" (defArgs s__law_shuffle) (defBody s__law_shuffle) (defScope s__law_shuffle) [] [] f fd) (len : ∀ {ds M Qd Xd}, sp__law_shuffle K ds M Qd Xd → ds.length = 2)
    (pure_ : ∀ {ds M Qd Xd}, sp__law_shuffle K ds M Qd Xd → t__law_shuffle K (outD Qd Xd) (startD N__law_shuffle ds) M) : FnD P w K mg base 2 f fd ["state", "size"] (sp__law_shuffle K) :=
  fn_data F sc__law_shuffle len (fun cdv A outer s H E c => (ssc (sset (i := 2) c.nd rfl (by first | exact .inl rfl | exact .inr rfl) (plsrg c.calm rfl Z.b_list rfl Z.b_range (pv 1))) (ssc (sfor c.hp c.calm (pir1 rfl Z.b_range (pac (pv 1) pa0)) (gname (i := 3) c.nd rfl (by first | exact .inl rfl | exact .inr rfl)) (ssc (sset (i := 4) c.nd rfl (by first | exact .inl rfl | exact .inr rfl) (pbin op_addA ok_add (pv 3) (pcall c h__law_take (pac (pv 0) (pac (pbin op_sub (ok_i2 fun _ _ _ => .int _) (pv 1) (pv 3)) pa0))))) (ssc (sset (i := 5) c.nd rfl (by first | exact .inl rfl | exact .inr rfl) (pix ix_seq ok_ix (pv 2) (pv 3) (fun _ _ => rfl))) (ssc (sasg (pix ix_seq ok_ix (pv 2) (pv 4) (fun _ _ => rfl)) (gsub (pv 2) (pv 3))) (ss1 (sasg (pv 5) (gsub (pv 2) (pv 4)))))))) (ss1 (sret (pv 2)))))) pure_
abbrev s__law_is_row : Stmt := topS 29
theorem sc__law_is_row : FnScope N__law_is_row ["told", "due"] (defScope s__law_is_row) := ⟨rfl, rfl, rfl, by decide +kernel, rfl, by decide +kernel, by decide +kernel⟩
theorem w__law_is_row {P : Program} {w : World} {K : PySem.W.Frag} {mg : Str → Option Value} {base : Heap} {f : Addr} {fd : FuncData} (Z : Fc P K mg) (h__law_plain : Has P w K mg base 1 "_law_plain" ["told"] (sp__law_plain K))
    (F : FunD K "_law_is_row" "_law_is_row" (defArgs s__law_is_row) (defBody s__law_is_row) (defScope s__law_is_row) [] [] f fd) (len : ∀ {ds M Qd Xd}, sp__law_is_row K ds M Qd Xd → ds.length = 2)
    (pure_ : ∀ {ds M Qd Xd}, sp__law_is_row K ds M Qd Xd → t__law_is_row K (outD Qd Xd) (startD N__law_is_row ds) M) : FnD P w K mg base 2 f fd ["told", "due"] (sp__law_is_row K) :=
  fn_data F sc__law_is_row len (fun cdv A outer s H E c => (ssc (sif (PW.pt (pwor (ptnot (pttru (pblt call_isi ok_is' Z.b_isinstance (pac (pv 0) (pac (pety Z.b_tuple) pa0))))) (pwor1 (ptcmp (op_neA c.hu) ok_ne (pblt call_len ok_len Z.b_len (pac (pv 0) pa0)) (pblt call_len ok_len Z.b_len (pac (pv 1) pa0)) (by rfl))))) (ss1 (sret pbl)) ss0) (ssc (sfor c.hp c.calm (pir1 rfl Z.b_range (pac (pblt call_len ok_len Z.b_len (pac (pv 1) pa0)) pa0)) (gname (i := 2) c.nd rfl (by first | exact .inl rfl | exact .inr rfl)) (ss1 (sif (PW.pt (pwor (ptnot (pttru (pcall c h__law_plain (pac (pix ix_seq ok_ix (pv 0) (pv 2) (fun _ _ => rfl)) pa0)))) (pwor1 (ptcmp (op_neA c.hu) ok_ne (pix ix_seq ok_ix (pv 0) (pv 2) (fun _ _ => rfl)) (pix ix_seq ok_ix (pv 1) (pv 2) (fun _ _ => rfl)) (by rfl))))) (ss1 (sret pbl)) ss0))) (ss1 (sret pbl))))) pure_
abbrev s__law_is_fault : Stmt := topS 30
theorem sc__law_is_fault : FnScope N__law_is_fault ["told", "due"] (defScope s__law_is_fault) := ⟨rfl, rfl, rfl, by decide +kernel, rfl, by decide +kernel, by decide +kernel⟩
theorem w__law_is_fault {P : Program} {w : World} {K : PySem.W.Frag} {mg : Str → Option Value} {base : Heap} {f : Addr} {fd : FuncData} (Z : Fc P K mg) (h__law_plain : Has P w K mg base 1 "_law_plain" ["told"] (sp__law_plain K))
    (F : FunD K "_law_is_fault" "_law_is_fault" (defArgs s__law_is_fault) (defBody s__law_is_fault) (defScope s__law_is_fault) [] [] f fd) (len : ∀ {ds M Qd Xd}, sp__law_is_fault K ds M Qd Xd → ds.length = 2)
    (pure_ : ∀ {ds M Qd Xd}, sp__law_is_fault K ds M Qd Xd → t__law_is_fault K (outD Qd Xd) (startD N__law_is_fault ds) M) : FnD P w K mg base 2 f fd ["told", "due"] (sp__law_is_fault K) :=
  fn_data F sc__law_is_fault len (fun cdv A outer s H E c => (ssc (sif (ptcmp op_isA ok_is (pv 1) pnon (by rfl)) (ss1 (sret (pcmp op_isA ok_is (pv 0) pnon (by rfl)))) ss0) (ssc (sif (PW.pt (pwor (ptnot (pttru (pblt call_isi ok_is' Z.b_isinstance (pac (pv 0) (pac (pety Z.b_tuple) pa0))))) (pwor1 (ptcmp (op_neA c.hu) ok_ne (pblt call_len ok_len Z.b_len (pac (pv 0) pa0)) (pblt call_len ok_len Z.b_len (pac (pv 1) pa0)) (by rfl))))) (ss1 (sret pbl)) ss0) (ssc (sfor c.hp c.calm (pir1 rfl Z.b_range (pac (pblt call_len ok_len Z.b_len (pac (pv 1) pa0)) pa0)) (gname (i := 2) c.nd rfl (by first | exact .inl rfl | exact .inr rfl)) (ssc (sif (PW.pt (pwand (pttru (pblt call_isi ok_is' Z.b_isinstance (pac (pix ix_seq ok_ix (pv 1) (pv 2) (fun _ _ => rfl)) (pac (pety Z.b_str) pa0)))) (pwand1 (ptnot (pttru (pblt call_isi ok_is' Z.b_isinstance (pac (pix ix_seq ok_ix (pv 0) (pv 2) (fun _ _ => rfl)) (pac (pety Z.b_str) pa0)))))))) (ss1 (sret pbl)) ss0) (ssc (sif (PW.pt (pwand (ptnot (pttru (pblt call_isi ok_is' Z.b_isinstance (pac (pix ix_seq ok_ix (pv 1) (pv 2) (fun _ _ => rfl)) (pac (pety Z.b_str) pa0))))) (pwand1 (ptnot (pttru (pcall c h__law_plain (pac (pix ix_seq ok_ix (pv 0) (pv 2) (fun _ _ => rfl)) pa0))))))) (ss1 (sret pbl)) ss0) (ss1 (sif (ptcmp (op_neA c.hu) ok_ne (pix ix_seq ok_ix (pv 0) (pv 2) (fun _ _ => rfl)) (pix ix_seq ok_ix (pv 1) (pv 2) (fun _ _ => rfl)) (by rfl)) (ss1 (sret pbl)) ss0))))) (ss1 (sret pbl)))))) pure_
abbrev s__law_draw_steps : Stmt := topS 31
theorem sc__law_draw_steps : FnScope N__law_draw_steps ["state", "size"] (defScope s__law_draw_steps) := ⟨rfl, rfl, rfl, by decide +kernel, rfl, by decide +kernel, by decide +kernel⟩
theorem w__law_draw_steps {P : Program} {w : World} {K : PySem.W.Frag} {mg : Str → Option Value} {base : Heap} {f : Addr} {fd : FuncData} (Z : Fc P K mg) (h__law_take : Has P w K mg base 1 "_law_take" ["state", "many"] (sp__law_take K))
    (F : FunD K "_law_draw_steps" "_law_draw_steps" (defArgs s__law_draw_steps) (defBody s__law_draw_steps) (defScope s__law_draw_steps) [] [] f fd) (len : ∀ {ds M Qd Xd}, sp__law_draw_steps K ds M Qd Xd → ds.length = 2)
    (pure_ : ∀ {ds M Qd Xd}, sp__law_draw_steps K ds M Qd Xd → t__law_draw_steps K (outD Qd Xd) (startD N__law_draw_steps ds) M) : FnD P w K mg base 2 f fd ["state", "size"] (sp__law_draw_steps K) :=
  fn_data F sc__law_draw_steps len (fun cdv A outer s H E c => (ssc (sset (i := 2) c.nd rfl (by first | exact .inl rfl | exact .inr rfl) (pbin op_addA ok_add pint (pcall c h__law_take (pac (pv 0) (pac pint pa0))))) (ssc (sset (i := 3) c.nd rfl (by first | exact .inl rfl | exact .inr rfl) (plstM pa0)) (ssc (sfor c.hp c.calm (pir1 rfl Z.b_range (pac pint pa0)) (gname (i := 4) c.nd rfl (by first | exact .inl rfl | exact .inr rfl)) (ssc (sset (i := 5) c.nd rfl (by first | exact .inl rfl | exact .inr rfl) (pbin op_mulA ok_mulM (plst (pac pint pa0)) (pv 1))) (ssc (sfor c.hp c.calm (pir1 rfl Z.b_range (pac (pv 1) pa0)) (gname (i := 6) c.nd rfl (by first | exact .inl rfl | exact .inr rfl)) (ss1 (sfor c.hp c.calm (pir1 rfl Z.b_range (pac (pv 1) pa0)) (gname (i := 7) c.nd rfl (by first | exact .inl rfl | exact .inr rfl)) (ss1 (sif (ptcmp (op_eqA c.hu) ok_eq (pcall c h__law_take (pac (pv 0) (pac (pv 2) pa0))) pint (by rfl)) (ss1 (sasg (pbin op_or (ok_i2 fun _ _ _ => .int _) (pix ix_seq ok_ix (pv 5) (pv 6) (fun _ _ => rfl)) (pbin op_shl (ok_i2c fun _ _ _ => .int _) pint (pv 7))) (gsub (pv 5) (pv 6)))) ss0))))) (ss1 (sexpr (pbm PySem.F.plainAttrs_list PySem.F.slot_list_append PySem.F.type_list_append mt_append ok_app (pv 3) (pac (pv 5) pa0))))))) (ss1 (sret (pv 3))))))) pure_
abbrev s__law_before : Stmt := topS 32
theorem sc__law_before : FnScope N__law_before ["steps", "e"] (defScope s__law_before) := ⟨rfl, rfl, rfl, by decide +kernel, rfl, by decide +kernel, by decide +kernel⟩
theorem w__law_before {P : Program} {w : World} {K : PySem.W.Frag} {mg : Str → Option Value} {base : Heap} {f : Addr} {fd : FuncData} (Z : Fc P K mg) 
    (F : FunD K "_law_before" "_law_before" (defArgs s__law_before) (defBody s__law_before) (defScope s__law_before) [] [] f fd) (len : ∀ {ds M Qd Xd}, sp__law_before K ds M Qd Xd → ds.length = 2)
    (pure_ : ∀ {ds M Qd Xd}, sp__law_before K ds M Qd Xd → t__law_before K (outD Qd Xd) (startD N__law_before ds) M) : FnD P w K mg base 1 f fd ["steps", "e"] (sp__law_before K) :=
  fn_data F sc__law_before len (fun cdv A outer s H E c => (ssc (sset (i := 2) c.nd rfl (by first | exact .inl rfl | exact .inr rfl) pint) (ssc (sfor c.hp c.calm (pir1 rfl Z.b_range (pac (pblt call_len ok_len Z.b_len (pac (pv 0) pa0)) pa0)) (gname (i := 3) c.nd rfl (by first | exact .inl rfl | exact .inr rfl)) (ss1 (sif (pttru (pbin op_and (ok_i2 fun _ _ _ => .int _) (pix ix_seq ok_ix (pv 0) (pv 3) (fun _ _ => rfl)) (pv 1))) (ss1 (sset (i := 2) c.nd rfl (by first | exact .inl rfl | exact .inr rfl) (pbin op_or (ok_i2 fun _ _ _ => .int _) (pv 2) (pbin op_shl (ok_i2c fun _ _ _ => .int _) pint (pv 3))))) ss0))) (ss1 (sret (pv 2)))))) pure_
abbrev s__law_set_tables : Stmt := topS 33
theorem sc__law_set_tables : FnScope N__law_set_tables ["ways", "order"] (defScope s__law_set_tables) := ⟨rfl, rfl, rfl, by decide +kernel, rfl, by decide +kernel, by decide +kernel⟩
theorem w__law_set_tables {P : Program} {w : World} {K : PySem.W.Frag} {mg : Str → Option Value} {base : Heap} {f : Addr} {fd : FuncData} (Z : Fc P K mg) (h__law_before : Has P w K mg base 1 "_law_before" ["steps", "e"] (sp__law_before K))
    (F : FunD K "_law_set_tables" "_law_set_tables" (defArgs s__law_set_tables) (defBody s__law_set_tables) (defScope s__law_set_tables) [] [] f fd) (len : ∀ {ds M Qd Xd}, sp__law_set_tables K ds M Qd Xd → ds.length = 2)
    (pure_ : ∀ {ds M Qd Xd}, sp__law_set_tables K ds M Qd Xd → t__law_set_tables K (outD Qd Xd) (startD N__law_set_tables ds) M) : FnD P w K mg base 2 f fd ["ways", "order"] (sp__law_set_tables K) :=
  fn_data F sc__law_set_tables len (fun cdv A outer s H E c => (ssc (sset (i := 2) c.nd rfl (by first | exact .inl rfl | exact .inr rfl) (pblt call_len ok_len Z.b_len (pac (pv 1) pa0))) (ssc (sset (i := 3) c.nd rfl (by first | exact .inl rfl | exact .inr rfl) (plstM (pac (plstM pa0) pa0))) (ssc (sfor c.hp c.calm (pir1 rfl Z.b_range (pac (pv 2) pa0)) (gname (i := 4) c.nd rfl (by first | exact .inl rfl | exact .inr rfl)) (ss1 (sexpr (pbm PySem.F.plainAttrs_list PySem.F.slot_list_append PySem.F.type_list_append mt_append ok_app (pix ix_seq ok_ix (pv 3) pint (fun _ _ => rfl)) (pac (pbin op_mulA ok_mulM (plst (pac pint pa0)) (pv 2)) pa0))))) (ssc (sfor c.hp c.calm (pir1 rfl Z.b_range (pac pint pa0)) (gname (i := 5) c.nd rfl (by first | exact .inl rfl | exact .inr rfl)) (ss1 (sexpr (pbm PySem.F.plainAttrs_list PySem.F.slot_list_append PySem.F.type_list_append mt_append ok_app (pv 3) (pac (pbin op_mulA ok_mulM (plst (pac pint pa0)) (pv 2)) pa0))))) (ssc (sfor c.hp c.calm (pir1 rfl Z.b_range (pac (pv 2) pa0)) (gname (i := 4) c.nd rfl (by first | exact .inl rfl | exact .inr rfl)) (ssc (sset (i := 6) c.nd rfl (by first | exact .inl rfl | exact .inr rfl) (pix ix_seq ok_ix (pv 1) (pv 4) (fun _ _ => rfl))) (ssc (sasg (pix ix_seq ok_ix (pv 1) (pbin op_sub (ok_i2 fun _ _ _ => .int _) (pbin op_sub (ok_i2 fun _ _ _ => .int _) (pv 2) pint) (pv 4)) (fun _ _ => rfl)) (gsub (pix ix_seq ok_ix (pv 3) pint (fun _ _ => rfl)) (pv 6))) (ssc (sfor c.hp c.calm (pir1 rfl Z.b_range (pac (pv 2) pa0)) (gname (i := 7) c.nd rfl (by first | exact .inl rfl | exact .inr rfl)) (ss1 (sasg (pix ix_seq ok_ix (pv 1) (pbin op_and (ok_i2 fun _ _ _ => .int _) (pv 4) (pv 7)) (fun _ _ => rfl)) (gsub (pix ix_seq ok_ix (pix ix_seq ok_ix (pv 3) pint (fun _ _ => rfl)) (pv 6) (fun _ _ => rfl)) (pix ix_seq ok_ix (pv 1) (pv 7) (fun _ _ => rfl)))))) (ss1 (sfor c.hp c.calm (pir1 rfl Z.b_range (pac pint pa0)) (gname (i := 5) c.nd rfl (by first | exact .inl rfl | exact .inr rfl)) (ss1 (sasg (pix ix_seq ok_ix (pv 1) (pcall c h__law_before (pac (pix ix_seq ok_ix (pv 0) (pv 5) (fun _ _ => rfl)) (pac (pv 4) pa0))) (fun _ _ => rfl)) (gsub (pix ix_seq ok_ix (pv 3) (pbin op_addA ok_add pint (pv 5)) (fun _ _ => rfl)) (pv 6)))))))))) (ss1 (sret (pv 3))))))))) pure_
abbrev s__law_join : Stmt := topS 34
theorem sc__law_join : FnScope N__law_join ["tables", "x", "y"] (defScope s__law_join) := ⟨rfl, rfl, rfl, by decide +kernel, rfl, by decide +kernel, by decide +kernel⟩
theorem w__law_join {P : Program} {w : World} {K : PySem.W.Frag} {mg : Str → Option Value} {base : Heap} {f : Addr} {fd : FuncData} (Z : Fc P K mg) 
    (F : FunD K "_law_join" "_law_join" (defArgs s__law_join) (defBody s__law_join) (defScope s__law_join) [] [] f fd) (len : ∀ {ds M Qd Xd}, sp__law_join K ds M Qd Xd → ds.length = 3)
    (pure_ : ∀ {ds M Qd Xd}, sp__law_join K ds M Qd Xd → t__law_join K (outD Qd Xd) (startD N__law_join ds) M) : FnD P w K mg base 1 f fd ["tables", "x", "y"] (sp__law_join K) :=
  fn_data F sc__law_join len (fun cdv A outer s H E c => (ssc (sset (i := 3) c.nd rfl (by first | exact .inl rfl | exact .inr rfl) (pix ix_seq ok_ix (pv 0) pint (fun _ _ => rfl))) (ss1 (sret (pix ix_seq ok_ix (pv 3) (pix ix_seq ok_ix (pix ix_seq ok_ix (pix ix_seq ok_ix (pv 0) pint (fun _ _ => rfl)) (pix ix_seq ok_ix (pv 3) (pv 1) (fun _ _ => rfl)) (fun _ _ => rfl)) (pix ix_seq ok_ix (pv 3) (pv 2) (fun _ _ => rfl)) (fun _ _ => rfl)) (fun _ _ => rfl)))))) pure_
abbrev s__law_group : Stmt := topS 35
theorem sc__law_group : FnScope N__law_group ["meet", "size"] (defScope s__law_group) := ⟨rfl, rfl, rfl, by decide +kernel, rfl, by decide +kernel, by decide +kernel⟩
theorem w__law_group {P : Program} {w : World} {K : PySem.W.Frag} {mg : Str → Option Value} {base : Heap} {f : Addr} {fd : FuncData} (Z : Fc P K mg) 
    (F : FunD K "_law_group" "_law_group" (defArgs s__law_group) (defBody s__law_group) (defScope s__law_group) [] [] f fd) (len : ∀ {ds M Qd Xd}, sp__law_group K ds M Qd Xd → ds.length = 2)
    (pure_ : ∀ {ds M Qd Xd}, sp__law_group K ds M Qd Xd → t__law_group K (outD Qd Xd) (startD N__law_group ds) M) : FnD P w K mg base 1 f fd ["meet", "size"] (sp__law_group K) :=
  fn_data F sc__law_group len (fun cdv A outer s H E c => (ssc (sfor c.hp c.calm (pir1 rfl Z.b_range (pac (pv 1) pa0)) (gname (i := 2) c.nd rfl (by first | exact .inl rfl | exact .inr rfl)) (ss1 (sfor c.hp c.calm (pir1 rfl Z.b_range (pac (pv 1) pa0)) (gname (i := 3) c.nd rfl (by first | exact .inl rfl | exact .inr rfl)) (ssc (sset (i := 4) c.nd rfl (by first | exact .inl rfl | exact .inr rfl) (pix ix_seq ok_ix (pv 0) (pv 2) (fun _ _ => rfl))) (ssc (sset (i := 5) c.nd rfl (by first | exact .inl rfl | exact .inr rfl) (pix ix_seq ok_ix (pv 0) (pv 3) (fun _ _ => rfl))) (ssc (sset (i := 6) c.nd rfl (by first | exact .inl rfl | exact .inr rfl) (pix ix_seq ok_ix (pv 0) (pix ix_seq ok_ix (pv 4) (pv 3) (fun _ _ => rfl)) (fun _ _ => rfl))) (ss1 (sfor c.hp c.calm (pir1 rfl Z.b_range (pac (pv 1) pa0)) (gname (i := 7) c.nd rfl (by first | exact .inl rfl | exact .inr rfl)) (ss1 (sif (ptcmp (op_neA c.hu) ok_ne (pix ix_seq ok_ix (pv 4) (pix ix_seq ok_ix (pv 5) (pv 7) (fun _ _ => rfl)) (fun _ _ => rfl)) (pix ix_seq ok_ix (pv 6) (pv 7) (fun _ _ => rfl)) (by rfl)) (ss1 (sret (ptup (pac pstr (pac (pv 2) (pac (pv 3) (pac (pv 7) pa0))))))) ss0)))))))))) (ss1 (sret pnon)))) pure_
abbrev s__law_mays : Stmt := topS 36
theorem sc__law_mays : FnScope N__law_mays ["tables", "zero"] (defScope s__law_mays) := ⟨rfl, rfl, rfl, by decide +kernel, rfl, by decide +kernel, by decide +kernel⟩
theorem w__law_mays {P : Program} {w : World} {K : PySem.W.Frag} {mg : Str → Option Value} {base : Heap} {f : Addr} {fd : FuncData} (Z : Fc P K mg) (h__law_join : Has P w K mg base 1 "_law_join" ["tables", "x", "y"] (sp__law_join K))
    (F : FunD K "_law_mays" "_law_mays" (defArgs s__law_mays) (defBody s__law_mays) (defScope s__law_mays) [] [] f fd) (len : ∀ {ds M Qd Xd}, sp__law_mays K ds M Qd Xd → ds.length = 2)
    (pure_ : ∀ {ds M Qd Xd}, sp__law_mays K ds M Qd Xd → t__law_mays K (outD Qd Xd) (startD N__law_mays ds) M) : FnD P w K mg base 2 f fd ["tables", "zero"] (sp__law_mays K) :=
  fn_data F sc__law_mays len (fun cdv A outer s H E c => (ssc (sfor c.hp c.calm (pir1 rfl Z.b_range (pac pint pa0)) (gname (i := 2) c.nd rfl (by first | exact .inl rfl | exact .inr rfl)) (ss1 (sif (ptcmp (op_neA c.hu) ok_ne (pix ix_seq ok_ix (pix ix_seq ok_ix (pv 0) (pbin op_addA ok_add pint (pv 2)) (fun _ _ => rfl)) (pv 1) (fun _ _ => rfl)) (pv 1) (by rfl)) (ss1 (sret (ptup (pac pstr (pac (pix ix_seq ok_ix pstr (pv 2) (fun _ _ => rfl)) pa0))))) ss0))) (ssc (sfor c.hp c.calm (pir1 rfl Z.b_range (pac pint pa0)) (gname (i := 2) c.nd rfl (by first | exact .inl rfl | exact .inr rfl)) (ssc (sset (i := 3) c.nd rfl (by first | exact .inl rfl | exact .inr rfl) (pix ix_seq ok_ix (pv 0) (pbin op_addA ok_add pint (pv 2)) (fun _ _ => rfl))) (ss1 (sfor c.hp c.calm (pir1 rfl Z.b_range (pac (pblt call_len ok_len Z.b_len (pac (pv 3) pa0)) pa0)) (gname (i := 4) c.nd rfl (by first | exact .inl rfl | exact .inr rfl)) (ss1 (sfor c.hp c.calm (pir1 rfl Z.b_range (pac (pblt call_len ok_len Z.b_len (pac (pv 3) pa0)) pa0)) (gname (i := 5) c.nd rfl (by first | exact .inl rfl | exact .inr rfl)) (ssc (sset (i := 6) c.nd rfl (by first | exact .inl rfl | exact .inr rfl) (pix ix_seq ok_ix (pv 3) (pcall c h__law_join (pac (pv 0) (pac (pv 4) (pac (pv 5) pa0)))) (fun _ _ => rfl))) (ss1 (sif (ptcmp (op_neA c.hu) ok_ne (pv 6) (pcall c h__law_join (pac (pv 0) (pac (pix ix_seq ok_ix (pv 3) (pv 4) (fun _ _ => rfl)) (pac (pix ix_seq ok_ix (pv 3) (pv 5) (fun _ _ => rfl)) pa0)))) (by rfl)) (ss1 (sret (ptup (pac pstr (pac (pix ix_seq ok_ix pstr (pv 2) (fun _ _ => rfl)) (pac (pv 4) (pac (pv 5) pa0))))))) ss0))))))))) (ss1 (sret pnon))))) pure_
abbrev s__law_first_fault : Stmt := topS 37
theorem sc__law_first_fault : FnScope N__law_first_fault ["tables"] (defScope s__law_first_fault) := ⟨rfl, rfl, rfl, by decide +kernel, rfl, by decide +kernel, by decide +kernel⟩
theorem w__law_first_fault {P : Program} {w : World} {K : PySem.W.Frag} {mg : Str → Option Value} {base : Heap} {f : Addr} {fd : FuncData} (Z : Fc P K mg) (h__law_group : Has P w K mg base 1 "_law_group" ["meet", "size"] (sp__law_group K)) (h__law_mays : Has P w K mg base 2 "_law_mays" ["tables", "zero"] (sp__law_mays K))
    (F : FunD K "_law_first_fault" "_law_first_fault" (defArgs s__law_first_fault) (defBody s__law_first_fault) (defScope s__law_first_fault) [] [] f fd) (len : ∀ {ds M Qd Xd}, sp__law_first_fault K ds M Qd Xd → ds.length = 1)
    (pure_ : ∀ {ds M Qd Xd}, sp__law_first_fault K ds M Qd Xd → t__law_first_fault K (outD Qd Xd) (startD N__law_first_fault ds) M) : FnD P w K mg base 3 f fd ["tables"] (sp__law_first_fault K) :=
  fn_data F sc__law_first_fault len (fun cdv A outer s H E c => (ssc (sset (i := 1) c.nd rfl (by first | exact .inl rfl | exact .inr rfl) (pix ix_seq ok_ix (pv 0) pint (fun _ _ => rfl))) (ssc (sset (i := 2) c.nd rfl (by first | exact .inl rfl | exact .inr rfl) (pix ix_seq ok_ix (pv 0) pint (fun _ _ => rfl))) (ssc (sset (i := 3) c.nd rfl (by first | exact .inl rfl | exact .inr rfl) (pblt call_len ok_len Z.b_len (pac (pv 2) pa0))) (ssc (sfor c.hp c.calm (pir1 rfl Z.b_range (pac (pv 3) pa0)) (gname (i := 4) c.nd rfl (by first | exact .inl rfl | exact .inr rfl)) (ss1 (sfor c.hp c.calm (pir1 rfl Z.b_range (pac (pv 3) pa0)) (gname (i := 5) c.nd rfl (by first | exact .inl rfl | exact .inr rfl)) (ss1 (sif (ptcmp (op_neA c.hu) ok_ne (pix ix_seq ok_ix (pix ix_seq ok_ix (pv 1) (pv 4) (fun _ _ => rfl)) (pv 5) (fun _ _ => rfl)) (pix ix_seq ok_ix (pix ix_seq ok_ix (pv 1) (pv 5) (fun _ _ => rfl)) (pv 4) (fun _ _ => rfl)) (by rfl)) (ss1 (sret (ptup (pac pstr (pac (pv 4) (pac (pv 5) pa0)))))) ss0))))) (ssc (sset (i := 6) c.nd rfl (by first | exact .inl rfl | exact .inr rfl) (pcall c h__law_group (pac (pv 1) (pac (pv 3) pa0)))) (ssc (sif (ptcmp op_isnA ok_isn (pv 6) pnon (by rfl)) (ss1 (sret (pv 6))) ss0) (ssc (sset (i := 7) c.nd rfl (by first | exact .inl rfl | exact .inr rfl) (pix ix_seq ok_ix (pix ix_seq ok_ix (pv 1) pint (fun _ _ => rfl)) (pix ix_seq ok_ix (pv 2) pint (fun _ _ => rfl)) (fun _ _ => rfl))) (ssc (sfor c.hp c.calm (pir1 rfl Z.b_range (pac (pv 3) pa0)) (gname (i := 4) c.nd rfl (by first | exact .inl rfl | exact .inr rfl)) (ss1 (sif (ptcmp (op_neA c.hu) ok_ne (pix ix_seq ok_ix (pix ix_seq ok_ix (pv 1) (pv 4) (fun _ _ => rfl)) (pix ix_seq ok_ix (pv 2) (pv 4) (fun _ _ => rfl)) (fun _ _ => rfl)) (pv 7) (by rfl)) (ss1 (sret (ptup (pac pstr (pac (pv 4) pa0))))) ss0))) (ssc (sfor c.hp c.calm (pir1 rfl Z.b_range (pac (pv 3) pa0)) (gname (i := 4) c.nd rfl (by first | exact .inl rfl | exact .inr rfl)) (ss1 (sfor c.hp c.calm (pir1 rfl Z.b_range (pac (pv 3) pa0)) (gname (i := 5) c.nd rfl (by first | exact .inl rfl | exact .inr rfl)) (ss1 (sif (ptcmp (op_neA c.hu) ok_ne (pcmp (op_eqA c.hu) ok_eq (pix ix_seq ok_ix (pix ix_seq ok_ix (pv 1) (pv 4) (fun _ _ => rfl)) (pix ix_seq ok_ix (pv 2) (pv 5) (fun _ _ => rfl)) (fun _ _ => rfl)) (pv 7) (by rfl)) (pcmp (op_eqA c.hu) ok_eq (pix ix_seq ok_ix (pix ix_seq ok_ix (pv 1) (pv 4) (fun _ _ => rfl)) (pv 5) (fun _ _ => rfl)) (pv 4) (by rfl)) (by rfl)) (ss1 (sret (ptup (pac pstr (pac (pv 4) (pac (pv 5) pa0)))))) ss0))))) (ss1 (sret (pcall c h__law_mays (pac (pv 0) (pac (pv 7) pa0))))))))))))))) pure_
abbrev s__law_copy : Stmt := topS 38
theorem sc__law_copy : FnScope N__law_copy ["tables"] (defScope s__law_copy) := ⟨rfl, rfl, rfl, by decide +kernel, rfl, by decide +kernel, by decide +kernel⟩
theorem w__law_copy {P : Program} {w : World} {K : PySem.W.Frag} {mg : Str → Option Value} {base : Heap} {f : Addr} {fd : FuncData} (Z : Fc P K mg) 
    (F : FunD K "_law_copy" "_law_copy" (defArgs s__law_copy) (defBody s__law_copy) (defScope s__law_copy) [] [] f fd) (len : ∀ {ds M Qd Xd}, sp__law_copy K ds M Qd Xd → ds.length = 1)
    (pure_ : ∀ {ds M Qd Xd}, sp__law_copy K ds M Qd Xd → t__law_copy K (outD Qd Xd) (startD N__law_copy ds) M) : FnD P w K mg base 1 f fd ["tables"] (sp__law_copy K) :=
  fn_data F sc__law_copy len (fun cdv A outer s H E c => (ssc (sset (i := 1) c.nd rfl (by first | exact .inl rfl | exact .inr rfl) (plstM (pac (plcM (own := [("row", 2)]) c (pis (pix ix_seq ok_ix (pv 0) pint (fun _ _ => rfl))) ⟨blk_of N__law_copy (defScope s__law_copy) rfl rfl ⟨rfl, by decide +kernel, by decide +kernel, by decide +kernel, by decide +kernel⟩, by decide, fun s H C cl fp => g1 2 (by exact c.nd), fun s H C cl fp c => pts0, fun s H C cl fp c => (pbty call_list_of ok_listM Z.b_list (pac (pv 2) pa0))⟩) pa0))) (ssc (sfor c.hp c.calm (pir1 rfl Z.b_range (pac pint pa0)) (gname (i := 3) c.nd rfl (by first | exact .inl rfl | exact .inr rfl)) (ss1 (sexpr (pbm PySem.F.plainAttrs_list PySem.F.slot_list_append PySem.F.type_list_append mt_append ok_app (pv 1) (pac (pbty call_list_of ok_listM Z.b_list (pac (pix ix_seq ok_ix (pv 0) (pbin op_addA ok_add pint (pv 3)) (fun _ _ => rfl)) pa0)) pa0))))) (ss1 (sret (pv 1)))))) pure_
abbrev s__law_filled : Stmt := topS 39
theorem sc__law_filled : FnScope N__law_filled ["state", "tables"] (defScope s__law_filled) := ⟨rfl, rfl, rfl, by decide +kernel, rfl, by decide +kernel, by decide +kernel⟩
theorem w__law_filled {P : Program} {w : World} {K : PySem.W.Frag} {mg : Str → Option Value} {base : Heap} {f : Addr} {fd : FuncData} (Z : Fc P K mg) (h__law_take : Has P w K mg base 1 "_law_take" ["state", "many"] (sp__law_take K))
    (F : FunD K "_law_filled" "_law_filled" (defArgs s__law_filled) (defBody s__law_filled) (defScope s__law_filled) [] [] f fd) (len : ∀ {ds M Qd Xd}, sp__law_filled K ds M Qd Xd → ds.length = 2)
    (pure_ : ∀ {ds M Qd Xd}, sp__law_filled K ds M Qd Xd → t__law_filled K (outD Qd Xd) (startD N__law_filled ds) M) : FnD P w K mg base 2 f fd ["state", "tables"] (sp__law_filled K) :=
  fn_data F sc__law_filled len (fun cdv A outer s H E c => (ssc (sset (i := 2) c.nd rfl (by first | exact .inl rfl | exact .inr rfl) (pblt call_len ok_len Z.b_len (pac (pix ix_seq ok_ix (pv 1) pint (fun _ _ => rfl)) pa0))) (ssc (swhile c.hp (ptcmp op_lt (ok_i2 fun _ _ _ => .bl _) (pblt call_len ok_len Z.b_len (pac (pv 1) pa0)) pint (by rfl)) (ss1 (sexpr (pbm PySem.F.plainAttrs_list PySem.F.slot_list_append PySem.F.type_list_append mt_append ok_app (pv 1) (pac (plcM (own := [("x", 3)]) c (pir1 rfl Z.b_range (pac (pv 2) pa0)) ⟨blk_of N__law_filled (defScope s__law_filled) rfl rfl ⟨rfl, by decide +kernel, by decide +kernel, by decide +kernel, by decide +kernel⟩, by decide, fun s H C cl fp => g1 3 (by exact c.nd), fun s H C cl fp c => pts0, fun s H C cl fp c => (pcall c h__law_take (pac (pv 0) (pac (pv 2) pa0)))⟩) pa0))))) (ss1 (sret (pv 1)))))) pure_
abbrev s__law_chain : Stmt := topS 40
theorem sc__law_chain : FnScope N__law_chain ["state", "size"] (defScope s__law_chain) := ⟨rfl, rfl, rfl, by decide +kernel, rfl, by decide +kernel, by decide +kernel⟩
theorem w__law_chain {P : Program} {w : World} {K : PySem.W.Frag} {mg : Str → Option Value} {base : Heap} {f : Addr} {fd : FuncData} (Z : Fc P K mg) (h__law_take : Has P w K mg base 1 "_law_take" ["state", "many"] (sp__law_take K)) (h__law_filled : Has P w K mg base 2 "_law_filled" ["state", "tables"] (sp__law_filled K))
    (F : FunD K "_law_chain" "_law_chain" (defArgs s__law_chain) (defBody s__law_chain) (defScope s__law_chain) [] [] f fd) (len : ∀ {ds M Qd Xd}, sp__law_chain K ds M Qd Xd → ds.length = 2)
    (pure_ : ∀ {ds M Qd Xd}, sp__law_chain K ds M Qd Xd → t__law_chain K (outD Qd Xd) (startD N__law_chain ds) M) : FnD P w K mg base 3 f fd ["state", "size"] (sp__law_chain K) :=
  fn_data F sc__law_chain len (fun cdv A outer s H E c => (ssc (sset (i := 2) c.nd rfl (by first | exact .inl rfl | exact .inr rfl) (plstM pa0)) (ssc (sfor c.hp c.calm (pir1 rfl Z.b_range (pac (pv 1) pa0)) (gname (i := 3) c.nd rfl (by first | exact .inl rfl | exact .inr rfl)) (ss1 (sexpr (pbm PySem.F.plainAttrs_list PySem.F.slot_list_append PySem.F.type_list_append mt_append ok_app (pv 2) (pac (plcM (own := [("y", 4)]) c (pir1 rfl Z.b_range (pac (pv 1) pa0)) ⟨blk_of N__law_chain (defScope s__law_chain) rfl rfl ⟨rfl, by decide +kernel, by decide +kernel, by decide +kernel, by decide +kernel⟩, by decide, fun s H C cl fp => g1 4 (by exact c.nd), fun s H C cl fp c => pts0, fun s H C cl fp c => (pblt (call_min2 c.calm) ok_min Z.b_min (pac (pv 3) (pac (pv 4) pa0)))⟩) pa0))))) (ssc (ssetLcM (own := [("x", 3)]) (i := 5) c rfl rfl (sw_true rfl rfl rfl (by decide +kernel)) (pir1 rfl Z.b_range (pac (pv 1) pa0)) ⟨blk_of N__law_chain (defScope s__law_chain) rfl rfl ⟨rfl, by decide +kernel, by decide +kernel, by decide +kernel, by decide +kernel⟩, by decide, fun s H C cl fp => g1 3 (by exact c.nd), fun s H C cl fp c => pts0, fun s H C cl fp c => (pbin op_sub (ok_i2 fun _ _ _ => .int _) (pbin op_sub (ok_i2 fun _ _ _ => .int _) (pv 1) pint) (pv 3))⟩) (ssc (sif (ptcmp (op_eqA c.hu) ok_eq (pcall c h__law_take (pac (pv 0) (pac pint pa0))) pint (by rfl)) (ss1 (ssetLcM (own := [("x", 3)]) (i := 5) c rfl rfl (sw_true rfl rfl rfl (by decide +kernel)) (pir1 rfl Z.b_range (pac (pv 1) pa0)) ⟨blk_of N__law_chain (defScope s__law_chain) rfl rfl ⟨rfl, by decide +kernel, by decide +kernel, by decide +kernel, by decide +kernel⟩, by decide, fun s H C cl fp => g1 3 (by exact c.nd), fun s H C cl fp c => pts0, fun s H C cl fp c => (pbin op_mulA ok_mul (pbin op_sub (ok_i2 fun _ _ _ => .int _) (pv 1) pint) (pbty call_int1 ok_int Z.b_int (pac (pcmp (op_eqA c.hu) ok_eq (pv 3) pint (by rfl)) pa0)))⟩)) ss0) (ss1 (sret (pcall c h__law_filled (pac (pv 0) (pac (plstM (pac (pv 2) (pac (pv 5) pa0))) pa0)))))))))) pure_
abbrev s__law_odd_tables : Stmt := topS 41
theorem sc__law_odd_tables : FnScope N__law_odd_tables ["state", "way", "great"] (defScope s__law_odd_tables) := ⟨rfl, rfl, rfl, by decide +kernel, rfl, by decide +kernel, by decide +kernel⟩
theorem w__law_odd_tables {P : Program} {w : World} {K : PySem.W.Frag} {mg : Str → Option Value} {base : Heap} {f : Addr} {fd : FuncData} (Z : Fc P K mg) (h__law_take : Has P w K mg base 1 "_law_take" ["state", "many"] (sp__law_take K)) (h__law_filled : Has P w K mg base 2 "_law_filled" ["state", "tables"] (sp__law_filled K)) (h__law_chain : Has P w K mg base 3 "_law_chain" ["state", "size"] (sp__law_chain K))
    (F : FunD K "_law_odd_tables" "_law_odd_tables" (defArgs s__law_odd_tables) (defBody s__law_odd_tables) (defScope s__law_odd_tables) [] [] f fd) (len : ∀ {ds M Qd Xd}, sp__law_odd_tables K ds M Qd Xd → ds.length = 3)
    (pure_ : ∀ {ds M Qd Xd}, sp__law_odd_tables K ds M Qd Xd → t__law_odd_tables K (outD Qd Xd) (startD N__law_odd_tables ds) M) : FnD P w K mg base 4 f fd ["state", "way", "great"] (sp__law_odd_tables K) :=
  fn_data F sc__law_odd_tables len (fun cdv A outer s H E c => (ssc (sset (i := 3) c.nd rfl (by first | exact .inl rfl | exact .inr rfl) (plstM pa0)) (ssc (sif (ptcmp (op_eqA c.hu) ok_eq (pv 1) pint (by rfl)) (ssc (sset (i := 4) c.nd rfl (by first | exact .inl rfl | exact .inr rfl) (pbin op_addA ok_add pint (pcall c h__law_take (pac (pv 0) (pac pint pa0))))) (ssc (sfor c.hp c.calm (pir1 rfl Z.b_range (pac (pv 4) pa0)) (gname (i := 5) c.nd rfl (by first | exact .inl rfl | exact .inr rfl)) (ss1 (sexpr (pbm PySem.F.plainAttrs_list PySem.F.slot_list_append PySem.F.type_list_append mt_append ok_app (pv 3) (pac (plcM (own := [("y", 6)]) c (pir1 rfl Z.b_range (pac (pv 4) pa0)) ⟨blk_of N__law_odd_tables (defScope s__law_odd_tables) rfl rfl ⟨rfl, by decide +kernel, by decide +kernel, by decide +kernel, by decide +kernel⟩, by decide, fun s H C cl fp => g1 6 (by exact c.nd), fun s H C cl fp c => pts0, fun s H C cl fp c => (pcall c h__law_take (pac (pv 0) (pac (pv 4) pa0)))⟩) pa0))))) (ss1 (sret (pcall c h__law_filled (pac (pv 0) (pac (plstM (pac (pv 3) pa0)) pa0))))))) ss0) (ssc (sif (ptcmp (op_eqA c.hu) ok_eq (pv 1) pint (by rfl)) (ss1 (sret (pcall c h__law_chain (pac (pv 0) (pac (pbin op_addA ok_add pint (pcall c h__law_take (pac (pv 0) (pac (pife (pttru (pv 2)) pint pint) pa0)))) pa0))))) ss0) (ssc (sset (i := 4) c.nd rfl (by first | exact .inl rfl | exact .inr rfl) (pbin op_shl (ok_i2c fun _ _ _ => .int _) pint (pcall c h__law_take (pac (pv 0) (pac pint pa0))))) (ssc (sfor c.hp c.calm (pir1 rfl Z.b_range (pac (pv 4) pa0)) (gname (i := 5) c.nd rfl (by first | exact .inl rfl | exact .inr rfl)) (ss1 (sexpr (pbm PySem.F.plainAttrs_list PySem.F.slot_list_append PySem.F.type_list_append mt_append ok_app (pv 3) (pac (plcM (own := [("y", 6)]) c (pir1 rfl Z.b_range (pac (pv 4) pa0)) ⟨blk_of N__law_odd_tables (defScope s__law_odd_tables) rfl rfl ⟨rfl, by decide +kernel, by decide +kernel, by decide +kernel, by decide +kernel⟩, by decide, fun s H C cl fp => g1 6 (by exact c.nd), fun s H C cl fp c => pts0, fun s H C cl fp c => (pbin op_xor (ok_i2 fun _ _ _ => .int _) (pv 5) (pv 6))⟩) pa0))))) (ss1 (sret (pcall c h__law_filled (pac (pv 0) (pac (plstM (pac (pv 3) (pac (plsrg c.calm rfl Z.b_list rfl Z.b_range (pv 4)) pa0))) pa0))))))))))) pure_
abbrev s__law_spoil : Stmt := topS 42
theorem sc__law_spoil : FnScope N__law_spoil ["state", "tables"] (defScope s__law_spoil) := ⟨rfl, rfl, rfl, by decide +kernel, rfl, by decide +kernel, by decide +kernel⟩
theorem w__law_spoil {P : Program} {w : World} {K : PySem.W.Frag} {mg : Str → Option Value} {base : Heap} {f : Addr} {fd : FuncData} (Z : Fc P K mg) (h__law_take : Has P w K mg base 1 "_law_take" ["state", "many"] (sp__law_take K))
    (F : FunD K "_law_spoil" "_law_spoil" (defArgs s__law_spoil) (defBody s__law_spoil) (defScope s__law_spoil) [] [] f fd) (len : ∀ {ds M Qd Xd}, sp__law_spoil K ds M Qd Xd → ds.length = 2)
    (pure_ : ∀ {ds M Qd Xd}, sp__law_spoil K ds M Qd Xd → t__law_spoil K (outD Qd Xd) (startD N__law_spoil ds) M) : FnD P w K mg base 2 f fd ["state", "tables"] (sp__law_spoil K) :=
  fn_data F sc__law_spoil len (fun cdv A outer s H E c => (ssc (sset (i := 2) c.nd rfl (by first | exact .inl rfl | exact .inr rfl) (pblt call_len ok_len Z.b_len (pac (pix ix_seq ok_ix (pv 1) pint (fun _ _ => rfl)) pa0))) (ssc (sset (i := 3) c.nd rfl (by first | exact .inl rfl | exact .inr rfl) (pcall c h__law_take (pac (pv 0) (pac (pv 2) pa0)))) (ssc (sset (i := 4) c.nd rfl (by first | exact .inl rfl | exact .inr rfl) (pcall c h__law_take (pac (pv 0) (pac (pv 2) pa0)))) (ssc (sset (i := 5) c.nd rfl (by first | exact .inl rfl | exact .inr rfl) (pcall c h__law_take (pac (pv 0) (pac (pv 2) pa0)))) (ssc (sset (i := 6) c.nd rfl (by first | exact .inl rfl | exact .inr rfl) (pcall c h__law_take (pac (pv 0) (pac pint pa0)))) (ss1 (sif (ptcmp op_lt (ok_i2 fun _ _ _ => .bl _) (pv 6) pint (by rfl)) (ssc (sasg (pv 5) (gsub (pix ix_seq ok_ix (pix ix_seq ok_ix (pv 1) pint (fun _ _ => rfl)) (pv 3) (fun _ _ => rfl)) (pv 4))) (ss1 (sif (ptcmp (op_eqA c.hu) ok_eq (pv 6) pint (by rfl)) (ss1 (sasg (pv 5) (gsub (pix ix_seq ok_ix (pix ix_seq ok_ix (pv 1) pint (fun _ _ => rfl)) (pv 4) (fun _ _ => rfl)) (pv 3)))) ss0))) (ss1 (sasg (pv 5) (gsub (pix ix_seq ok_ix (pv 1) (pbin op_sub (ok_i2 fun _ _ _ => .int _) (pv 6) pint) (fun _ _ => rfl)) (pv 3)))))))))))) pure_
abbrev s__law_built : Stmt := topS 43
theorem sc__law_built : FnScope N__law_built ["state"] (defScope s__law_built) := ⟨rfl, rfl, rfl, by decide +kernel, rfl, by decide +kernel, by decide +kernel⟩
theorem w__law_built {P : Program} {w : World} {K : PySem.W.Frag} {mg : Str → Option Value} {base : Heap} {f : Addr} {fd : FuncData} (Z : Fc P K mg) (h__law_take : Has P w K mg base 1 "_law_take" ["state", "many"] (sp__law_take K)) (h__law_odd_tables : Has P w K mg base 4 "_law_odd_tables" ["state", "way", "great"] (sp__law_odd_tables K)) (h__law_draw_steps : Has P w K mg base 2 "_law_draw_steps" ["state", "size"] (sp__law_draw_steps K)) (h__law_set_tables : Has P w K mg base 2 "_law_set_tables" ["ways", "order"] (sp__law_set_tables K)) (h__law_shuffle : Has P w K mg base 2 "_law_shuffle" ["state", "size"] (sp__law_shuffle K)) (h__law_spoil : Has P w K mg base 2 "_law_spoil" ["state", "tables"] (sp__law_spoil K))
    (F : FunD K "_law_built" "_law_built" (defArgs s__law_built) (defBody s__law_built) (defScope s__law_built) [] [] f fd) (len : ∀ {ds M Qd Xd}, sp__law_built K ds M Qd Xd → ds.length = 1)
    (pure_ : ∀ {ds M Qd Xd}, sp__law_built K ds M Qd Xd → t__law_built K (outD Qd Xd) (startD N__law_built ds) M) : FnD P w K mg base 5 f fd ["state"] (sp__law_built K) :=
  fn_data F sc__law_built len (fun cdv A outer s H E c => (ssc (sset (i := 1) c.nd rfl (by first | exact .inl rfl | exact .inr rfl) (pcall c h__law_take (pac (pv 0) (pac pint pa0)))) (ssc (sset (i := 2) c.nd rfl (by first | exact .inl rfl | exact .inr rfl) (pcmp (op_eqA c.hu) ok_eq (pcall c h__law_take (pac (pv 0) (pac pint pa0))) pint (by rfl))) (ssc (sif (ptcmp op_lt (ok_i2 fun _ _ _ => .bl _) (pv 1) pint (by rfl)) (ss1 (sret (pcall c h__law_odd_tables (pac (pv 0) (pac (pv 1) (pac (pv 2) pa0)))))) ss0) (ssc (sset (i := 3) c.nd rfl (by first | exact .inl rfl | exact .inr rfl) (pife (pttru (pv 2)) pint (pbin op_addA ok_add pint (pcall c h__law_take (pac (pv 0) (pac pint pa0)))))) (ssc (sset (i := 4) c.nd rfl (by first | exact .inl rfl | exact .inr rfl) (pcall c h__law_draw_steps (pac (pv 0) (pac (pv 3) pa0)))) (ssc (sset (i := 5) c.nd rfl (by first | exact .inl rfl | exact .inr rfl) (pcall c h__law_set_tables (pac (pv 4) (pac (pcall c h__law_shuffle (pac (pv 0) (pac (pbin op_shl (ok_i2c fun _ _ _ => .int _) pint (pv 3)) pa0))) pa0)))) (ssc (sif (ptcmp op_gt (ok_i2 fun _ _ _ => .bl _) (pv 1) pint (by rfl)) (ss1 (sexpr (pcall c h__law_spoil (pac (pv 0) (pac (pv 5) pa0))))) ss0) (ssc (sif (ptcmp (op_eqA c.hu) ok_eq (pv 1) pint (by rfl)) (ss1 (sexpr (pcall c h__law_spoil (pac (pv 0) (pac (pv 5) pa0))))) ss0) (ss1 (sret (pv 5)))))))))))) pure_
abbrev s__law_shape : Stmt := topS 44
theorem sc__law_shape : FnScope N__law_shape ["tables"] (defScope s__law_shape) := ⟨rfl, rfl, rfl, by decide +kernel, rfl, by decide +kernel, by decide +kernel⟩
theorem w__law_shape {P : Program} {w : World} {K : PySem.W.Frag} {mg : Str → Option Value} {base : Heap} {f : Addr} {fd : FuncData} (Z : Fc P K mg) 
    (F : FunD K "_law_shape" "_law_shape" (defArgs s__law_shape) (defBody s__law_shape) (defScope s__law_shape) [] [] f fd) (len : ∀ {ds M Qd Xd}, sp__law_shape K ds M Qd Xd → ds.length = 1)
    (pure_ : ∀ {ds M Qd Xd}, sp__law_shape K ds M Qd Xd → t__law_shape K (outD Qd Xd) (startD N__law_shape ds) M) : FnD P w K mg base 1 f fd ["tables"] (sp__law_shape K) :=
  fn_data F sc__law_shape len (fun cdv A outer s H E c => (ssc (sset (i := 1) c.nd rfl (by first | exact .inl rfl | exact .inr rfl) (pblt call_len ok_len Z.b_len (pac (pix ix_seq ok_ix (pv 0) pint (fun _ _ => rfl)) pa0))) (ssc (sif (PW.pt (pwor (ptcmp op_lt (ok_i2 fun _ _ _ => .bl _) (pv 1) pint (by rfl)) (pwor1 (ptcmp op_gt (ok_i2 fun _ _ _ => .bl _) (pv 1) pint (by rfl))))) (ss1 (sret (ptup (pac pstr (pac (pv 1) pa0))))) ss0) (ssc (sfor c.hp c.calm (pir1 rfl Z.b_range (pac pint pa0)) (gname (i := 2) c.nd rfl (by first | exact .inl rfl | exact .inr rfl)) (ssc (sset (i := 3) c.nd rfl (by first | exact .inl rfl | exact .inr rfl) (plst (pac (pix ix_seq ok_ix (pv 0) (pv 2) (fun _ _ => rfl)) pa0))) (ssc (sif (ptcmp (op_eqA c.hu) ok_eq (pv 2) pint (by rfl)) (ss1 (sset (i := 3) c.nd rfl (by first | exact .inl rfl | exact .inr rfl) (pix ix_seq ok_ix (pv 0) pint (fun _ _ => rfl)))) ss0) (ssc (sset (i := 4) c.nd rfl (by first | exact .inl rfl | exact .inr rfl) (pand (pcmp (op_eqA c.hu) ok_eq (pv 2) pint (by rfl)) (pone (pcmp (op_neA c.hu) ok_ne (pblt call_len ok_len Z.b_len (pac (pv 3) pa0)) (pv 1) (by rfl))))) (ssc (sfor c.hp c.calm (pis (pv 3)) (gname (i := 5) c.nd rfl (by first | exact .inl rfl | exact .inr rfl)) (ssc (ssetLc (own := [("x", 7)]) (i := 6) c rfl rfl (sw_true rfl rfl rfl (by decide +kernel)) (pis (pv 5)) ⟨blk_of N__law_shape (defScope s__law_shape) rfl rfl ⟨rfl, by decide +kernel, by decide +kernel, by decide +kernel, by decide +kernel⟩, by decide, fun s H C cl fp => g1 7 (by exact c.nd), fun s H C cl fp c => pts1 (PW.pt (pwor (ptcmp op_lt (ok_i2 fun _ _ _ => .bl _) (pv 7) pint (by rfl)) (pwor1 (ptcmp op_ge (ok_i2 fun _ _ _ => .bl _) (pv 7) (pv 1) (by rfl))))), fun s H C cl fp c => (pv 7)⟩) (ss1 (sif (PW.pt (pwor (ptcmp (op_neA c.hu) ok_ne (pblt call_len ok_len Z.b_len (pac (pv 5) pa0)) (pv 1) (by rfl)) (pwor1 (ptcmp (op_neA c.hu) ok_ne (pv 6) (plst pa0) (by rfl))))) (ss1 (sset (i := 4) c.nd rfl (by first | exact .inl rfl | exact .inr rfl) pbl)) ss0)))) (ss1 (sif (pttru (pv 4)) (ss1 (sret (ptup (pac pstr (pac (pix ix_seq ok_ix (plst (pac pstr (pac pstr (pac pstr (pac pstr (pac pstr pa0)))))) (pv 2) (fun _ _ => rfl)) pa0))))) ss0))))))) (ss1 (sret (ptup (pac pstr (pac pint pa0))))))))) pure_
abbrev s__law_bend : Stmt := topS 45
theorem sc__law_bend : FnScope N__law_bend ["state", "tables"] (defScope s__law_bend) := ⟨rfl, rfl, rfl, by decide +kernel, rfl, by decide +kernel, by decide +kernel⟩
theorem w__law_bend {P : Program} {w : World} {K : PySem.W.Frag} {mg : Str → Option Value} {base : Heap} {f : Addr} {fd : FuncData} (Z : Fc P K mg) (h__law_take : Has P w K mg base 1 "_law_take" ["state", "many"] (sp__law_take K))
    (F : FunD K "_law_bend" "_law_bend" (defArgs s__law_bend) (defBody s__law_bend) (defScope s__law_bend) [] [] f fd) (len : ∀ {ds M Qd Xd}, sp__law_bend K ds M Qd Xd → ds.length = 2)
    (pure_ : ∀ {ds M Qd Xd}, sp__law_bend K ds M Qd Xd → t__law_bend K (outD Qd Xd) (startD N__law_bend ds) M) : FnD P w K mg base 2 f fd ["state", "tables"] (sp__law_bend K) :=
  fn_data F sc__law_bend len (fun cdv A outer s H E c => (ssc (sset (i := 2) c.nd rfl (by first | exact .inl rfl | exact .inr rfl) (pcall c h__law_take (pac (pv 0) (pac pint pa0)))) (ssc (sset (i := 3) c.nd rfl (by first | exact .inl rfl | exact .inr rfl) (pix ix_seq ok_ix (pv 1) (pv 2) (fun _ _ => rfl))) (ssc (sset (i := 4) c.nd rfl (by first | exact .inl rfl | exact .inr rfl) (pcmp (op_eqA c.hu) ok_eq (pv 2) pint (by rfl))) (ssc (sif (PW.pt (pwand (pttru (pv 4)) (pwand (ptcmp (op_neA c.hu) ok_ne (pv 3) (plst pa0) (by rfl)) (pwand1 (ptcmp op_gt (ok_i2 fun _ _ _ => .bl _) (pcall c h__law_take (pac (pv 0) (pac pint pa0))) pint (by rfl)))))) (ssc (sset (i := 3) c.nd rfl (by first | exact .inl rfl | exact .inr rfl) (pix ix_seq ok_ix (pix ix_seq ok_ix (pv 1) pint (fun _ _ => rfl)) (pcall c h__law_take (pac (pv 0) (pac (pblt call_len ok_len Z.b_len (pac (pix ix_seq ok_ix (pv 1) pint (fun _ _ => rfl)) pa0)) pa0))) (fun _ _ => rfl))) (ss1 (sset (i := 4) c.nd rfl (by first | exact .inl rfl | exact .inr rfl) pbl))) ss0) (ssc (sset (i := 5) c.nd rfl (by first | exact .inl rfl | exact .inr rfl) (pcall c h__law_take (pac (pv 0) (pac pint pa0)))) (ss1 (sif (PW.pt (pwand (ptcmp (op_eqA c.hu) ok_eq (pv 5) pint (by rfl)) (pwand1 (pttru (pv 4))))) (ss1 (sexpr (pbm PySem.F.plainAttrs_list PySem.F.slot_list_append PySem.F.type_list_append mt_append ok_app (pv 3) (pac (pbin op_mulA ok_mulM (plst (pac pint pa0)) (pblt call_len ok_len Z.b_len (pac (pix ix_seq ok_ix (pv 1) pint (fun _ _ => rfl)) pa0))) pa0)))) (ss1 (sif (ptcmp (op_eqA c.hu) ok_eq (pv 5) pint (by rfl)) (ss1 (sexpr (pbm PySem.F.plainAttrs_list PySem.F.slot_list_append PySem.F.type_list_append mt_append ok_app (pv 3) (pac pint pa0)))) (ss1 (sif (PW.pt (pwand (ptcmp (op_eqA c.hu) ok_eq (pv 5) pint (by rfl)) (pwand1 (ptcmp (op_neA c.hu) ok_ne (pv 3) (plst pa0) (by rfl))))) (ss1 (sexpr (pbm0 PySem.F.plainAttrs_list PySem.F.slot_list_pop PySem.F.type_list_pop mt_pop ok_pop (pv 3)))) (ss1 (sif (PW.pt (pwand (ptcmp op_gt (ok_i2 fun _ _ _ => .bl _) (pv 5) pint (by rfl)) (pwand (ptnot (pttru (pv 4))) (pwand1 (ptcmp (op_neA c.hu) ok_ne (pv 3) (plst pa0) (by rfl)))))) (ssc (sset (i := 6) c.nd rfl (by first | exact .inl rfl | exact .inr rfl) (pcall c h__law_take (pac (pv 0) (pac (pblt call_len ok_len Z.b_len (pac (pv 3) pa0)) pa0)))) (ss1 (sasg (pix ix_seq ok_ix (plst (pac (pblt call_len ok_len Z.b_len (pac (pix ix_seq ok_ix (pv 1) pint (fun _ _ => rfl)) pa0)) (pac (punop un_neg ok_neg pint) (pac pint pa0)))) (pbin op_sub (ok_i2 fun _ _ _ => .int _) (pv 5) pint) (fun _ _ => rfl)) (gsub (pv 3) (pv 6))))) ss0)))))))))))))) pure_
abbrev s__law_try : Stmt := topS 46
theorem sc__law_try : FnScope N__law_try ["tables"] (defScope s__law_try) := ⟨rfl, rfl, rfl, by decide +kernel, rfl, by decide +kernel, by decide +kernel⟩
theorem w__law_try {P : Program} {w : World} {K : PySem.W.Frag} {mg : Str → Option Value} {base : Heap} {f : Addr} {fd : FuncData} (Z : Fc P K mg) (h_Algebra : HasC P w K mg base 3 "Algebra" (He.ga K "Algebra") ["self", "meet", "rest", "a", "b", "c"] (sp_Algebra___init__ K)) (hh__law_plain : HasH P w K mg base 1 "_law_plain" ["told"] (sp__law_plain K))
    (F : FunD K "_law_try" "_law_try" (defArgs s__law_try) (defBody s__law_try) (defScope s__law_try) [] [] f fd) (len : ∀ {ds M Qd Xd}, sp__law_try K ds M Qd Xd → ds.length = 1)
    (pure_ : ∀ {ds M Qd Xd}, sp__law_try K ds M Qd Xd → t__law_try K (outD Qd Xd) (startD N__law_try ds) M) : FnD P w K mg base 5 f fd ["tables"] (sp__law_try K) :=
  fn_data F sc__law_try len (fun cdv A outer s H E c => (ssc (stry c rfl rfl (fun W' pn xe c => (ss1 (sexpr (pnew c h_Algebra (pac (pix ix_seq ok_ix (pv 0) pint (fun _ _ => rfl)) (pac (pix ix_seq ok_ix (pv 0) pint (fun _ _ => rfl)) (pac (pix ix_seq ok_ix (pv 0) pint (fun _ _ => rfl)) (pac (pix ix_seq ok_ix (pv 0) pint (fun _ _ => rfl)) (pac (pix ix_seq ok_ix (pv 0) pint (fun _ _ => rfl)) pa0))))))))) (.named (by exact ⟨rfl, by decide, .inl Z.n_BadSize⟩) (i := 1) rfl rfl (fun a oe cls d pn hz hf hot => (ssc (sif (PW.pt (pwor (pttru (pisX (fun C k => Z.isx C k) hz hf rfl Z.b_isinstance (pac (pv 1) (pac (pgl Z.g_BadTable) pa0)))) (pwor1 (ptnot (pttru (pisX (fun C k => Z.isx C k) hz hf rfl Z.b_isinstance (pac (pv 1) (pac (pgl Z.g_SayError) pa0)))))))) (ss1 (sret (ptup (pac pstr (pac pint pa0))))) ss0) (ss1 (sret (ptup (pac pstr (pac (pife (pttru (pcallH hh__law_plain (roomH_m (c.rm.mono (by decide)) _) hot (pac (pexf (fun C k => Z.xf_size C k) hz hf (pv 1)) pa0))) (pexf (fun C k => Z.xf_size C k) hz hf (pv 1)) pstr) pa0))))))) (.named (by exact ⟨rfl, by decide, .inl Z.n_BadTable⟩) (i := 1) rfl rfl (fun a oe cls d pn hz hf hot => (ssc (sif (PW.pt (pwor (pttru (pisX (fun C k => Z.isx C k) hz hf rfl Z.b_isinstance (pac (pv 1) (pac (pgl Z.g_BadElement) pa0)))) (pwor1 (ptnot (pttru (pisX (fun C k => Z.isx C k) hz hf rfl Z.b_isinstance (pac (pv 1) (pac (pety Z.b_ValueError) pa0)))))))) (ss1 (sret (ptup (pac pstr (pac pint pa0))))) ss0) (ss1 (sret (ptup (pac pstr (pac (pife (pttru (pisX (fun C k => Z.isx C k) hz hf rfl Z.b_isinstance (pac (pv 1) (pac (pgl Z.g_SayError) pa0)))) (pexf (fun C k => Z.xf_word C k) hz hf (pv 1)) pint) pa0))))))) (.plain (by exact ⟨rfl, by decide, .inl Z.n_SayError⟩) (fun a oe cls d pn hz hf hot => (ss1 (sret (ptup (pac pstr (pac pint pa0)))))) ClasD.nil)))) (ss1 (sret (ptup (pac pstr (pac pint pa0))))))) pure_
abbrev s__law_refused : Stmt := topS 47
theorem sc__law_refused : FnScope N__law_refused ["state"] (defScope s__law_refused) := ⟨rfl, rfl, rfl, by decide +kernel, rfl, by decide +kernel, by decide +kernel⟩
theorem w__law_refused {P : Program} {w : World} {K : PySem.W.Frag} {mg : Str → Option Value} {base : Heap} {f : Addr} {fd : FuncData} (Z : Fc P K mg) (h__law_take : Has P w K mg base 1 "_law_take" ["state", "many"] (sp__law_take K)) (h__law_chain : Has P w K mg base 3 "_law_chain" ["state", "size"] (sp__law_chain K)) (h__law_bend : Has P w K mg base 2 "_law_bend" ["state", "tables"] (sp__law_bend K)) (h__law_shape : Has P w K mg base 1 "_law_shape" ["tables"] (sp__law_shape K)) (h__law_try : Has P w K mg base 5 "_law_try" ["tables"] (sp__law_try K))
    (F : FunD K "_law_refused" "_law_refused" (defArgs s__law_refused) (defBody s__law_refused) (defScope s__law_refused) [] [] f fd) (len : ∀ {ds M Qd Xd}, sp__law_refused K ds M Qd Xd → ds.length = 1)
    (pure_ : ∀ {ds M Qd Xd}, sp__law_refused K ds M Qd Xd → t__law_refused K (outD Qd Xd) (startD N__law_refused ds) M) : FnD P w K mg base 6 f fd ["state"] (sp__law_refused K) :=
  fn_data F sc__law_refused len (fun cdv A outer s H E c => (ssc (sset (i := 1) c.nd rfl (by first | exact .inl rfl | exact .inr rfl) (pix ix_seq ok_ix (plst (pac pint (pac pint (pac pint (pac pint (pac pint (pac pint (pac pint (pac pint pa0))))))))) (pcall c h__law_take (pac (pv 0) (pac pint pa0))) (fun _ _ => rfl))) (ssc (sset (i := 2) c.nd rfl (by first | exact .inl rfl | exact .inr rfl) (pcall c h__law_chain (pac (pv 0) (pac (pv 1) pa0)))) (ssc (sfor c.hp c.calm (pir1 rfl Z.b_range (pac (pcall c h__law_take (pac (pv 0) (pac pint pa0))) pa0)) (gname (i := 3) c.nd rfl (by first | exact .inl rfl | exact .inr rfl)) (ss1 (sexpr (pcall c h__law_bend (pac (pv 0) (pac (pv 2) pa0)))))) (ssc (sset (i := 4) c.nd rfl (by first | exact .inl rfl | exact .inr rfl) (pcall c h__law_shape (pac (pv 2) pa0))) (ssc (sset (i := 5) c.nd rfl (by first | exact .inl rfl | exact .inr rfl) (pblt (call_reprP c.gd c.ru) ok_repr Z.b_repr (pac (pv 2) pa0))) (ss1 (sret (pand (pcmp (op_eqA c.hu) ok_eq (pcall c h__law_try (pac (pv 2) pa0)) (pv 4) (by rfl)) (pone (pcmp (op_eqA c.hu) ok_eq (pblt (call_reprP c.gd c.ru) ok_repr Z.b_repr (pac (pv 2) pa0)) (pv 5) (by rfl)))))))))))) pure_
abbrev s__law_try_join : Stmt := topS 48
theorem sc__law_try_join : FnScope N__law_try_join ["made", "x", "y"] (defScope s__law_try_join) := ⟨rfl, rfl, rfl, by decide +kernel, rfl, by decide +kernel, by decide +kernel⟩
theorem w__law_try_join {P : Program} {w : World} {K : PySem.W.Frag} {mg : Str → Option Value} {base : Heap} {f : Addr} {fd : FuncData} (Z : Fc P K mg) (h_Algebra_join_of : HasM P w K mg base 4 (He.ga K "Algebra") "join_of" ["self", "x", "y"] (sp_Algebra_join_of K)) (hh__law_plain : HasH P w K mg base 1 "_law_plain" ["told"] (sp__law_plain K)) (h__law_plain : Has P w K mg base 1 "_law_plain" ["told"] (sp__law_plain K))
    (F : FunD K "_law_try_join" "_law_try_join" (defArgs s__law_try_join) (defBody s__law_try_join) (defScope s__law_try_join) [] [] f fd) (len : ∀ {ds M Qd Xd}, sp__law_try_join K ds M Qd Xd → ds.length = 3)
    (pure_ : ∀ {ds M Qd Xd}, sp__law_try_join K ds M Qd Xd → t__law_try_join K (outD Qd Xd) (startD N__law_try_join ds) M) : FnD P w K mg base 5 f fd ["made", "x", "y"] (sp__law_try_join K) :=
  fn_data F sc__law_try_join len (fun cdv A outer s H E c => (ssc (stry c rfl rfl (fun W' pn xe c => (ss1 (sset (i := 3) c.nd rfl (by first | exact .inl rfl | exact .inr rfl) (pmcall c h_Algebra_join_of (pv 0) (pac (pv 1) (pac (pv 2) pa0)))))) (.named (by exact ⟨rfl, by decide, .inl Z.n_BadElement⟩) (i := 4) rfl rfl (fun a oe cls d pn hz hf hot => (ssc (sif (PW.pt (pwor (pttru (pisX (fun C k => Z.isx C k) hz hf rfl Z.b_isinstance (pac (pv 4) (pac (pgl Z.g_BadTable) pa0)))) (pwor1 (ptnot (pttru (pisX (fun C k => Z.isx C k) hz hf rfl Z.b_isinstance (pac (pv 4) (pac (pgl Z.g_SayError) pa0)))))))) (ss1 (sret (ptup (pac pstr (pac pint pa0))))) ss0) (ss1 (sret (ptup (pac pstr (pac (pife (pttru (pcallH hh__law_plain (roomH_m (c.rm.mono (by decide)) _) hot (pac (pexf (fun C k => Z.xf_element C k) hz hf (pv 4)) pa0))) (pexf (fun C k => Z.xf_element C k) hz hf (pv 4)) pstr) pa0))))))) (.plain (by exact ⟨rfl, by decide, .inl Z.n_SayError⟩) (fun a oe cls d pn hz hf hot => (ss1 (sret (ptup (pac pstr (pac pint pa0)))))) ClasD.nil))) (ss1 (sret (ptup (pac pstr (pac (pife (pttru (pcall c h__law_plain (pac (pv 3) pa0))) (pv 3) pstr) pa0))))))) pure_
abbrev s__law_handed : Stmt := topS 49
theorem sc__law_handed : FnScope N__law_handed ["state", "size"] (defScope s__law_handed) := ⟨rfl, rfl, rfl, by decide +kernel, rfl, by decide +kernel, by decide +kernel⟩
theorem w__law_handed {P : Program} {w : World} {K : PySem.W.Frag} {mg : Str → Option Value} {base : Heap} {f : Addr} {fd : FuncData} (Z : Fc P K mg) (h__law_take : Has P w K mg base 1 "_law_take" ["state", "many"] (sp__law_take K))
    (F : FunD K "_law_handed" "_law_handed" (defArgs s__law_handed) (defBody s__law_handed) (defScope s__law_handed) [] [] f fd) (len : ∀ {ds M Qd Xd}, sp__law_handed K ds M Qd Xd → ds.length = 2)
    (pure_ : ∀ {ds M Qd Xd}, sp__law_handed K ds M Qd Xd → t__law_handed K (outD Qd Xd) (startD N__law_handed ds) M) : FnD P w K mg base 2 f fd ["state", "size"] (sp__law_handed K) :=
  fn_data F sc__law_handed len (fun cdv A outer s H E c => (ssc (sset (i := 2) c.nd rfl (by first | exact .inl rfl | exact .inr rfl) (pcall c h__law_take (pac (pv 0) (pac pint pa0)))) (ssc (sif (ptcmp op_lt (ok_i2 fun _ _ _ => .bl _) (pv 2) pint (by rfl)) (ss1 (sret (pcall c h__law_take (pac (pv 0) (pac (pv 1) pa0))))) ss0) (ss1 (sret (pix ix_seq ok_ix (plst (pac (pv 1) (pac (punop un_neg ok_neg pint) (pac pint pa0)))) (pbin op_sub (ok_i2 fun _ _ _ => .int _) (pv 2) pint) (fun _ _ => rfl))))))) pure_
abbrev s__law_joined : Stmt := topS 50
theorem sc__law_joined : FnScope N__law_joined ["state", "made", "tables"] (defScope s__law_joined) := ⟨rfl, rfl, rfl, by decide +kernel, rfl, by decide +kernel, by decide +kernel⟩
theorem w__law_joined {P : Program} {w : World} {K : PySem.W.Frag} {mg : Str → Option Value} {base : Heap} {f : Addr} {fd : FuncData} (Z : Fc P K mg) (h__law_handed : Has P w K mg base 2 "_law_handed" ["state", "size"] (sp__law_handed K)) (h__law_join : Has P w K mg base 1 "_law_join" ["tables", "x", "y"] (sp__law_join K)) (h__law_try_join : Has P w K mg base 5 "_law_try_join" ["made", "x", "y"] (sp__law_try_join K))
    (F : FunD K "_law_joined" "_law_joined" (defArgs s__law_joined) (defBody s__law_joined) (defScope s__law_joined) [] [] f fd) (len : ∀ {ds M Qd Xd}, sp__law_joined K ds M Qd Xd → ds.length = 3)
    (pure_ : ∀ {ds M Qd Xd}, sp__law_joined K ds M Qd Xd → t__law_joined K (outD Qd Xd) (startD N__law_joined ds) M) : FnD P w K mg base 6 f fd ["state", "made", "tables"] (sp__law_joined K) :=
  fn_data F sc__law_joined len (fun cdv A outer s H E c => (ssc (sset (i := 3) c.nd rfl (by first | exact .inl rfl | exact .inr rfl) (pblt call_len ok_len Z.b_len (pac (pix ix_seq ok_ix (pv 2) pint (fun _ _ => rfl)) pa0))) (ssc (sfor c.hp c.calm (pir1 rfl Z.b_range (pac pint pa0)) (gname (i := 4) c.nd rfl (by first | exact .inl rfl | exact .inr rfl)) (ssc (sset (i := 5) c.nd rfl (by first | exact .inl rfl | exact .inr rfl) (pcall c h__law_handed (pac (pv 0) (pac (pv 3) pa0)))) (ssc (sset (i := 6) c.nd rfl (by first | exact .inl rfl | exact .inr rfl) (pcall c h__law_handed (pac (pv 0) (pac (pv 3) pa0)))) (ssc (sif (PW.pt (pwor (ptcmp op_lt (ok_i2 fun _ _ _ => .bl _) (pv 5) pint (by rfl)) (pwor1 (ptcmp op_ge (ok_i2 fun _ _ _ => .bl _) (pv 5) (pv 3) (by rfl))))) (ss1 (sset (i := 7) c.nd rfl (by first | exact .inl rfl | exact .inr rfl) (ptup (pac pstr (pac (pv 5) pa0))))) (ss1 (sif (PW.pt (pwor (ptcmp op_lt (ok_i2 fun _ _ _ => .bl _) (pv 6) pint (by rfl)) (pwor1 (ptcmp op_ge (ok_i2 fun _ _ _ => .bl _) (pv 6) (pv 3) (by rfl))))) (ss1 (sset (i := 7) c.nd rfl (by first | exact .inl rfl | exact .inr rfl) (ptup (pac pstr (pac (pv 6) pa0))))) (ss1 (sset (i := 7) c.nd rfl (by first | exact .inl rfl | exact .inr rfl) (ptup (pac pstr (pac (pcall c h__law_join (pac (pv 2) (pac (pv 5) (pac (pv 6) pa0)))) pa0)))))))) (ss1 (sif (ptcmp (op_neA c.hu) ok_ne (pcall c h__law_try_join (pac (pv 1) (pac (pv 5) (pac (pv 6) pa0)))) (pv 7) (by rfl)) (ss1 (sret pbl)) ss0)))))) (ss1 (sret pbl))))) pure_
abbrev s__law_no_table : Stmt := topS 51
theorem sc__law_no_table : FnScope N__law_no_table ["state", "made"] (defScope s__law_no_table) := ⟨rfl, rfl, rfl, by decide +kernel, rfl, by decide +kernel, by decide +kernel⟩
theorem w__law_no_table {P : Program} {w : World} {K : PySem.W.Frag} {mg : Str → Option Value} {base : Heap} {f : Addr} {fd : FuncData} (Z : Fc P K mg) (h__law_take : Has P w K mg base 1 "_law_take" ["state", "many"] (sp__law_take K)) (h_Algebra_table : HasM P w K mg base 4 (He.ga K "Algebra") "table" ["self", "way"] (sp_Algebra_table K))
    (F : FunD K "_law_no_table" "_law_no_table" (defArgs s__law_no_table) (defBody s__law_no_table) (defScope s__law_no_table) [] [] f fd) (len : ∀ {ds M Qd Xd}, sp__law_no_table K ds M Qd Xd → ds.length = 2)
    (pure_ : ∀ {ds M Qd Xd}, sp__law_no_table K ds M Qd Xd → t__law_no_table K (outD Qd Xd) (startD N__law_no_table ds) M) : FnD P w K mg base 5 f fd ["state", "made"] (sp__law_no_table K) :=
  fn_data F sc__law_no_table len (fun cdv A outer s H E c => (ssc (sset (i := 2) c.nd rfl (by first | exact .inl rfl | exact .inr rfl) (pix ix_seq ok_ix (plst (pac pstr (pac pstr (pac pstr (pac pstr (pac pstr (pac pstr (pac pstr (pac pstr pa0))))))))) (pcall c h__law_take (pac (pv 0) (pac pint pa0))) (fun _ _ => rfl))) (ssc (stry c rfl rfl (fun W' pn xe c => (ss1 (sexpr (pmcall c h_Algebra_table (pv 1) (pac (pv 2) pa0))))) (.named (by exact ⟨rfl, by decide, .inl Z.n_BadWord⟩) (i := 3) rfl rfl (fun a oe cls d pn hz hf hot => (ssc (sif (PW.pt (pwor (pttru (pisX (fun C k => Z.isx C k) hz hf rfl Z.b_isinstance (pac (pv 3) (pac (pgl Z.g_BadTable) pa0)))) (pwor1 (ptnot (pttru (pisX (fun C k => Z.isx C k) hz hf rfl Z.b_isinstance (pac (pv 3) (pac (pgl Z.g_SayError) pa0)))))))) (ss1 (sret pbl)) ss0) (ss1 (sret (pand (pblt call_isi ok_is' Z.b_isinstance (pac (pexf (fun C k => Z.xf_word C k) hz hf (pv 3)) (pac (pety Z.b_str) pa0))) (pone (pcmp (op_eqA c.hu) ok_eq (pexf (fun C k => Z.xf_word C k) hz hf (pv 3)) (pv 2) (by rfl)))))))) (.plain (by exact ⟨rfl, by decide, .inl Z.n_SayError⟩) (fun a oe cls d pn hz hf hot => (ss1 (sret pbl))) ClasD.nil))) (ss1 (sret pbl))))) pure_
abbrev s__law_fields : Stmt := topS 52
theorem sc__law_fields : FnScope N__law_fields ["made", "tables"] (defScope s__law_fields) := ⟨rfl, rfl, rfl, by decide +kernel, rfl, by decide +kernel, by decide +kernel⟩
theorem w__law_fields {P : Program} {w : World} {K : PySem.W.Frag} {mg : Str → Option Value} {base : Heap} {f : Addr} {fd : FuncData} (Z : Fc P K mg) (h__law_plain : Has P w K mg base 1 "_law_plain" ["told"] (sp__law_plain K)) (h__law_is_row : Has P w K mg base 2 "_law_is_row" ["told", "due"] (sp__law_is_row K)) (h_Algebra_table : HasM P w K mg base 4 (He.ga K "Algebra") "table" ["self", "way"] (sp_Algebra_table K)) (h_Algebra_zero : HasM P w K mg base 1 (He.ga K "Algebra") "zero" ["self"] (sp_Algebra_zero K)) (h_Algebra_one : HasM P w K mg base 2 (He.ga K "Algebra") "one" ["self"] (sp_Algebra_one K))
    (F : FunD K "_law_fields" "_law_fields" (defArgs s__law_fields) (defBody s__law_fields) (defScope s__law_fields) [] [] f fd) (len : ∀ {ds M Qd Xd}, sp__law_fields K ds M Qd Xd → ds.length = 2)
    (pure_ : ∀ {ds M Qd Xd}, sp__law_fields K ds M Qd Xd → t__law_fields K (outD Qd Xd) (startD N__law_fields ds) M) : FnD P w K mg base 5 f fd ["made", "tables"] (sp__law_fields K) :=
  fn_data F sc__law_fields len (fun cdv A outer s H E c => (ssc (sset (i := 2) c.nd rfl (by first | exact .inl rfl | exact .inr rfl) (pix ix_seq ok_ix (pv 1) pint (fun _ _ => rfl))) (ssc (sset (i := 3) c.nd rfl (by first | exact .inl rfl | exact .inr rfl) (pix ix_seq ok_ix (pix ix_seq ok_ix (pv 2) pint (fun _ _ => rfl)) (pix ix_seq ok_ix (pix ix_seq ok_ix (pv 1) pint (fun _ _ => rfl)) pint (fun _ _ => rfl)) (fun _ _ => rfl))) (ssc (sif (PW.pt (pwor (ptnot (pttru (pcall c h__law_plain (pac (pfld (pv 0)) pa0)))) (pwor1 (ptcmp (op_neA c.hu) ok_ne (pfld (pv 0)) (pblt call_len ok_len Z.b_len (pac (pv 2) pa0)) (by rfl))))) (ss1 (sret pbl)) ss0) (ssc (sif (PW.pt (pwor (ptnot (pttru (pblt call_isi ok_is' Z.b_isinstance (pac (pfld (pv 0)) (pac (pety Z.b_tuple) pa0))))) (pwor1 (ptcmp (op_neA c.hu) ok_ne (pblt call_len ok_len Z.b_len (pac (pfld (pv 0)) pa0)) (pblt call_len ok_len Z.b_len (pac (pv 2) pa0)) (by rfl))))) (ss1 (sret pbl)) ss0) (ssc (sfor c.hp c.calm (pir1 rfl Z.b_range (pac (pblt call_len ok_len Z.b_len (pac (pv 2) pa0)) pa0)) (gname (i := 4) c.nd rfl (by first | exact .inl rfl | exact .inr rfl)) (ss1 (sif (ptnot (pttru (pcall c h__law_is_row (pac (pix ix_seq ok_ix (pfld (pv 0)) (pv 4) (fun _ _ => rfl)) (pac (pix ix_seq ok_ix (pv 2) (pv 4) (fun _ _ => rfl)) pa0))))) (ss1 (sret pbl)) ss0))) (ssc (sset (i := 5) c.nd rfl (by first | exact .inl rfl | exact .inr rfl) (plst (pac (pfld (pv 0)) (pac (pfld (pv 0)) (pac (pfld (pv 0)) (pac (pfld (pv 0)) pa0)))))) (ssc (sfor c.hp c.calm (pir1 rfl Z.b_range (pac pint pa0)) (gname (i := 6) c.nd rfl (by first | exact .inl rfl | exact .inr rfl)) (ss1 (sif (ptnot (pttru (pcall c h__law_is_row (pac (pix ix_seq ok_ix (pv 5) (pv 6) (fun _ _ => rfl)) (pac (pix ix_seq ok_ix (pv 1) (pbin op_addA ok_add pint (pv 6)) (fun _ _ => rfl)) pa0))))) (ss1 (sret pbl)) ss0))) (ssc (sfor c.hp c.calm (pir1 rfl Z.b_range (pac pint pa0)) (gname (i := 6) c.nd rfl (by first | exact .inl rfl | exact .inr rfl)) (ss1 (sif (ptnot (pttru (pcall c h__law_is_row (pac (pmcall c h_Algebra_table (pv 0) (pac (pix ix_seq ok_ix pstr (pv 6) (fun _ _ => rfl)) pa0)) (pac (pix ix_seq ok_ix (pv 1) (pbin op_addA ok_add pint (pv 6)) (fun _ _ => rfl)) pa0))))) (ss1 (sret pbl)) ss0))) (ss1 (sret (pcall c h__law_is_row (pac (ptup (pac (pmcall0 c h_Algebra_zero (pv 0)) (pac (pmcall0 c h_Algebra_one (pv 0)) pa0))) (pac (ptup (pac (pv 3) (pac (pix ix_seq ok_ix (pix ix_seq ok_ix (pv 1) pint (fun _ _ => rfl)) (pv 3) (fun _ _ => rfl)) pa0))) pa0)))))))))))))) pure_
abbrev s__law_equal : Stmt := topS 53
theorem sc__law_equal : FnScope N__law_equal ["state", "made", "tables"] (defScope s__law_equal) := ⟨rfl, rfl, rfl, by decide +kernel, rfl, by decide +kernel, by decide +kernel⟩
theorem w__law_equal {P : Program} {w : World} {K : PySem.W.Frag} {mg : Str → Option Value} {base : Heap} {f : Addr} {fd : FuncData} (Z : Fc P K mg) (h_Algebra : HasC P w K mg base 3 "Algebra" (He.ga K "Algebra") ["self", "meet", "rest", "a", "b", "c"] (sp_Algebra___init__ K)) (hq_Algebra : HasQ P w K mg base 1 (He.ga K "Algebra") (sp_Algebra___eq__ K)) (h__law_copy : Has P w K mg base 1 "_law_copy" ["tables"] (sp__law_copy K)) (h__law_spoil : Has P w K mg base 2 "_law_spoil" ["state", "tables"] (sp__law_spoil K))
    (F : FunD K "_law_equal" "_law_equal" (defArgs s__law_equal) (defBody s__law_equal) (defScope s__law_equal) [] [] f fd) (len : ∀ {ds M Qd Xd}, sp__law_equal K ds M Qd Xd → ds.length = 3)
    (pure_ : ∀ {ds M Qd Xd}, sp__law_equal K ds M Qd Xd → t__law_equal K (outD Qd Xd) (startD N__law_equal ds) M) : FnD P w K mg base 5 f fd ["state", "made", "tables"] (sp__law_equal K) :=
  fn_data F sc__law_equal len (fun cdv A outer s H E c => (ssc (ssetLc (own := [("table", 4)]) (i := 3) c rfl rfl (sw_true rfl rfl rfl (by decide +kernel)) (pis (psl (pv 2) (po1 pint) po0)) ⟨blk_of N__law_equal (defScope s__law_equal) rfl rfl ⟨rfl, by decide +kernel, by decide +kernel, by decide +kernel, by decide +kernel⟩, by decide, fun s H C cl fp => g1 4 (by exact c.nd), fun s H C cl fp c => pts0, fun s H C cl fp c => (pbty call_tuple_of ok_tuple Z.b_tuple (pac (pv 4) pa0))⟩) (ssc (sset (i := 5) c.nd rfl (by first | exact .inl rfl | exact .inr rfl) (pbty call_tuple_of ok_tuple Z.b_tuple (pac (plcF (own := [("row", 6)]) c (pis (pix ix_seq ok_ix (pv 2) pint (fun _ _ => rfl))) ⟨blk_of N__law_equal (defScope s__law_equal) rfl rfl ⟨rfl, by decide +kernel, by decide +kernel, by decide +kernel, by decide +kernel⟩, by decide, fun s H C cl fp => g1 6 (by exact c.nd), fun s H C cl fp c => pts0, fun s H C cl fp c => (pbty call_tuple_of ok_tuple Z.b_tuple (pac (pv 6) pa0))⟩) pa0))) (ssc (sset (i := 7) c.nd rfl (by first | exact .inl rfl | exact .inr rfl) (pcmp (op_eqI c hq_Algebra (by decide)) ok_eqI (pv 1) (pnew c h_Algebra (pac (pv 5) (pac (pix ix_seq ok_ix (pv 3) pint (fun _ _ => rfl)) (pac (pix ix_seq ok_ix (pv 3) pint (fun _ _ => rfl)) (pac (pix ix_seq ok_ix (pv 3) pint (fun _ _ => rfl)) (pac (pix ix_seq ok_ix (pv 3) pint (fun _ _ => rfl)) pa0)))))) (by rfl))) (ssc (sif (ptcmp op_isnA ok_isn (pv 7) pbl (by rfl)) (ss1 (sret pbl)) ss0) (ssc (sset (i := 8) c.nd rfl (by first | exact .inl rfl | exact .inr rfl) (pcall c h__law_copy (pac (pv 2) pa0))) (ssc (sexpr (pcall c h__law_spoil (pac (pv 0) (pac (pv 8) pa0)))) (ssc (sset (i := 9) c.nd rfl (by first | exact .inl rfl | exact .inr rfl) (pcmp (op_eqA c.hu) ok_eq (pv 8) (pv 2) (by rfl))) (ssc (sset (i := 10) c.nd rfl (by first | exact .inl rfl | exact .inr rfl) (pcmp (op_eqI c hq_Algebra (by decide)) ok_eqI (pv 1) (pnew c h_Algebra (pac (pix ix_seq ok_ix (pv 8) pint (fun _ _ => rfl)) (pac (pix ix_seq ok_ix (pv 8) pint (fun _ _ => rfl)) (pac (pix ix_seq ok_ix (pv 8) pint (fun _ _ => rfl)) (pac (pix ix_seq ok_ix (pv 8) pint (fun _ _ => rfl)) (pac (pix ix_seq ok_ix (pv 8) pint (fun _ _ => rfl)) pa0)))))) (by rfl))) (ss1 (sret (pand (pblt call_isi ok_is' Z.b_isinstance (pac (pv 10) (pac (pety Z.b_bool) pa0))) (pone (pcmp (op_eqA c.hu) ok_eq (pv 10) (pv 9) (by rfl))))))))))))))) pure_
abbrev s_law : Stmt := topS 54
theorem sc_law : FnScope N_law ["script"] (defScope s_law) := ⟨rfl, rfl, rfl, by decide +kernel, rfl, by decide +kernel, by decide +kernel⟩
theorem w_law {P : Program} {w : World} {K : PySem.W.Frag} {mg : Str → Option Value} {base : Heap} {f : Addr} {fd : FuncData} (Z : Fc P K mg) (h__law_cells : Has P w K mg base 1 "_law_cells" ["script"] (sp__law_cells K)) (h__law_built : Has P w K mg base 5 "_law_built" ["state"] (sp__law_built K)) (h__law_first_fault : Has P w K mg base 3 "_law_first_fault" ["tables"] (sp__law_first_fault K)) (h__law_copy : Has P w K mg base 1 "_law_copy" ["tables"] (sp__law_copy K)) (h_Algebra : HasC P w K mg base 3 "Algebra" (He.ga K "Algebra") ["self", "meet", "rest", "a", "b", "c"] (sp_Algebra___init__ K)) (h__law_fields : Has P w K mg base 5 "_law_fields" ["made", "tables"] (sp__law_fields K)) (h__law_is_fault : Has P w K mg base 2 "_law_is_fault" ["told", "due"] (sp__law_is_fault K)) (h_algebra_fault : Has P w K mg base 6 "algebra_fault" ["algebra"] (sp_algebra_fault K)) (h__law_no_table : Has P w K mg base 5 "_law_no_table" ["state", "made"] (sp__law_no_table K)) (h__law_joined : Has P w K mg base 6 "_law_joined" ["state", "made", "tables"] (sp__law_joined K)) (h__law_refused : Has P w K mg base 6 "_law_refused" ["state"] (sp__law_refused K)) (h__law_equal : Has P w K mg base 5 "_law_equal" ["state", "made", "tables"] (sp__law_equal K))
    (F : FunD K "law" "law" (defArgs s_law) (defBody s_law) (defScope s_law) [] [] f fd) (len : ∀ {ds M Qd Xd}, sp_law K ds M Qd Xd → ds.length = 1)
    (pure_ : ∀ {ds M Qd Xd}, sp_law K ds M Qd Xd → t_law K (outD Qd Xd) (startD N_law ds) M) : FnD P w K mg base 7 f fd ["script"] (sp_law K) :=
  fn_data F sc_law len (fun cdv A outer s H E c => (ssc (sset (i := 1) c.nd rfl (by first | exact .inl rfl | exact .inr rfl) (pcall c h__law_cells (pac (pv 0) pa0))) (ssc (sset (i := 2) c.nd rfl (by first | exact .inl rfl | exact .inr rfl) (pcall c h__law_built (pac (pv 1) pa0))) (ssc (sset (i := 3) c.nd rfl (by first | exact .inl rfl | exact .inr rfl) (pcall c h__law_first_fault (pac (pv 2) pa0))) (ssc (sset (i := 4) c.nd rfl (by first | exact .inl rfl | exact .inr rfl) (pcall c h__law_copy (pac (pv 2) pa0))) (ssc (sset (i := 5) c.nd rfl (by first | exact .inl rfl | exact .inr rfl) (pblt (call_reprP c.gd c.ru) ok_repr Z.b_repr (pac (pv 4) pa0))) (ssc (sset (i := 6) c.nd rfl (by first | exact .inl rfl | exact .inr rfl) (pnew c h_Algebra (pac (pix ix_seq ok_ix (pv 4) pint (fun _ _ => rfl)) (pac (pix ix_seq ok_ix (pv 4) pint (fun _ _ => rfl)) (pac (pix ix_seq ok_ix (pv 4) pint (fun _ _ => rfl)) (pac (pix ix_seq ok_ix (pv 4) pint (fun _ _ => rfl)) (pac (pix ix_seq ok_ix (pv 4) pint (fun _ _ => rfl)) pa0))))))) (ssc (sif (PW.pt (pwor (ptcmp (op_neA c.hu) ok_ne (pblt (call_reprP c.gd c.ru) ok_repr Z.b_repr (pac (pv 4) pa0)) (pv 5) (by rfl)) (pwor1 (ptnot (pttru (pcall c h__law_fields (pac (pv 6) (pac (pv 2) pa0)))))))) (ss1 (sret pbl)) ss0) (ssc (sif (ptnot (pttru (pcall c h__law_is_fault (pac (pcall c h_algebra_fault (pac (pv 6) pa0)) (pac (pv 3) pa0))))) (ss1 (sret pbl)) ss0) (ssc (sfor c.hp c.calm (pir1 rfl Z.b_range (pac pint pa0)) (gname (i := 7) c.nd rfl (by first | exact .inl rfl | exact .inr rfl)) (ss1 (sexpr (pbm PySem.F.plainAttrs_list PySem.F.slot_list_append PySem.F.type_list_append mt_append ok_app (pix ix_seq ok_ix (pv 4) (pv 7) (fun _ _ => rfl)) (pac (pix ix_seq ok_ix (pix ix_seq ok_ix (pv 4) (pv 7) (fun _ _ => rfl)) pint (fun _ _ => rfl)) pa0))))) (ssc (sasg (pblt call_len ok_len Z.b_len (pac (pv 5) pa0)) (gsub (pix ix_seq ok_ix (pix ix_seq ok_ix (pv 4) pint (fun _ _ => rfl)) pint (fun _ _ => rfl)) pint)) (ssc (sasg (pblt call_len ok_len Z.b_len (pac (pv 5) pa0)) (gsub (pix ix_seq ok_ix (pv 4) pint (fun _ _ => rfl)) pint)) (ssc (sif (ptnot (pttru (pcall c h__law_fields (pac (pv 6) (pac (pv 2) pa0))))) (ss1 (sret pbl)) ss0) (ssc (sif (ptnot (pttru (pcall c h__law_is_fault (pac (pcall c h_algebra_fault (pac (pv 6) pa0)) (pac (pv 3) pa0))))) (ss1 (sret pbl)) ss0) (ssc (sif (PW.pt (pwor (ptnot (pttru (pcall c h__law_joined (pac (pv 1) (pac (pv 6) (pac (pv 2) pa0)))))) (pwor1 (ptnot (pttru (pcall c h__law_no_table (pac (pv 1) (pac (pv 6) pa0)))))))) (ss1 (sret pbl)) ss0) (ss1 (sret (pand (pcall c h__law_equal (pac (pv 1) (pac (pv 6) (pac (pv 2) pa0)))) (pone (pcall c h__law_refused (pac (pv 1) pa0))))))))))))))))))))) pure_
end K63
set_option maxHeartbeats 0
namespace K63
open PySem PySem.Spec PyProof.Rows L2 DL
namespace Hd
def d_is_way : He.DefD := ⟨("is_way", none), "is_way", "is_way", defArgs (topS 8), defBody (topS 8), defScope (topS 8), [], []⟩
def d_check_way : He.DefD := ⟨("check_way", none), "check_way", "check_way", defArgs (topS 10), defBody (topS 10), defScope (topS 10), [], []⟩
def d_Algebra___init__ : He.DefD := ⟨("Algebra", some "__init__"), "__init__", "Algebra.__init__", defArgs (inC 0 (topS 14)), defBody (inC 0 (topS 14)), defScope (inC 0 (topS 14)), [], []⟩
def d_Algebra___eq__ : He.DefD := ⟨("Algebra", some "__eq__"), "__eq__", "Algebra.__eq__", defArgs (inC 1 (topS 14)), defBody (inC 1 (topS 14)), defScope (inC 1 (topS 14)), [], []⟩
def d_Algebra_table : He.DefD := ⟨("Algebra", some "table"), "table", "Algebra.table", defArgs (inC 2 (topS 14)), defBody (inC 2 (topS 14)), defScope (inC 2 (topS 14)), [], []⟩
def d_Algebra_zero : He.DefD := ⟨("Algebra", some "zero"), "zero", "Algebra.zero", defArgs (inC 3 (topS 14)), defBody (inC 3 (topS 14)), defScope (inC 3 (topS 14)), [], []⟩
def d_Algebra_one : He.DefD := ⟨("Algebra", some "one"), "one", "Algebra.one", defArgs (inC 4 (topS 14)), defBody (inC 4 (topS 14)), defScope (inC 4 (topS 14)), [], []⟩
def d_Algebra_join_of : He.DefD := ⟨("Algebra", some "join_of"), "join_of", "Algebra.join_of", defArgs (inC 5 (topS 14)), defBody (inC 5 (topS 14)), defScope (inC 5 (topS 14)), [], []⟩
def d_check_element : He.DefD := ⟨("check_element", none), "check_element", "check_element", defArgs (topS 15), defBody (topS 15), defScope (topS 15), [], []⟩
def d_algebra_fault : He.DefD := ⟨("algebra_fault", none), "algebra_fault", "algebra_fault", defArgs (topS 16), defBody (topS 16), defScope (topS 16), [], []⟩
def d__is_square : He.DefD := ⟨("_is_square", none), "_is_square", "_is_square", defArgs (topS 17), defBody (topS 17), defScope (topS 17), [], []⟩
def d__is_row : He.DefD := ⟨("_is_row", none), "_is_row", "_is_row", defArgs (topS 18), defBody (topS 18), defScope (topS 18), [], []⟩
def d__join : He.DefD := ⟨("_join", none), "_join", "_join", defArgs (topS 19), defBody (topS 19), defScope (topS 19), [], []⟩
def d__order_fault : He.DefD := ⟨("_order_fault", none), "_order_fault", "_order_fault", defArgs (topS 20), defBody (topS 20), defScope (topS 20), [], []⟩
def d__group_fault : He.DefD := ⟨("_group_fault", none), "_group_fault", "_group_fault", defArgs (topS 21), defBody (topS 21), defScope (topS 21), [], []⟩
def d__rest_fault : He.DefD := ⟨("_rest_fault", none), "_rest_fault", "_rest_fault", defArgs (topS 22), defBody (topS 22), defScope (topS 22), [], []⟩
def d__may_fault : He.DefD := ⟨("_may_fault", none), "_may_fault", "_may_fault", defArgs (topS 23), defBody (topS 23), defScope (topS 23), [], []⟩
def d__law_cells : He.DefD := ⟨("_law_cells", none), "_law_cells", "_law_cells", defArgs (topS 25), defBody (topS 25), defScope (topS 25), [], []⟩
def d__law_take : He.DefD := ⟨("_law_take", none), "_law_take", "_law_take", defArgs (topS 26), defBody (topS 26), defScope (topS 26), [], []⟩
def d__law_plain : He.DefD := ⟨("_law_plain", none), "_law_plain", "_law_plain", defArgs (topS 27), defBody (topS 27), defScope (topS 27), [], []⟩
def d__law_shuffle : He.DefD := ⟨("_law_shuffle", none), "_law_shuffle", "_law_shuffle", defArgs (topS 28), defBody (topS 28), defScope (topS 28), [], []⟩
def d__law_is_row : He.DefD := ⟨("_law_is_row", none), "_law_is_row", "_law_is_row", defArgs (topS 29), defBody (topS 29), defScope (topS 29), [], []⟩
def d__law_is_fault : He.DefD := ⟨("_law_is_fault", none), "_law_is_fault", "_law_is_fault", defArgs (topS 30), defBody (topS 30), defScope (topS 30), [], []⟩
def d__law_draw_steps : He.DefD := ⟨("_law_draw_steps", none), "_law_draw_steps", "_law_draw_steps", defArgs (topS 31), defBody (topS 31), defScope (topS 31), [], []⟩
def d__law_before : He.DefD := ⟨("_law_before", none), "_law_before", "_law_before", defArgs (topS 32), defBody (topS 32), defScope (topS 32), [], []⟩
def d__law_set_tables : He.DefD := ⟨("_law_set_tables", none), "_law_set_tables", "_law_set_tables", defArgs (topS 33), defBody (topS 33), defScope (topS 33), [], []⟩
def d__law_join : He.DefD := ⟨("_law_join", none), "_law_join", "_law_join", defArgs (topS 34), defBody (topS 34), defScope (topS 34), [], []⟩
def d__law_group : He.DefD := ⟨("_law_group", none), "_law_group", "_law_group", defArgs (topS 35), defBody (topS 35), defScope (topS 35), [], []⟩
def d__law_mays : He.DefD := ⟨("_law_mays", none), "_law_mays", "_law_mays", defArgs (topS 36), defBody (topS 36), defScope (topS 36), [], []⟩
def d__law_first_fault : He.DefD := ⟨("_law_first_fault", none), "_law_first_fault", "_law_first_fault", defArgs (topS 37), defBody (topS 37), defScope (topS 37), [], []⟩
def d__law_copy : He.DefD := ⟨("_law_copy", none), "_law_copy", "_law_copy", defArgs (topS 38), defBody (topS 38), defScope (topS 38), [], []⟩
def d__law_filled : He.DefD := ⟨("_law_filled", none), "_law_filled", "_law_filled", defArgs (topS 39), defBody (topS 39), defScope (topS 39), [], []⟩
def d__law_chain : He.DefD := ⟨("_law_chain", none), "_law_chain", "_law_chain", defArgs (topS 40), defBody (topS 40), defScope (topS 40), [], []⟩
def d__law_odd_tables : He.DefD := ⟨("_law_odd_tables", none), "_law_odd_tables", "_law_odd_tables", defArgs (topS 41), defBody (topS 41), defScope (topS 41), [], []⟩
def d__law_spoil : He.DefD := ⟨("_law_spoil", none), "_law_spoil", "_law_spoil", defArgs (topS 42), defBody (topS 42), defScope (topS 42), [], []⟩
def d__law_built : He.DefD := ⟨("_law_built", none), "_law_built", "_law_built", defArgs (topS 43), defBody (topS 43), defScope (topS 43), [], []⟩
def d__law_shape : He.DefD := ⟨("_law_shape", none), "_law_shape", "_law_shape", defArgs (topS 44), defBody (topS 44), defScope (topS 44), [], []⟩
def d__law_bend : He.DefD := ⟨("_law_bend", none), "_law_bend", "_law_bend", defArgs (topS 45), defBody (topS 45), defScope (topS 45), [], []⟩
def d__law_try : He.DefD := ⟨("_law_try", none), "_law_try", "_law_try", defArgs (topS 46), defBody (topS 46), defScope (topS 46), [], []⟩
def d__law_refused : He.DefD := ⟨("_law_refused", none), "_law_refused", "_law_refused", defArgs (topS 47), defBody (topS 47), defScope (topS 47), [], []⟩
def d__law_try_join : He.DefD := ⟨("_law_try_join", none), "_law_try_join", "_law_try_join", defArgs (topS 48), defBody (topS 48), defScope (topS 48), [], []⟩
def d__law_handed : He.DefD := ⟨("_law_handed", none), "_law_handed", "_law_handed", defArgs (topS 49), defBody (topS 49), defScope (topS 49), [], []⟩
def d__law_joined : He.DefD := ⟨("_law_joined", none), "_law_joined", "_law_joined", defArgs (topS 50), defBody (topS 50), defScope (topS 50), [], []⟩
def d__law_no_table : He.DefD := ⟨("_law_no_table", none), "_law_no_table", "_law_no_table", defArgs (topS 51), defBody (topS 51), defScope (topS 51), [], []⟩
def d__law_fields : He.DefD := ⟨("_law_fields", none), "_law_fields", "_law_fields", defArgs (topS 52), defBody (topS 52), defScope (topS 52), [], []⟩
def d__law_equal : He.DefD := ⟨("_law_equal", none), "_law_equal", "_law_equal", defArgs (topS 53), defBody (topS 53), defScope (topS 53), [], []⟩
def d_law : He.DefD := ⟨("law", none), "law", "law", defArgs (topS 54), defBody (topS 54), defScope (topS 54), [], []⟩
def e_BadWord : DLH.ErrS := ⟨"BadWord", "BadWord.__init__", defArgs (inC 0 (topS 2)), defBody (inC 0 (topS 2)), defScope (inC 0 (topS 2))⟩
def e_BadSize : DLH.ErrS := ⟨"BadSize", "BadSize.__init__", defArgs (inC 0 (topS 3)), defBody (inC 0 (topS 3)), defScope (inC 0 (topS 3))⟩
def e_BadTable : DLH.ErrS := ⟨"BadTable", "BadTable.__init__", defArgs (inC 0 (topS 4)), defBody (inC 0 (topS 4)), defScope (inC 0 (topS 4))⟩
def e_BadElement : DLH.ErrS := ⟨"BadElement", "BadElement.__init__", defArgs (inC 0 (topS 5)), defBody (inC 0 (topS 5)), defScope (inC 0 (topS 5))⟩
def fn_0 : List He.DefD := [d_is_way, d_check_way, d_Algebra___init__, d_Algebra___eq__, d_Algebra_table, d_Algebra_zero, d_Algebra_one, d_Algebra_join_of, d_check_element, d_algebra_fault, d__is_square, d__is_row, d__join, d__order_fault, d__group_fault, d__rest_fault, d__may_fault, d__law_cells, d__law_take, d__law_plain, d__law_shuffle, d__law_is_row, d__law_is_fault, d__law_draw_steps, d__law_before, d__law_set_tables, d__law_join, d__law_group, d__law_mays, d__law_first_fault]
def fn_1 : List He.DefD := [d__law_copy, d__law_filled, d__law_chain, d__law_odd_tables, d__law_spoil, d__law_built, d__law_shape, d__law_bend, d__law_try, d__law_refused, d__law_try_join, d__law_handed, d__law_joined, d__law_no_table, d__law_fields, d__law_equal, d_law]
def fn : List He.DefD := fn_0 ++ fn_1
def fa_0 : List He.Fa := [.glo "SayError", .glo "BadWord", .glo "BadSize", .glo "BadTable", .glo "BadElement", .glo "is_way", .glo "check_way", .glo "Algebra", .glo "check_element", .glo "algebra_fault", .glo "_is_square", .glo "_is_row", .glo "_join", .glo "_order_fault", .glo "_group_fault", .glo "_rest_fault", .glo "_may_fault", .glo "_law_cells", .glo "_law_take", .glo "_law_plain", .glo "_law_shuffle", .glo "_law_is_row", .glo "_law_is_fault", .glo "_law_draw_steps", .glo "_law_before", .glo "_law_set_tables", .glo "_law_join", .glo "_law_group", .glo "_law_mays", .glo "_law_first_fault"]
def fa_1 : List He.Fa := [.glo "_law_copy", .glo "_law_filled", .glo "_law_chain", .glo "_law_odd_tables", .glo "_law_spoil", .glo "_law_built", .glo "_law_shape", .glo "_law_bend", .glo "_law_try", .glo "_law_refused", .glo "_law_try_join", .glo "_law_handed", .glo "_law_joined", .glo "_law_no_table", .glo "_law_fields", .glo "_law_equal", .glo "law", .free "ValueError", .free "len", .free "range", .free "int", .free "bool", .free "str", .free "tuple", .free "list", .free "isinstance", .free "abs", .free "min", .free "repr", .free "super"]
def fa_2 : List He.Fa := [.int "LEAST_SIZE" 2, .int "MOST_SIZE" 32, .glo "WAYS", .cls "Algebra", .mkr "Algebra", .noat "Algebra" "size", .noat "Algebra" "meet", .noat "Algebra" "rest", .noat "Algebra" "a", .noat "Algebra" "b", .noat "Algebra" "c", .meth "Algebra" "table", .meth "Algebra" "zero", .meth "Algebra" "one", .meth "Algebra" "join_of", .exm "BadSize" "BadSize" true, .exm "BadTable" "BadSize" false, .exm "BadTable" "BadTable" true, .exm "BadWord" "BadWord" true, .exm "BadElement" "BadElement" true, .noat "BadWord" "word", .noat "BadWord" "size", .noat "BadWord" "element", .noat "BadSize" "word", .noat "BadSize" "size", .noat "BadSize" "element", .noat "BadTable" "word", .noat "BadTable" "size", .noat "BadTable" "element", .noat "BadElement" "word"]
def fa_3 : List He.Fa := [.noat "BadElement" "size", .noat "BadElement" "element"]
def fa : List He.Fa := fa_0 ++ fa_1 ++ fa_2 ++ fa_3
def es_0 : List DLH.ErrS := [e_BadWord, e_BadSize, e_BadTable, e_BadElement]
def es : List DLH.ErrS := es_0
def loose_0 : List Str := ["SayError", "BadWord", "BadSize", "BadTable", "BadElement", "WAYS", "is_way", "check_way", "LEAST_SIZE", "MOST_SIZE", "Algebra", "check_element", "algebra_fault", "_is_square", "_is_row", "_join", "_order_fault", "_group_fault", "_rest_fault", "_may_fault", "_law_cells", "_law_take", "_law_plain", "_law_shuffle", "_law_is_row", "_law_is_fault", "_law_draw_steps", "_law_before", "_law_set_tables", "_law_join"]
def loose_1 : List Str := ["_law_group", "_law_mays", "_law_first_fault", "_law_copy", "_law_filled", "_law_chain", "_law_odd_tables", "_law_spoil", "_law_built", "_law_shape", "_law_bend", "_law_try", "_law_refused", "_law_try_join", "_law_handed", "_law_joined", "_law_no_table", "_law_fields", "_law_equal"]
def loose : List Str := loose_0 ++ loose_1
def kitB (K : PySem.W.Frag) (x : Str) (c : Value) (b : Bool) : Bool := DLH.eqB (PySem.W.kitOne K (.ref (He.ga K x)) c) (some b)
def excB (K : PySem.W.Frag) (C : Addr) : Bool := xfB K C && (He.eqO (PySem.W.findIn K (.ref C) "__class__") (some (some (.builtin "object.__class__"))) && (He.eqO (PySem.W.specialIn K (.builtin "object.__class__") "__get__") (some (some (.builtin "getset_descriptor.__get__"))) && (DLH.eqB (PySem.W.takesIn K (.builtin "object.__class__")) (some true) && DLH.eqB (PySem.W.mroIn K C (.type "object")) (some true))))
def isoB (K : PySem.W.Frag) (C : Addr) : Bool := He.eqO (PySem.W.findIn K (.ref C) "__class__") (some (some (.builtin "object.__class__"))) && (He.eqO (PySem.W.specialIn K (.builtin "object.__class__") "__get__") (some (some (.builtin "getset_descriptor.__get__"))) && (DLH.eqB (PySem.W.takesIn K (.builtin "object.__class__")) (some true) && DLH.eqB (PySem.W.mroIn K C (.type "object")) (some true)))
def eqmB (K : PySem.W.Frag) : Bool := He.eqO (PySem.W.findIn K (.ref (He.ga K "Algebra")) "__eq__") (some (some (.ref (He.ma K (He.ga K "Algebra") "__eq__")))) && PySem.W.isFn K (.ref (He.ma K (He.ga K "Algebra") "__eq__"))
def exL (K : PySem.W.Frag) : List Bool := [He.tupB K "WAYS" [.str "a", .str "b", .str "c"], excB K (He.ga K "BadWord"), excB K (He.ga K "BadSize"), excB K (He.ga K "BadTable"), excB K (He.ga K "BadElement"), isoB K (He.ga K "Algebra"), eqmB K, kitB K "BadTable" (.type "ValueError") true, kitB K "BadSize" (.ref (He.ga K "BadTable")) false, kitB K "BadSize" (.ref (He.ga K "SayError")) true, kitB K "BadTable" (.ref (He.ga K "BadElement")) false, kitB K "BadTable" (.ref (He.ga K "SayError")) true, kitB K "BadElement" (.ref (He.ga K "BadTable")) false, kitB K "BadElement" (.ref (He.ga K "SayError")) true, kitB K "BadWord" (.ref (He.ga K "BadTable")) false, kitB K "BadWord" (.ref (He.ga K "SayError")) true]
def ex (K : PySem.W.Frag) : Bool := (exL K).all id
def S : DLH.Spec := ⟨fa, fn, es, "/claim/cut.py", ex⟩
abbrev R : PySem.W.OpenRow := PySem.W.OpenLaw.row PySem.Challenge.rw_framesays_k63_algebra_faults
abbrev hk : PySem.W.Hook := DLH.hook S 4
def ob (s : PySem.W.SharedT) : DLH.Al := DLH.obsG S 4 (HandSHeadRun.getT s)
theorem ob_eq (s : PySem.W.SharedT) : ob s = hk.obs s.abs := DLH.obsG_eq (HandSHeadRun.getT_eq s)
theorem run (w : World) : HandSHeadRun.RunEq R (PySem.W.view R.prog [54]) hk ob 3000 loose w := by
  intro os
  kernel_rfl
end Hd
end K63
namespace K63
open PySem PySem.Spec PyProof.Rows L2 DL
variable [B : Obs]
theorem ex_at {K : PySem.W.Frag} (c : DLH.obsK Hd.S K = DLH.valK Hd.S) (i : Nat) {b : Bool} (h : (Hd.exL K)[i]? = some b) : b = true := List.all_eq_true.mp (DLH.more c) b (List.mem_of_getElem? h)
theorem excB_ok {K : PySem.W.Frag} {C : Addr} (h : Hd.excB K C = true) : XfC K C ∧ ExcC K C := by
  obtain ⟨h1, h⟩ := He.ba h
  obtain ⟨h2, h⟩ := He.ba h
  obtain ⟨h3, h⟩ := He.ba h
  obtain ⟨h4, h5⟩ := He.ba h
  have x := xfB_ok h1
  exact ⟨x, x.ga, x.gg, x.exC, x.hdC, of_decide_eq_true h2, of_decide_eq_true h3, of_decide_eq_true h4, of_decide_eq_true h5⟩
theorem isoB_ok {K : PySem.W.Frag} {C : Addr} (cl : Cls K C) (h : Hd.isoB K C = true) : IsC K C := by
  obtain ⟨h2, h⟩ := He.ba h
  obtain ⟨h3, h⟩ := He.ba h
  obtain ⟨h4, h5⟩ := He.ba h
  exact ⟨cl, of_decide_eq_true h2, of_decide_eq_true h3, of_decide_eq_true h4, of_decide_eq_true h5⟩
/-- an own error by its place among the head's -/
theorem err_has {P : Program} {w : World} {K : PySem.W.Frag} {mg : Str → Option Value} {base : Heap} {e : DLH.ErrS} {x : Str} (E : DLH.ErrOk P K e) (hm : mg e.x = some (.ref (He.ga K e.x))) (hno : PySem.W.findIn K (.ref (He.ga K e.x)) x = some none)
    (hx1 : (x == ("__debug__" : Str)) = false) (hx2 : (x == ("__classdict__" : Str)) = false) (S : NdefX.NScope ["self", x, "__class__"] ["self", x] ["__class__"] e.scope) (hks : e.scope.names.lookup ("super" : Str) = some .globalImplicit)
    (hB : ∀ us : List Value, us.length = 2 → ∀ (F : NdefX.NF) (doc pm ct : Value), F.params = e.params → bindArgs (F.fd doc pm ct) ⟨us, []⟩ = pure ((["self", x] : List Str).zip us))
    {m0 : Str} {p0 p1 p2 p3 p4 q0 q1 q2 q3 q4 q5 q6 c0 : Pos} {j0 : Nat} (h0 : m0.length ≤ 1000)
    (hbody : e.body = [.Expr (.Call (.Attribute (.Call (.Name "super" p0) [] [] p1) "__init__" p2) [.JoinedStr [.Constant (.str m0) j0 c0, .FormattedValue (.Name x q0) (-1) none q1] q2] [] p3) p4, .Assign [.Attribute (.Name "self" q3) x q4] (.Name x q5) q6])
    (hcall : ∀ env, ∃ pl, eval (.Call (.Attribute (.Call (.Name "super" p0) [] [] p1) "__init__" p2) [.JoinedStr [.Constant (.str m0) j0 c0, .FormattedValue (.Name x q0) (-1) none q1] q2] [] p3) env = (do let o ← attributeBase (.Call (.Name "super" p0) [] [] p1) "__init__" env (eval (.Call (.Name "super" p0) [] [] p1) env); standAt p2.atName; let (f, first) ← holding [o] (getMethod o "__init__" pl); callWith p3 f first (backTo p3 (starEach [.JoinedStr [.Constant (.str m0) j0 c0, .FormattedValue (.Name x q0) (-1) none q1] q2] env)) [])) :
    HasE P w K mg base e.x (He.ga K e.x) x := by
  obtain ⟨F, cc, oc, doc, pm, ct, od, osl, T, lk, hp, hb, hs⟩ := E.ex
  refine ⟨hm, fun X e1 e2 e3 e4 e5 => ⟨He.ma K (He.ga K e.x) "__init__", F.fd doc pm ct, ?_⟩⟩
  subst e1 e2 e3 e4 e5
  refine ⟨E.oex, E.iC, E.tI, DX.exc_init (ms := []) (tl := []) T lk (by rw [hs]; exact S) (by rw [hs]; exact hks) hno hx1 hx2 (by rw [hb]; exact hbody) (.inl ⟨rfl, rfl⟩) h0 (hcall := hcall), Binds.all fun us hl => hB us hl F doc pm ct hp⟩
theorem has_BadWord {w : World} {K : PySem.W.Frag} {mg : Str → Option Value} {base : Heap} (c : DLH.obsK Hd.S K = DLH.valK Hd.S) (hm : mg "BadWord" = some (.ref (He.ga K "BadWord"))) : HasE (PySem.W.OpenLaw.prog PySem.Challenge.rw_framesays_k63_algebra_faults) w K mg base "BadWord" (He.ga K "BadWord") "word" :=
  err_has (DLH.err_ (e := Hd.e_BadWord) c 0 rfl rfl rfl ⟨_, rfl, rfl⟩) hm (He.noat_ok (DLH.fact c 80 (f := .noat "BadWord" "word") rfl)) (by decide) (by decide) (NdefX.nscope_by (by decide +kernel)) (by rfl) (fun us hl F doc pm ct e => by
    match us, hl with
    | [_, _], _ =>
      obtain ⟨a1, a2, a3, a4, a5, a6, a7⟩ := F
      dsimp only at e
      subst e
      rfl) (by decide +kernel) rfl (by intro; exact ⟨_, rfl⟩)
theorem has_BadSize {w : World} {K : PySem.W.Frag} {mg : Str → Option Value} {base : Heap} (c : DLH.obsK Hd.S K = DLH.valK Hd.S) (hm : mg "BadSize" = some (.ref (He.ga K "BadSize"))) : HasE (PySem.W.OpenLaw.prog PySem.Challenge.rw_framesays_k63_algebra_faults) w K mg base "BadSize" (He.ga K "BadSize") "size" :=
  err_has (DLH.err_ (e := Hd.e_BadSize) c 1 rfl rfl rfl ⟨_, rfl, rfl⟩) hm (He.noat_ok (DLH.fact c 84 (f := .noat "BadSize" "size") rfl)) (by decide) (by decide) (NdefX.nscope_by (by decide +kernel)) (by rfl) (fun us hl F doc pm ct e => by
    match us, hl with
    | [_, _], _ =>
      obtain ⟨a1, a2, a3, a4, a5, a6, a7⟩ := F
      dsimp only at e
      subst e
      rfl) (by decide +kernel) rfl (by intro; exact ⟨_, rfl⟩)
theorem has_BadTable {w : World} {K : PySem.W.Frag} {mg : Str → Option Value} {base : Heap} (c : DLH.obsK Hd.S K = DLH.valK Hd.S) (hm : mg "BadTable" = some (.ref (He.ga K "BadTable"))) : HasE (PySem.W.OpenLaw.prog PySem.Challenge.rw_framesays_k63_algebra_faults) w K mg base "BadTable" (He.ga K "BadTable") "word" :=
  err_has (DLH.err_ (e := Hd.e_BadTable) c 2 rfl rfl rfl ⟨_, rfl, rfl⟩) hm (He.noat_ok (DLH.fact c 86 (f := .noat "BadTable" "word") rfl)) (by decide) (by decide) (NdefX.nscope_by (by decide +kernel)) (by rfl) (fun us hl F doc pm ct e => by
    match us, hl with
    | [_, _], _ =>
      obtain ⟨a1, a2, a3, a4, a5, a6, a7⟩ := F
      dsimp only at e
      subst e
      rfl) (by decide +kernel) rfl (by intro; exact ⟨_, rfl⟩)
theorem has_BadElement {w : World} {K : PySem.W.Frag} {mg : Str → Option Value} {base : Heap} (c : DLH.obsK Hd.S K = DLH.valK Hd.S) (hm : mg "BadElement" = some (.ref (He.ga K "BadElement"))) : HasE (PySem.W.OpenLaw.prog PySem.Challenge.rw_framesays_k63_algebra_faults) w K mg base "BadElement" (He.ga K "BadElement") "element" :=
  err_has (DLH.err_ (e := Hd.e_BadElement) c 3 rfl rfl rfl ⟨_, rfl, rfl⟩) hm (He.noat_ok (DLH.fact c 91 (f := .noat "BadElement" "element") rfl)) (by decide) (by decide) (NdefX.nscope_by (by decide +kernel)) (by rfl) (fun us hl F doc pm ct e => by
    match us, hl with
    | [_, _], _ =>
      obtain ⟨a1, a2, a3, a4, a5, a6, a7⟩ := F
      dsimp only at e
      subst e
      rfl) (by decide +kernel) rfl (by intro; exact ⟨_, rfl⟩)
theorem facts {h : Heap} {K : PySem.W.Frag} {mg : Str → Option Value} (X : K.In h) (G : h.Ns mainGlobals mg) (c : DLH.obsK Hd.S K = DLH.valK Hd.S) : Fc (PySem.W.OpenLaw.prog PySem.Challenge.rw_framesays_k63_algebra_faults) K mg where
  b_ValueError := He.free_ok X G (DLH.fact c 47 (f := .free "ValueError") rfl)
  b_len := He.free_ok X G (DLH.fact c 48 (f := .free "len") rfl)
  b_range := He.free_ok X G (DLH.fact c 49 (f := .free "range") rfl)
  b_int := He.free_ok X G (DLH.fact c 50 (f := .free "int") rfl)
  b_bool := He.free_ok X G (DLH.fact c 51 (f := .free "bool") rfl)
  b_str := He.free_ok X G (DLH.fact c 52 (f := .free "str") rfl)
  b_tuple := He.free_ok X G (DLH.fact c 53 (f := .free "tuple") rfl)
  b_list := He.free_ok X G (DLH.fact c 54 (f := .free "list") rfl)
  b_isinstance := He.free_ok X G (DLH.fact c 55 (f := .free "isinstance") rfl)
  b_abs := He.free_ok X G (DLH.fact c 56 (f := .free "abs") rfl)
  b_min := He.free_ok X G (DLH.fact c 57 (f := .free "min") rfl)
  b_repr := He.free_ok X G (DLH.fact c 58 (f := .free "repr") rfl)
  b_super := He.free_ok X G (DLH.fact c 59 (f := .free "super") rfl)
  g_WAYS := ⟨.ref (He.ga K "WAYS"), .ref (He.ga K "WAYS"), He.glo_ok X G (DLH.fact c 62 (f := .glo "WAYS") rfl), rfl, fun F => .tup (He.tupB_ok (ex_at c 0 rfl) F) (.cons (.str _) (.cons (.str _) (.cons (.str _) .nil)))⟩
  g_LEAST_SIZE := by
    obtain ⟨t, ht⟩ := He.int_ok X G (DLH.fact c 60 (f := .int "LEAST_SIZE" 2) rfl)
    exact ⟨.int 2, .int 2 t, ht, ⟨t, rfl⟩, fun F => .int 2⟩
  g_MOST_SIZE := by
    obtain ⟨t, ht⟩ := He.int_ok X G (DLH.fact c 61 (f := .int "MOST_SIZE" 32) rfl)
    exact ⟨.int 32, .int 32 t, ht, ⟨t, rfl⟩, fun F => .int 32⟩
  g_SayError := ⟨.ref (He.ga K "SayError"), .ref (He.ga K "SayError"), He.glo_ok X G (DLH.fact c 0 (f := .glo "SayError") rfl), rfl, fun F => .ref _⟩
  n_SayError := He.glo_ok X G (DLH.fact c 0 (f := .glo "SayError") rfl)
  g_BadWord := ⟨.ref (He.ga K "BadWord"), .ref (He.ga K "BadWord"), He.glo_ok X G (DLH.fact c 1 (f := .glo "BadWord") rfl), rfl, fun F => .ref _⟩
  n_BadWord := He.glo_ok X G (DLH.fact c 1 (f := .glo "BadWord") rfl)
  g_BadSize := ⟨.ref (He.ga K "BadSize"), .ref (He.ga K "BadSize"), He.glo_ok X G (DLH.fact c 2 (f := .glo "BadSize") rfl), rfl, fun F => .ref _⟩
  n_BadSize := He.glo_ok X G (DLH.fact c 2 (f := .glo "BadSize") rfl)
  g_BadTable := ⟨.ref (He.ga K "BadTable"), .ref (He.ga K "BadTable"), He.glo_ok X G (DLH.fact c 3 (f := .glo "BadTable") rfl), rfl, fun F => .ref _⟩
  n_BadTable := He.glo_ok X G (DLH.fact c 3 (f := .glo "BadTable") rfl)
  g_BadElement := ⟨.ref (He.ga K "BadElement"), .ref (He.ga K "BadElement"), He.glo_ok X G (DLH.fact c 4 (f := .glo "BadElement") rfl), rfl, fun F => .ref _⟩
  n_BadElement := He.glo_ok X G (DLH.fact c 4 (f := .glo "BadElement") rfl)
  g_Algebra := ⟨.ref (He.ga K "Algebra"), .ref (He.ga K "Algebra"), He.glo_ok X G (DLH.fact c 7 (f := .glo "Algebra") rfl), rfl, fun F => .ref _⟩
  n_Algebra := He.glo_ok X G (DLH.fact c 7 (f := .glo "Algebra") rfl)
  e_BadWord := has_BadWord c (He.glo_ok X G (DLH.fact c 1 (f := .glo "BadWord") rfl))
  e_BadSize := has_BadSize c (He.glo_ok X G (DLH.fact c 2 (f := .glo "BadSize") rfl))
  e_BadTable := has_BadTable c (He.glo_ok X G (DLH.fact c 3 (f := .glo "BadTable") rfl))
  e_BadElement := has_BadElement c (He.glo_ok X G (DLH.fact c 4 (f := .glo "BadElement") rfl))
  xf_word := fun C hC => by
    rcases hC with rfl | rfl | rfl | rfl
    · exact ⟨(excB_ok (ex_at c 1 rfl)).1, He.noat_ok (DLH.fact c 80 (f := .noat "BadWord" "word") rfl)⟩
    · exact ⟨(excB_ok (ex_at c 2 rfl)).1, He.noat_ok (DLH.fact c 83 (f := .noat "BadSize" "word") rfl)⟩
    · exact ⟨(excB_ok (ex_at c 3 rfl)).1, He.noat_ok (DLH.fact c 86 (f := .noat "BadTable" "word") rfl)⟩
    · exact ⟨(excB_ok (ex_at c 4 rfl)).1, He.noat_ok (DLH.fact c 89 (f := .noat "BadElement" "word") rfl)⟩
  xf_size := fun C hC => by
    rcases hC with rfl | rfl | rfl | rfl
    · exact ⟨(excB_ok (ex_at c 1 rfl)).1, He.noat_ok (DLH.fact c 81 (f := .noat "BadWord" "size") rfl)⟩
    · exact ⟨(excB_ok (ex_at c 2 rfl)).1, He.noat_ok (DLH.fact c 84 (f := .noat "BadSize" "size") rfl)⟩
    · exact ⟨(excB_ok (ex_at c 3 rfl)).1, He.noat_ok (DLH.fact c 87 (f := .noat "BadTable" "size") rfl)⟩
    · exact ⟨(excB_ok (ex_at c 4 rfl)).1, He.noat_ok (DLH.fact c 90 (f := .noat "BadElement" "size") rfl)⟩
  xf_element := fun C hC => by
    rcases hC with rfl | rfl | rfl | rfl
    · exact ⟨(excB_ok (ex_at c 1 rfl)).1, He.noat_ok (DLH.fact c 82 (f := .noat "BadWord" "element") rfl)⟩
    · exact ⟨(excB_ok (ex_at c 2 rfl)).1, He.noat_ok (DLH.fact c 85 (f := .noat "BadSize" "element") rfl)⟩
    · exact ⟨(excB_ok (ex_at c 3 rfl)).1, He.noat_ok (DLH.fact c 88 (f := .noat "BadTable" "element") rfl)⟩
    · exact ⟨(excB_ok (ex_at c 4 rfl)).1, He.noat_ok (DLH.fact c 91 (f := .noat "BadElement" "element") rfl)⟩
  isx := fun C hC => by
    rcases hC with rfl | rfl | rfl | rfl
    · exact (excB_ok (ex_at c 1 rfl)).2
    · exact (excB_ok (ex_at c 2 rfl)).2
    · exact (excB_ok (ex_at c 3 rfl)).2
    · exact (excB_ok (ex_at c 4 rfl)).2
  x_BadSize_BadSize := He.exm_ok (DLH.fact c 75 (f := .exm "BadSize" "BadSize" true) rfl)
  x_BadTable_BadSize := He.exm_ok (DLH.fact c 76 (f := .exm "BadTable" "BadSize" false) rfl)
  x_BadTable_BadTable := He.exm_ok (DLH.fact c 77 (f := .exm "BadTable" "BadTable" true) rfl)
  x_BadWord_BadWord := He.exm_ok (DLH.fact c 78 (f := .exm "BadWord" "BadWord" true) rfl)
  x_BadElement_BadElement := He.exm_ok (DLH.fact c 79 (f := .exm "BadElement" "BadElement" true) rfl)
  k_BadSize_BadTable := of_decide_eq_true (ex_at c 8 rfl)
  k_BadSize_SayError := of_decide_eq_true (ex_at c 9 rfl)
  k_BadTable_BadElement := of_decide_eq_true (ex_at c 10 rfl)
  k_BadTable_SayError := of_decide_eq_true (ex_at c 11 rfl)
  k_BadElement_BadTable := of_decide_eq_true (ex_at c 12 rfl)
  k_BadElement_SayError := of_decide_eq_true (ex_at c 13 rfl)
  k_BadWord_BadTable := of_decide_eq_true (ex_at c 14 rfl)
  k_BadWord_SayError := of_decide_eq_true (ex_at c 15 rfl)
  k_BadTable_ValueError := of_decide_eq_true (ex_at c 7 rfl)
  is_Algebra := isoB_ok (He.cls_ok (DLH.fact c 63 (f := .cls "Algebra") rfl)) (ex_at c 5 rfl)
  f_size := ⟨He.cls_ok (DLH.fact c 63 (f := .cls "Algebra") rfl), He.noat_ok (DLH.fact c 65 (f := .noat "Algebra" "size") rfl)⟩
  f_meet := ⟨He.cls_ok (DLH.fact c 63 (f := .cls "Algebra") rfl), He.noat_ok (DLH.fact c 66 (f := .noat "Algebra" "meet") rfl)⟩
  f_rest := ⟨He.cls_ok (DLH.fact c 63 (f := .cls "Algebra") rfl), He.noat_ok (DLH.fact c 67 (f := .noat "Algebra" "rest") rfl)⟩
  f_a := ⟨He.cls_ok (DLH.fact c 63 (f := .cls "Algebra") rfl), He.noat_ok (DLH.fact c 68 (f := .noat "Algebra" "a") rfl)⟩
  f_b := ⟨He.cls_ok (DLH.fact c 63 (f := .cls "Algebra") rfl), He.noat_ok (DLH.fact c 69 (f := .noat "Algebra" "b") rfl)⟩
  f_c := ⟨He.cls_ok (DLH.fact c 63 (f := .cls "Algebra") rfl), He.noat_ok (DLH.fact c 70 (f := .noat "Algebra" "c") rfl)⟩
end K63
namespace K63
open PySem PySem.Spec PyProof.Rows L2 DL
variable [B : Obs] {K : PySem.W.Frag} {ds : List D} {M : Md} {Q : VD} {X : XD}
theorem p__law_plain (h : sp__law_plain K ds M Q X) : t__law_plain K (outD Q X) (startD N__law_plain ds) M := by
  obtain ⟨d, rfl, ht, h⟩ := h
  obtain ⟨t, ht⟩ := Option.isSome_iff_exists.mp ht
  simp only [t__law_plain, N__law_plain, wipeD, items_tup, items_lst, items_rng, tupleD, seqA_tup, seqA_lst, tSq, tIf', tTs, tO, tV, tK, tTr, truD, tNo, tAn, tOr', tAnV, tOrV', tNoV, tIfE, tN0, tCo, tTu, tLs, tCl, tFn, tMh, tRt, tRt0, tNx, tEx, tSe, tAs, gN, gS, gT, gsc, gs0, tU, i2, i2c, rNegD, intC, absD, minD, isD, eqi, eqs, eqb, nei, nes, neb, DL.rIsD, DL.rIsnD, rAddD, rMulD, tMe, tMe0, tBk, tCt, outD, EndsD.xk, startD, optP_some, List.map_cons, List.map_nil, List.length_cons, List.length_nil, List.cons_append, List.nil_append, List.append_nil, List.set_cons_zero, List.set_cons_succ, List.set_nil, List.getElem?_cons_zero, List.getElem?_cons_succ, List.replicate_succ, List.replicate_zero, Nat.zero_add, Nat.reduceAdd, Nat.reduceSub, decide_eq_true_eq, Bool.not_eq_true', decide_eq_false_iff_not, ht]
  have key : (isB t "int" && !isB t "bool") = isInt d := by
    unfold tyN at ht
    split at ht
    · cases ht; rfl
    · cases ht; rfl
    · cases ht; rfl
    · cases ht; rfl
    · cases ht; rfl
    · rename_i h1 h2 h3 h4 h5
      split at ht
      · cases ht
        cases d <;> first
          | rfl
          | exact (h3 _ rfl).elim
      · cases ht
  refine ⟨by decide, ?_⟩
  split
  · rename_i e
    rw [e, Bool.true_and] at key
    refine ⟨by decide, out_ret ?_⟩
    rw [key]
    exact h
  · rename_i e
    have e : isB t "int" = false := by simpa using e
    rw [e, Bool.false_and] at key
    rw [← key] at h
    exact out_ret h
theorem p_check_element (h : sp_check_element K ds M Q X) : t_check_element K (outD Q X) (startD N_check_element ds) M := by
  obtain ⟨d, i, n, rfl, ⟨C, fs, h1, h2, h3⟩, hl, h⟩ := h
  simp only [t_check_element, N_check_element, wipeD, items_tup, items_lst, items_rng, tupleD, seqA_tup, seqA_lst, tSq, tIf', tTs, tO, tV, tK, tTr, truD, tNo, tAn, tOr', tAnV, tOrV', tNoV, tIfE, tN0, tCo, tTu, tLs, tCl, tFn, tMh, tRt, tRt0, tNx, tEx, tSe, tAs, gN, gS, gT, gsc, gs0, tU, i2, i2c, rNegD, intC, absD, minD, isD, eqi, eqs, eqb, nei, nes, neb, DL.rIsD, DL.rIsnD, rAddD, rMulD, tMe, tMe0, tBk, tCt, outD, EndsD.xk, startD, optP_some, List.map_cons, List.map_nil, List.length_cons, List.length_nil, List.cons_append, List.nil_append, List.append_nil, List.set_cons_zero, List.set_cons_succ, List.set_nil, List.getElem?_cons_zero, List.getElem?_cons_succ, List.replicate_succ, List.replicate_zero, Nat.zero_add, Nat.reduceAdd, Nat.reduceSub, decide_eq_true_eq, Bool.not_eq_true', decide_eq_false_iff_not, DX.tRs, tFd, DX.OkD, h1, h3, if_true]
  split
  · rw [if_neg (by omega)] at h
    exact ⟨hl, out_xx h⟩
  · refine ⟨h2, ?_⟩
    split
    · rw [if_neg (by omega)] at h
      exact ⟨hl, out_xx h⟩
    · rw [if_pos (by omega)] at h
      exact out_nx h
theorem p__is_row (h : sp__is_row K ds M Q X) : t__is_row K (outD Q X) (startD N__is_row ds) M := by
  obtain ⟨d, ns, n, rfl, hs, h⟩ := h
  simp only [t__is_row, N__is_row, wipeD, items_tup, items_lst, items_rng, tupleD, seqA_tup, seqA_lst, tSq, tIf', tTs, tO, tV, tK, tTr, truD, tNo, tAn, tOr', tAnV, tOrV', tNoV, tIfE, tN0, tCo, tTu, tLs, tCl, tFn, tMh, tRt, tRt0, tNx, tEx, tSe, tAs, gN, gS, gT, gsc, gs0, tU, i2, i2c, rNegD, intC, absD, minD, isD, eqi, eqs, eqb, nei, nes, neb, DL.rIsD, DL.rIsnD, rAddD, rMulD, tMe, tMe0, tBk, tCt, outD, EndsD.xk, startD, optP_some, List.map_cons, List.map_nil, List.length_cons, List.length_nil, List.cons_append, List.nil_append, List.append_nil, List.set_cons_zero, List.set_cons_succ, List.set_nil, List.getElem?_cons_zero, List.getElem?_cons_succ, List.replicate_succ, List.replicate_zero, Nat.zero_add, Nat.reduceAdd, Nat.reduceSub, decide_eq_true_eq, Bool.not_eq_true', decide_eq_false_iff_not, len_eq hs]
  split
  · rename_i e
    rw [iL_len] at e
    have z : rowB ns n = false := by
      unfold rowB
      simp [e]
    rw [z] at h
    exact out_ret h
  · rename_i e
    have e : (ns.length : Int) = n := by
      rw [iL_len] at e
      exact Decidable.not_not.mp e
    simp only [tFo, tIS, wipeD, items_tup, items_lst, items_rng, tupleD, seqA_tup, seqA_lst, tSq, tIf', tTs, tO, tV, tK, tTr, truD, tNo, tAn, tOr', tAnV, tOrV', tNoV, tIfE, tN0, tCo, tTu, tLs, tCl, tFn, tMh, tRt, tRt0, tNx, tEx, tSe, tAs, gN, gS, gT, gsc, gs0, tU, i2, i2c, rNegD, intC, absD, minD, isD, eqi, eqs, eqb, nei, nes, neb, DL.rIsD, DL.rIsnD, rAddD, rMulD, tMe, tMe0, tBk, tCt, outD, EndsD.xk, startD, optP_some, List.map_cons, List.map_nil, List.length_cons, List.length_nil, List.cons_append, List.nil_append, List.append_nil, List.set_cons_zero, List.set_cons_succ, List.set_nil, List.getElem?_cons_zero, List.getElem?_cons_succ, List.replicate_succ, List.replicate_zero, Nat.zero_add, Nat.reduceAdd, Nat.reduceSub, decide_eq_true_eq, Bool.not_eq_true', decide_eq_false_iff_not, items_eq hs]
    refine forGo_find (inv := fun δ => ∃ a, δ = [some d, some (.int n), a]) (f := fun k => if h : k < ns.length then (if ns[k] < 0 ∨ n ≤ ns[k] then some (.bl false) else none) else none) hs (fun k hk δ hi R hn hr => ?_) (fun hn δ hi => ?_) (fun r hr => ?_) ⟨_, rfl⟩
    · obtain ⟨a, rfl⟩ := hi
      have hk' : k < ns.length := by rw [iL_len] at hk; exact hk
      rw [iL_get hk]
      simp only [wipeD, items_tup, items_lst, items_rng, tupleD, seqA_tup, seqA_lst, tSq, tIf', tTs, tO, tV, tK, tTr, truD, tNo, tAn, tOr', tAnV, tOrV', tNoV, tIfE, tN0, tCo, tTu, tLs, tCl, tFn, tMh, tRt, tRt0, tNx, tEx, tSe, tAs, gN, gS, gT, gsc, gs0, tU, i2, i2c, rNegD, intC, absD, minD, isD, eqi, eqs, eqb, nei, nes, neb, DL.rIsD, DL.rIsnD, rAddD, rMulD, tMe, tMe0, tBk, tCt, outD, EndsD.xk, startD, optP_some, List.map_cons, List.map_nil, List.length_cons, List.length_nil, List.cons_append, List.nil_append, List.append_nil, List.set_cons_zero, List.set_cons_succ, List.set_nil, List.getElem?_cons_zero, List.getElem?_cons_succ, List.replicate_succ, List.replicate_zero, Nat.zero_add, Nat.reduceAdd, Nat.reduceSub, decide_eq_true_eq, Bool.not_eq_true', decide_eq_false_iff_not]
      simp only [hk', dif_pos] at hn hr
      split
      · rename_i c
        simp only [if_true]
        exact hr _ (if_pos (.inl c))
      · split
        · rename_i c
          exact hr _ (if_pos (.inr c))
        · rename_i c1 c2
          exact hn (if_neg (by omega)) _ ⟨_, rfl⟩
    · have z : rowB ns n = true := by
        unfold rowB
        rw [Bool.and_eq_true]
        refine ⟨by simpa using e, List.all_eq_true.mpr fun i hi => ?_⟩
        obtain ⟨k, hk, rfl⟩ := List.mem_iff_getElem.mp hi
        have := ff_none_iff.mp hn k (by rw [iL_len]; exact hk)
        simp only [hk, dif_pos] at this
        split at this
        · cases this
        · simp; omega
      rw [z] at h
      exact out_ret h
    · have z : rowB ns n = false := by
        cases q : rowB ns n with
        | false => rfl
        | true =>
          unfold rowB at q
          rw [Bool.and_eq_true] at q
          have := ff_none (n := (iL ns).length) (f := fun k => if h : k < ns.length then (if ns[k] < 0 ∨ n ≤ ns[k] then some (D.bl false) else none) else none) fun k hk => by
            rw [iL_len] at hk
            have z := List.all_eq_true.mp q.2 ns[k] (List.getElem_mem _)
            simp at z
            simp only [hk, dif_pos]
            rw [if_neg (by omega)]
          rw [this] at hr
          cases hr
      rw [z] at h
      have er : r = .bl false := by
        unfold ff at hr
        obtain ⟨k, hk, hr⟩ := List.exists_of_findSome?_eq_some hr
        split at hr
        · split at hr
          · cases hr
            rfl
          · cases hr
        · cases hr
      subst er
      exact out_ret h
end K63
namespace K63
open PySem PySem.Spec PyProof.Rows L2 DL
variable [B : Obs] {K : PySem.W.Frag} {mg : Str → Option Value} {P : Program} {ds : List D} {M : Md} {Q : VD} {X : XD}
theorem rIx_tup {xs : List D} {i : Int} : rIxD (.tup xs) (.int i) M Q = optP (atI xs i) fun v => Q v M := rfl
theorem rIx_lst {xs : List D} {i : Int} : rIxD (.lst xs) (.int i) M Q = optP (atI xs i) fun v => Q v M := rfl
theorem fl_alg {A : Alg} : fldsD M (algD K A) = some (CA K, nsA.zip (dsA A)) := rfl
theorem lk_size {A : Alg} : (nsA.zip (dsA A)).lookup ("size" : Str) = some (.int A.n) := rfl
theorem lk_meet {A : Alg} : (nsA.zip (dsA A)).lookup ("meet" : Str) = some (.tup (rowsD A.meet)) := rfl
theorem lk_rest {A : Alg} : (nsA.zip (dsA A)).lookup ("rest" : Str) = some (.tup (iL A.rest)) := rfl
theorem lk_a {A : Alg} : (nsA.zip (dsA A)).lookup ("a" : Str) = some (.tup (iL A.a)) := rfl
theorem lk_b {A : Alg} : (nsA.zip (dsA A)).lookup ("b" : Str) = some (.tup (iL A.b)) := rfl
theorem lk_c {A : Alg} : (nsA.zip (dsA A)).lookup ("c" : Str) = some (.tup (iL A.c)) := rfl
theorem Wf.rowAt {A : Alg} (w : Wf A) {x : Int} (h0 : 0 ≤ x) (h1 : x < A.n) : atI (rowsD A.meet) x = some (.tup (iL (gr A.meet x))) ∧ WfR A.n (gr A.meet x) := by
  have hl : x.toNat < A.meet.length := by have := w.ml; omega
  have e : gr A.meet x = A.meet[x.toNat] := by
    unfold gr
    rw [List.getD_eq_getElem?_getD, List.getElem?_eq_getElem hl]
    rfl
  rw [atI_in h0 (by simp only [rowsD, List.length_map]; have := w.ml; omega), e]
  refine ⟨?_, w.mr _ (List.getElem_mem _)⟩
  unfold rowsD
  rw [List.getElem?_map, List.getElem?_eq_getElem hl]
  rfl
theorem WfR.at {n : Int} {r : List Int} (w : WfR n r) {x : Int} (h0 : 0 ≤ x) (h1 : x < n) : atI (iL r) x = some (.int (gi r x)) := atI_iL h0 (by have := w.len; omega)
theorem Wf.mt {A : Alg} (w : Wf A) {x y : Int} (h0 : 0 ≤ x) (h1 : x < A.n) (h2 : 0 ≤ y) (h3 : y < A.n) : atI (iL (gr A.meet x)) y = some (.int (mt A.meet x y)) ∧ 0 ≤ mt A.meet x y ∧ mt A.meet x y < A.n :=
  ⟨(w.rowAt h0 h1).2.at h2 h3, (w.rowAt h0 h1).2.rg y h2 h3⟩
theorem p__join (Z : Fc P K mg) (h : sp__join K ds M Q X) : t__join K (outD Q X) (startD N__join ds) M := by
  obtain ⟨A, x, y, rfl, w, x0, x1, y0, y1, h⟩ := h
  have bx := w.r.rg x x0 x1
  have b_y := w.r.rg y y0 y1
  have m := w.mt bx.1 bx.2 b_y.1 b_y.2
  simp only [t__join, N__join, wipeD, items_tup, items_lst, items_rng, tupleD, seqA_tup, seqA_lst, tSq, tIf', tTs, tO, tV, tK, tTr, truD, tNo, tAn, tOr', tAnV, tOrV', tNoV, tIfE, tN0, tCo, tTu, tLs, tCl, tFn, tMh, tRt, tRt0, tNx, tEx, tSe, tAs, gN, gS, gT, gsc, gs0, tU, i2, i2c, rNegD, intC, absD, minD, isD, eqi, eqs, eqb, nei, nes, neb, DL.rIsD, DL.rIsnD, rAddD, rMulD, tMe, tMe0, tBk, tCt, outD, EndsD.xk, startD, optP_some, List.map_cons, List.map_nil, List.length_cons, List.length_nil, List.cons_append, List.nil_append, List.append_nil, List.set_cons_zero, List.set_cons_succ, List.set_nil, List.getElem?_cons_zero, List.getElem?_cons_succ, List.replicate_succ, List.replicate_zero, Nat.zero_add, Nat.reduceAdd, Nat.reduceSub, decide_eq_true_eq, Bool.not_eq_true', decide_eq_false_iff_not, tFd, fl_alg, lk_rest, lk_meet, Z.f_rest, Z.f_meet, true_and, rIx_tup, w.r.at x0 x1, w.r.at y0 y1, (w.rowAt bx.1 bx.2).1, m.1, w.r.at m.2.1 m.2.2]
  exact out_ret h
theorem p_Algebra_zero (Z : Fc P K mg) (h : sp_Algebra_zero K ds M Q X) : t_Algebra_zero K (outD Q X) (startD N_Algebra_zero ds) M := by
  obtain ⟨A, rfl, w, h⟩ := h
  have lo := w.lo
  have r0 := w.r.rg 0 (by omega) (by omega)
  simp only [t_Algebra_zero, N_Algebra_zero, wipeD, items_tup, items_lst, items_rng, tupleD, seqA_tup, seqA_lst, tSq, tIf', tTs, tO, tV, tK, tTr, truD, tNo, tAn, tOr', tAnV, tOrV', tNoV, tIfE, tN0, tCo, tTu, tLs, tCl, tFn, tMh, tRt, tRt0, tNx, tEx, tSe, tAs, gN, gS, gT, gsc, gs0, tU, i2, i2c, rNegD, intC, absD, minD, isD, eqi, eqs, eqb, nei, nes, neb, DL.rIsD, DL.rIsnD, rAddD, rMulD, tMe, tMe0, tBk, tCt, outD, EndsD.xk, startD, optP_some, List.map_cons, List.map_nil, List.length_cons, List.length_nil, List.cons_append, List.nil_append, List.append_nil, List.set_cons_zero, List.set_cons_succ, List.set_nil, List.getElem?_cons_zero, List.getElem?_cons_succ, List.replicate_succ, List.replicate_zero, Nat.zero_add, Nat.reduceAdd, Nat.reduceSub, decide_eq_true_eq, Bool.not_eq_true', decide_eq_false_iff_not, tFd, fl_alg, lk_rest, lk_meet, Z.f_rest, Z.f_meet, true_and, rIx_tup, w.r.at (x := 0) (by omega) (by omega), (w.rowAt (x := 0) (by omega) (by omega)).1, (w.mt (x := 0) (by omega) (by omega) r0.1 r0.2).1]
  exact out_ret h
theorem Wf.zero {A : Alg} (w : Wf A) : 0 ≤ zeroV A ∧ zeroV A < A.n := by
  have lo := w.lo
  have r0 := w.r.rg 0 (by omega) (by omega)
  exact (w.mt (x := 0) (by omega) (by omega) r0.1 r0.2).2
theorem p_Algebra_one (Z : Fc P K mg) (h : sp_Algebra_one K ds M Q X) : t_Algebra_one K (outD Q X) (startD N_Algebra_one ds) M := by
  obtain ⟨A, rfl, w, h⟩ := h
  simp only [t_Algebra_one, N_Algebra_one, wipeD, items_tup, items_lst, items_rng, tupleD, seqA_tup, seqA_lst, tSq, tIf', tTs, tO, tV, tK, tTr, truD, tNo, tAn, tOr', tAnV, tOrV', tNoV, tIfE, tN0, tCo, tTu, tLs, tCl, tFn, tMh, tRt, tRt0, tNx, tEx, tSe, tAs, gN, gS, gT, gsc, gs0, tU, i2, i2c, rNegD, intC, absD, minD, isD, eqi, eqs, eqb, nei, nes, neb, DL.rIsD, DL.rIsnD, rAddD, rMulD, tMe, tMe0, tBk, tCt, outD, EndsD.xk, startD, optP_some, List.map_cons, List.map_nil, List.length_cons, List.length_nil, List.cons_append, List.nil_append, List.append_nil, List.set_cons_zero, List.set_cons_succ, List.set_nil, List.getElem?_cons_zero, List.getElem?_cons_succ, List.replicate_succ, List.replicate_zero, Nat.zero_add, Nat.reduceAdd, Nat.reduceSub, decide_eq_true_eq, Bool.not_eq_true', decide_eq_false_iff_not, tFd, fl_alg, lk_rest, Z.f_rest, true_and, objD]
  refine ⟨⟨_, rfl, rfl⟩, A, rfl, w, ?_⟩
  simp only [rIx_tup, w.r.at w.zero.1 w.zero.2, wipeD, items_tup, items_lst, items_rng, tupleD, seqA_tup, seqA_lst, tSq, tIf', tTs, tO, tV, tK, tTr, truD, tNo, tAn, tOr', tAnV, tOrV', tNoV, tIfE, tN0, tCo, tTu, tLs, tCl, tFn, tMh, tRt, tRt0, tNx, tEx, tSe, tAs, gN, gS, gT, gsc, gs0, tU, i2, i2c, rNegD, intC, absD, minD, isD, eqi, eqs, eqb, nei, nes, neb, DL.rIsD, DL.rIsnD, rAddD, rMulD, tMe, tMe0, tBk, tCt, outD, EndsD.xk, startD, optP_some, List.map_cons, List.map_nil, List.length_cons, List.length_nil, List.cons_append, List.nil_append, List.append_nil, List.set_cons_zero, List.set_cons_succ, List.set_nil, List.getElem?_cons_zero, List.getElem?_cons_succ, List.replicate_succ, List.replicate_zero, Nat.zero_add, Nat.reduceAdd, Nat.reduceSub, decide_eq_true_eq, Bool.not_eq_true', decide_eq_false_iff_not]
  exact out_ret h
theorem p_is_way (h : sp_is_way K ds M Q X) : t_is_way K (outD Q X) (startD N_is_way ds) M := by
  obtain ⟨w, rfl, h⟩ := h
  refine ⟨_, rfl, rfl, rfl, out_ret ?_⟩
  have e : inF (.str w) [.str "a", .str "b", .str "c"] = isW w := by
    unfold inF isW
    simp only [List.any_cons, List.any_nil, eqF, Bool.or_false]
  show Q (.bl (inF (.str w) [.str "a", .str "b", .str "c"])) M
  rw [e]
  exact h
theorem p_check_way (h : sp_check_way K ds M Q X) : t_check_way K (outD Q X) (startD N_check_way ds) M := by
  obtain ⟨w, rfl, hl, h⟩ := h
  refine ⟨w, rfl, ?_⟩
  simp only [wipeD, items_tup, items_lst, items_rng, tupleD, seqA_tup, seqA_lst, tSq, tIf', tTs, tO, tV, tK, tTr, truD, tNo, tAn, tOr', tAnV, tOrV', tNoV, tIfE, tN0, tCo, tTu, tLs, tCl, tFn, tMh, tRt, tRt0, tNx, tEx, tSe, tAs, gN, gS, gT, gsc, gs0, tU, i2, i2c, rNegD, intC, absD, minD, isD, eqi, eqs, eqb, nei, nes, neb, DL.rIsD, DL.rIsnD, rAddD, rMulD, tMe, tMe0, tBk, tCt, outD, EndsD.xk, startD, optP_some, List.map_cons, List.map_nil, List.length_cons, List.length_nil, List.cons_append, List.nil_append, List.append_nil, List.set_cons_zero, List.set_cons_succ, List.set_nil, List.getElem?_cons_zero, List.getElem?_cons_succ, List.replicate_succ, List.replicate_zero, Nat.zero_add, Nat.reduceAdd, Nat.reduceSub, decide_eq_true_eq, Bool.not_eq_true', decide_eq_false_iff_not, DX.tRs, DX.OkD]
  cases e : isW w with
  | true =>
    rw [if_pos e] at h
    exact out_nx h
  | false =>
    rw [if_neg (by rw [e]; exact Bool.false_ne_true)] at h
    exact ⟨hl, out_xx h⟩
theorem str_ne {a b : Str} (h : (a == b) = false) : a ≠ b := fun e => by
  subst e
  simp at h
theorem p_Algebra_table (Z : Fc P K mg) (h : sp_Algebra_table K ds M Q X) : t_Algebra_table K (outD Q X) (startD N_Algebra_table ds) M := by
  obtain ⟨A, w, rfl, hl, h⟩ := h
  refine ⟨w, rfl, hl, ?_⟩
  cases e : isW w with
  | false =>
    simp only [e, Bool.false_eq_true, if_false] at h ⊢
    exact out_xx h
  | true =>
    rw [if_pos e] at h
    rw [if_pos rfl]
    simp only [t_Algebra_table, N_Algebra_table, wipeD, items_tup, items_lst, items_rng, tupleD, seqA_tup, seqA_lst, tSq, tIf', tTs, tO, tV, tK, tTr, truD, tNo, tAn, tOr', tAnV, tOrV', tNoV, tIfE, tN0, tCo, tTu, tLs, tCl, tFn, tMh, tRt, tRt0, tNx, tEx, tSe, tAs, gN, gS, gT, gsc, gs0, tU, i2, i2c, rNegD, intC, absD, minD, isD, eqi, eqs, eqb, nei, nes, neb, DL.rIsD, DL.rIsnD, rAddD, rMulD, tMe, tMe0, tBk, tCt, outD, EndsD.xk, startD, optP_some, List.map_cons, List.map_nil, List.length_cons, List.length_nil, List.cons_append, List.nil_append, List.append_nil, List.set_cons_zero, List.set_cons_succ, List.set_nil, List.getElem?_cons_zero, List.getElem?_cons_succ, List.replicate_succ, List.replicate_zero, Nat.zero_add, Nat.reduceAdd, Nat.reduceSub, decide_eq_true_eq, Bool.not_eq_true', decide_eq_false_iff_not, tFd, fl_alg, lk_a, lk_b, lk_c, Z.f_a, Z.f_b, Z.f_c, true_and]
    unfold wayT at h
    split
    · rename_i q
      rw [if_pos q] at h
      exact out_ret h
    · rename_i q
      rw [if_neg q] at h
      split
      · rename_i q
        rw [if_pos q] at h
        exact out_ret h
      · rename_i q
        rw [if_neg q] at h
        exact out_ret h
theorem p_Algebra_join_of (Z : Fc P K mg) (h : sp_Algebra_join_of K ds M Q X) : t_Algebra_join_of K (outD Q X) (startD N_Algebra_join_of ds) M := by
  obtain ⟨A, x, y, rfl, w, lx, ly, h⟩ := h
  have sz : SizeAt K M (algD K A) A.n := ⟨_, _, fl_alg, Z.f_size, lk_size⟩
  refine ⟨_, x, A.n, rfl, sz, lx, ?_⟩
  by_cases cx : 0 ≤ x ∧ x < A.n
  · rw [if_pos cx] at h ⊢
    refine ⟨_, y, A.n, rfl, sz, ly, ?_⟩
    by_cases cy : 0 ≤ y ∧ y < A.n
    · rw [if_pos cy] at h ⊢
      exact ⟨A, x, y, rfl, w, cx.1, cx.2, cy.1, cy.2, out_ret h⟩
    · rw [if_neg cy] at h ⊢
      exact out_xx h
  · rw [if_neg cx] at h ⊢
    exact out_xx h
theorem p__order_fault (Z : Fc P K mg) (h : sp__order_fault K ds M Q X) : t__order_fault K (outD Q X) (startD N__order_fault ds) M := by
  obtain ⟨A, rfl, w, h⟩ := h
  have lo := w.lo
  have hi := w.hi
  have hn : (A.n.toNat : Int) = A.n := by omega
  simp only [t__order_fault, N__order_fault, wipeD, items_tup, items_lst, items_rng, tupleD, seqA_tup, seqA_lst, tSq, tIf', tTs, tO, tV, tK, tTr, truD, tNo, tAn, tOr', tAnV, tOrV', tNoV, tIfE, tN0, tCo, tTu, tLs, tCl, tFn, tMh, tRt, tRt0, tNx, tEx, tSe, tAs, gN, gS, gT, gsc, gs0, tU, i2, i2c, rNegD, intC, absD, minD, isD, eqi, eqs, eqb, nei, nes, neb, DL.rIsD, DL.rIsnD, rAddD, rMulD, tMe, tMe0, tBk, tCt, outD, EndsD.xk, startD, optP_some, List.map_cons, List.map_nil, List.length_cons, List.length_nil, List.cons_append, List.nil_append, List.append_nil, List.set_cons_zero, List.set_cons_succ, List.set_nil, List.getElem?_cons_zero, List.getElem?_cons_succ, List.replicate_succ, List.replicate_zero, Nat.zero_add, Nat.reduceAdd, Nat.reduceSub, decide_eq_true_eq, Bool.not_eq_true', decide_eq_false_iff_not, tFd, fl_alg, lk_meet, Z.f_meet, true_and]
  simp only [tFo, tIR1, wipeD, items_tup, items_lst, items_rng, tupleD, seqA_tup, seqA_lst, tSq, tIf', tTs, tO, tV, tK, tTr, truD, tNo, tAn, tOr', tAnV, tOrV', tNoV, tIfE, tN0, tCo, tTu, tLs, tCl, tFn, tMh, tRt, tRt0, tNx, tEx, tSe, tAs, gN, gS, gT, gsc, gs0, tU, i2, i2c, rNegD, intC, absD, minD, isD, eqi, eqs, eqb, nei, nes, neb, DL.rIsD, DL.rIsnD, rAddD, rMulD, tMe, tMe0, tBk, tCt, outD, EndsD.xk, startD, optP_some, List.map_cons, List.map_nil, List.length_cons, List.length_nil, List.cons_append, List.nil_append, List.append_nil, List.set_cons_zero, List.set_cons_succ, List.set_nil, List.getElem?_cons_zero, List.getElem?_cons_succ, List.replicate_succ, List.replicate_zero, Nat.zero_add, Nat.reduceAdd, Nat.reduceSub, decide_eq_true_eq, Bool.not_eq_true', decide_eq_false_iff_not, tFd, fl_alg, lk_size, Z.f_size, true_and]
  refine ⟨⟨by omega, by omega⟩, ?_⟩
  refine forGo_findR (inv := fun δ => ∃ a b, δ = [some (algD K A), some (.tup (rowsD A.meet)), a, b]) (f := fun x => ff A.n.toNat fun y => if mt A.meet x y ≠ mt A.meet y x then some (.tup [.str "order", .int x, .int y]) else none) trivial (fun x hx δ hi R hN hR => ?_) (fun hN δ hi => ?_) (fun r hr => ?_) ⟨_, _, rfl⟩
  · obtain ⟨a, b, rfl⟩ := hi
    simp only [tFo, tIR1, wipeD, items_tup, items_lst, items_rng, tupleD, seqA_tup, seqA_lst, tSq, tIf', tTs, tO, tV, tK, tTr, truD, tNo, tAn, tOr', tAnV, tOrV', tNoV, tIfE, tN0, tCo, tTu, tLs, tCl, tFn, tMh, tRt, tRt0, tNx, tEx, tSe, tAs, gN, gS, gT, gsc, gs0, tU, i2, i2c, rNegD, intC, absD, minD, isD, eqi, eqs, eqb, nei, nes, neb, DL.rIsD, DL.rIsnD, rAddD, rMulD, tMe, tMe0, tBk, tCt, outD, EndsD.xk, startD, optP_some, List.map_cons, List.map_nil, List.length_cons, List.length_nil, List.cons_append, List.nil_append, List.append_nil, List.set_cons_zero, List.set_cons_succ, List.set_nil, List.getElem?_cons_zero, List.getElem?_cons_succ, List.replicate_succ, List.replicate_zero, Nat.zero_add, Nat.reduceAdd, Nat.reduceSub, decide_eq_true_eq, Bool.not_eq_true', decide_eq_false_iff_not, tFd, fl_alg, lk_size, Z.f_size, true_and]
    refine ⟨⟨by omega, by omega⟩, ?_⟩
    refine forGo_findR (inv := fun δ => ∃ b, δ = [some (algD K A), some (.tup (rowsD A.meet)), some (.int x), b]) trivial (fun y hy δ hi R' hN' hR' => ?_) (fun hN' δ hi => ?_) (fun r hr => ?_) ⟨_, rfl⟩ (f := fun y => if mt A.meet x y ≠ mt A.meet y x then some (.tup [.str "order", .int x, .int y]) else none)
    · obtain ⟨b, rfl⟩ := hi
      have mx := w.mt (x := x) (y := y) (by omega) (by omega) (by omega) (by omega)
      have my := w.mt (x := y) (y := x) (by omega) (by omega) (by omega) (by omega)
      simp only [wipeD, items_tup, items_lst, items_rng, tupleD, seqA_tup, seqA_lst, tSq, tIf', tTs, tO, tV, tK, tTr, truD, tNo, tAn, tOr', tAnV, tOrV', tNoV, tIfE, tN0, tCo, tTu, tLs, tCl, tFn, tMh, tRt, tRt0, tNx, tEx, tSe, tAs, gN, gS, gT, gsc, gs0, tU, i2, i2c, rNegD, intC, absD, minD, isD, eqi, eqs, eqb, nei, nes, neb, DL.rIsD, DL.rIsnD, rAddD, rMulD, tMe, tMe0, tBk, tCt, outD, EndsD.xk, startD, optP_some, List.map_cons, List.map_nil, List.length_cons, List.length_nil, List.cons_append, List.nil_append, List.append_nil, List.set_cons_zero, List.set_cons_succ, List.set_nil, List.getElem?_cons_zero, List.getElem?_cons_succ, List.replicate_succ, List.replicate_zero, Nat.zero_add, Nat.reduceAdd, Nat.reduceSub, decide_eq_true_eq, Bool.not_eq_true', decide_eq_false_iff_not, rIx_tup, (w.rowAt (x := x) (by omega) (by omega)).1, (w.rowAt (x := y) (by omega) (by omega)).1, mx.1, my.1]
      split
      · rename_i q
        exact ⟨by decide, hR' _ (if_pos q)⟩
      · rename_i q
        exact hN' (if_neg q) _ ⟨_, rfl⟩
    · obtain ⟨b, rfl⟩ := hi
      exact hN hN' _ ⟨_, _, rfl⟩
    · exact hR r hr
  · rw [show orderF A.meet A.n.toNat = none from hN] at h
    obtain ⟨a, b, rfl⟩ := hi
    exact out_ret h
  · rw [show orderF A.meet A.n.toNat = some r from hr] at h
    exact out_ret h
theorem gi_map {l : List Int} {f : Int → Int} {z : Nat} (h : z < l.length) : gi (l.map f) z = f (gi l z) := by
  unfold gi
  rw [List.getD_eq_getElem?_getD, List.getD_eq_getElem?_getD, List.getElem?_map, Int.toNat_natCast, List.getElem?_eq_getElem h]
  rfl
theorem gi_get {l : List Int} {z : Nat} (h : z < l.length) : gi l z = l[z] := by
  unfold gi
  rw [List.getD_eq_getElem?_getD, Int.toNat_natCast, List.getElem?_eq_getElem h]
  rfl
theorem rows_ne {a b : List Int} {n : Nat} (ha : a.length = n) (hb : b.length = n) {f : Nat → D} (h : ff n (fun z => if gi a z ≠ gi b z then some (f z) else none) = none) : a = b := by
  refine List.ext_getElem (ha.trans hb.symm) fun z h1 h2 => ?_
  have q := ff_none_iff.mp h z (by omega)
  by_cases e : gi a z = gi b z
  · rw [gi_get h1, gi_get h2] at e
    exact e
  · rw [if_pos e] at q
    cases q
theorem p__group_fault (Z : Fc P K mg) (h : sp__group_fault K ds M Q X) : t__group_fault K (outD Q X) (startD N__group_fault ds) M := by
  obtain ⟨A, rfl, w, h⟩ := h
  have lo := w.lo
  have hi := w.hi
  have hn : (A.n.toNat : Int) = A.n := by omega
  simp only [t__group_fault, N__group_fault, wipeD, items_tup, items_lst, items_rng, tupleD, seqA_tup, seqA_lst, tSq, tIf', tTs, tO, tV, tK, tTr, truD, tNo, tAn, tOr', tAnV, tOrV', tNoV, tIfE, tN0, tCo, tTu, tLs, tCl, tFn, tMh, tRt, tRt0, tNx, tEx, tSe, tAs, gN, gS, gT, gsc, gs0, tU, i2, i2c, rNegD, intC, absD, minD, isD, eqi, eqs, eqb, nei, nes, neb, DL.rIsD, DL.rIsnD, rAddD, rMulD, tMe, tMe0, tBk, tCt, outD, EndsD.xk, startD, optP_some, List.map_cons, List.map_nil, List.length_cons, List.length_nil, List.cons_append, List.nil_append, List.append_nil, List.set_cons_zero, List.set_cons_succ, List.set_nil, List.getElem?_cons_zero, List.getElem?_cons_succ, List.replicate_succ, List.replicate_zero, Nat.zero_add, Nat.reduceAdd, Nat.reduceSub, decide_eq_true_eq, Bool.not_eq_true', decide_eq_false_iff_not, tFd, fl_alg, lk_meet, Z.f_meet, true_and]
  simp only [tFo, tIR1, wipeD, items_tup, items_lst, items_rng, tupleD, seqA_tup, seqA_lst, tSq, tIf', tTs, tO, tV, tK, tTr, truD, tNo, tAn, tOr', tAnV, tOrV', tNoV, tIfE, tN0, tCo, tTu, tLs, tCl, tFn, tMh, tRt, tRt0, tNx, tEx, tSe, tAs, gN, gS, gT, gsc, gs0, tU, i2, i2c, rNegD, intC, absD, minD, isD, eqi, eqs, eqb, nei, nes, neb, DL.rIsD, DL.rIsnD, rAddD, rMulD, tMe, tMe0, tBk, tCt, outD, EndsD.xk, startD, optP_some, List.map_cons, List.map_nil, List.length_cons, List.length_nil, List.cons_append, List.nil_append, List.append_nil, List.set_cons_zero, List.set_cons_succ, List.set_nil, List.getElem?_cons_zero, List.getElem?_cons_succ, List.replicate_succ, List.replicate_zero, Nat.zero_add, Nat.reduceAdd, Nat.reduceSub, decide_eq_true_eq, Bool.not_eq_true', decide_eq_false_iff_not, tFd, fl_alg, lk_size, Z.f_size, true_and]
  refine ⟨⟨by omega, by omega⟩, ?_⟩
  refine forGo_findR (inv := fun δ => ∃ a b c d e g, δ = [some (algD K A), some (.tup (rowsD A.meet)), a, b, c, d, e, g]) (f := fun x => ff A.n.toNat fun y => ff A.n.toNat fun z => if mt A.meet x (mt A.meet y z) ≠ mt A.meet (mt A.meet x y) z then some (.tup [.str "group", .int x, .int y, .int z]) else none) trivial (fun x hx δ hi R hN hR => ?_) (fun hN δ hi => ?_) (fun r hr => ?_) ⟨_, _, _, _, _, _, rfl⟩
  · obtain ⟨a, b, c, d, e, g, rfl⟩ := hi
    simp only [tFo, tIR1, wipeD, items_tup, items_lst, items_rng, tupleD, seqA_tup, seqA_lst, tSq, tIf', tTs, tO, tV, tK, tTr, truD, tNo, tAn, tOr', tAnV, tOrV', tNoV, tIfE, tN0, tCo, tTu, tLs, tCl, tFn, tMh, tRt, tRt0, tNx, tEx, tSe, tAs, gN, gS, gT, gsc, gs0, tU, i2, i2c, rNegD, intC, absD, minD, isD, eqi, eqs, eqb, nei, nes, neb, DL.rIsD, DL.rIsnD, rAddD, rMulD, tMe, tMe0, tBk, tCt, outD, EndsD.xk, startD, optP_some, List.map_cons, List.map_nil, List.length_cons, List.length_nil, List.cons_append, List.nil_append, List.append_nil, List.set_cons_zero, List.set_cons_succ, List.set_nil, List.getElem?_cons_zero, List.getElem?_cons_succ, List.replicate_succ, List.replicate_zero, Nat.zero_add, Nat.reduceAdd, Nat.reduceSub, decide_eq_true_eq, Bool.not_eq_true', decide_eq_false_iff_not, tFd, fl_alg, lk_size, Z.f_size, true_and]
    refine ⟨⟨by omega, by omega⟩, ?_⟩
    refine forGo_findR (inv := fun δ => ∃ b c d e g, δ = [some (algD K A), some (.tup (rowsD A.meet)), some (.int x), b, c, d, e, g]) trivial (fun y hy δ hi R' hN' hR' => ?_) (fun hN' δ hi => ?_) (fun r hr => ?_) ⟨_, _, _, _, _, rfl⟩ (f := fun y => ff A.n.toNat fun z => if mt A.meet x (mt A.meet y z) ≠ mt A.meet (mt A.meet x y) z then some (.tup [.str "group", .int x, .int y, .int z]) else none)
    · obtain ⟨b, c, d, e, g, rfl⟩ := hi
      have rx := w.rowAt (x := x) (by omega) (by omega)
      have ry := w.rowAt (x := y) (by omega) (by omega)
      have mxy := w.mt (x := x) (y := y) (by omega) (by omega) (by omega) (by omega)
      have rr := w.rowAt mxy.2.1 mxy.2.2
      have lx := rx.2.len
      have ly := ry.2.len
      have lr := rr.2.len
      simp only [wipeD, items_tup, items_lst, items_rng, tupleD, seqA_tup, seqA_lst, tSq, tIf', tTs, tO, tV, tK, tTr, truD, tNo, tAn, tOr', tAnV, tOrV', tNoV, tIfE, tN0, tCo, tTu, tLs, tCl, tFn, tMh, tRt, tRt0, tNx, tEx, tSe, tAs, gN, gS, gT, gsc, gs0, tU, i2, i2c, rNegD, intC, absD, minD, isD, eqi, eqs, eqb, nei, nes, neb, DL.rIsD, DL.rIsnD, rAddD, rMulD, tMe, tMe0, tBk, tCt, outD, EndsD.xk, startD, optP_some, List.map_cons, List.map_nil, List.length_cons, List.length_nil, List.cons_append, List.nil_append, List.append_nil, List.set_cons_zero, List.set_cons_succ, List.set_nil, List.getElem?_cons_zero, List.getElem?_cons_succ, List.replicate_succ, List.replicate_zero, Nat.zero_add, Nat.reduceAdd, Nat.reduceSub, decide_eq_true_eq, Bool.not_eq_true', decide_eq_false_iff_not, rIx_tup, ry.1]
      refine tLcF_ints (ns := gr A.meet y) (d0 := .tup (iL (gr A.meet y))) (f := fun i => .int (mt A.meet x i)) (fun Q' hQ => by simp only [wipeD, items_tup, items_lst, items_rng, tupleD, seqA_tup, seqA_lst, tSq, tIf', tTs, tO, tV, tK, tTr, truD, tNo, tAn, tOr', tAnV, tOrV', tNoV, tIfE, tN0, tCo, tTu, tLs, tCl, tFn, tMh, tRt, tRt0, tNx, tEx, tSe, tAs, gN, gS, gT, gsc, gs0, tU, i2, i2c, rNegD, intC, absD, minD, isD, eqi, eqs, eqb, nei, nes, neb, DL.rIsD, DL.rIsnD, rAddD, rMulD, tMe, tMe0, tBk, tCt, outD, EndsD.xk, startD, optP_some, List.map_cons, List.map_nil, List.length_cons, List.length_nil, List.cons_append, List.nil_append, List.append_nil, List.set_cons_zero, List.set_cons_succ, List.set_nil, List.getElem?_cons_zero, List.getElem?_cons_succ, List.replicate_succ, List.replicate_zero, Nat.zero_add, Nat.reduceAdd, Nat.reduceSub, decide_eq_true_eq, Bool.not_eq_true', decide_eq_false_iff_not, rIx_tup, ry.1]; exact hQ) rfl (by rw [sizeLine_eq]; omega) (fun i hi p c hp Q' hQ => ?_) ?_
      · obtain ⟨k, hk, rfl⟩ := List.mem_iff_getElem.mp hi
        have bi := ry.2.rg k (by omega) (by omega)
        rw [gi_get hk] at bi
        have mi := w.mt (x := x) (by omega) (by omega) bi.1 bi.2
        simp only [wipeD, items_tup, items_lst, items_rng, tupleD, seqA_tup, seqA_lst, tSq, tIf', tTs, tO, tV, tK, tTr, truD, tNo, tAn, tOr', tAnV, tOrV', tNoV, tIfE, tN0, tCo, tTu, tLs, tCl, tFn, tMh, tRt, tRt0, tNx, tEx, tSe, tAs, gN, gS, gT, gsc, gs0, tU, i2, i2c, rNegD, intC, absD, minD, isD, eqi, eqs, eqb, nei, nes, neb, DL.rIsD, DL.rIsnD, rAddD, rMulD, tMe, tMe0, tBk, tCt, outD, EndsD.xk, startD, optP_some, List.map_cons, List.map_nil, List.length_cons, List.length_nil, List.cons_append, List.nil_append, List.append_nil, List.set_cons_zero, List.set_cons_succ, List.set_nil, List.getElem?_cons_zero, List.getElem?_cons_succ, List.replicate_succ, List.replicate_zero, Nat.zero_add, Nat.reduceAdd, Nat.reduceSub, decide_eq_true_eq, Bool.not_eq_true', decide_eq_false_iff_not, rIx_tup, rx.1, mi.1]
        exact hQ
      · have e1 : ((gr A.meet y).map fun i => D.int (mt A.meet x i)) = iL ((gr A.meet y).map (mt A.meet x)) := by
          unfold iL
          rw [List.map_map]
          rfl
        rw [e1]
        simp only [wipeD, items_tup, items_lst, items_rng, tupleD, seqA_tup, seqA_lst, tSq, tIf', tTs, tO, tV, tK, tTr, truD, tNo, tAn, tOr', tAnV, tOrV', tNoV, tIfE, tN0, tCo, tTu, tLs, tCl, tFn, tMh, tRt, tRt0, tNx, tEx, tSe, tAs, gN, gS, gT, gsc, gs0, tU, i2, i2c, rNegD, intC, absD, minD, isD, eqi, eqs, eqb, nei, nes, neb, DL.rIsD, DL.rIsnD, rAddD, rMulD, tMe, tMe0, tBk, tCt, outD, EndsD.xk, startD, optP_some, List.map_cons, List.map_nil, List.length_cons, List.length_nil, List.cons_append, List.nil_append, List.append_nil, List.set_cons_zero, List.set_cons_succ, List.set_nil, List.getElem?_cons_zero, List.getElem?_cons_succ, List.replicate_succ, List.replicate_zero, Nat.zero_add, Nat.reduceAdd, Nat.reduceSub, decide_eq_true_eq, Bool.not_eq_true', decide_eq_false_iff_not, rIx_tup, rx.1, mxy.1, rr.1]
        refine ne_tup ?_
        simp only [wipeD, items_tup, items_lst, items_rng, tupleD, seqA_tup, seqA_lst, tSq, tIf', tTs, tO, tV, tK, tTr, truD, tNo, tAn, tOr', tAnV, tOrV', tNoV, tIfE, tN0, tCo, tTu, tLs, tCl, tFn, tMh, tRt, tRt0, tNx, tEx, tSe, tAs, gN, gS, gT, gsc, gs0, tU, i2, i2c, rNegD, intC, absD, minD, isD, eqi, eqs, eqb, nei, nes, neb, DL.rIsD, DL.rIsnD, rAddD, rMulD, tMe, tMe0, tBk, tCt, outD, EndsD.xk, startD, optP_some, List.map_cons, List.map_nil, List.length_cons, List.length_nil, List.cons_append, List.nil_append, List.append_nil, List.set_cons_zero, List.set_cons_succ, List.set_nil, List.getElem?_cons_zero, List.getElem?_cons_succ, List.replicate_succ, List.replicate_zero, Nat.zero_add, Nat.reduceAdd, Nat.reduceSub, decide_eq_true_eq, Bool.not_eq_true', decide_eq_false_iff_not]
        have la : ((gr A.meet y).map (mt A.meet x)).length = A.n.toNat := by rw [List.length_map]; omega
        have key : ∀ z : Nat, z < A.n.toNat → gi ((gr A.meet y).map (mt A.meet x)) z = mt A.meet x (mt A.meet y z) := fun z hz => gi_map (by omega)
        have fe : (ff A.n.toNat fun z => if mt A.meet x (mt A.meet y z) ≠ mt A.meet (mt A.meet x y) z then some (D.tup [.str "group", .int x, .int y, .int z]) else none) = ff A.n.toNat fun z => if gi ((gr A.meet y).map (mt A.meet x)) z ≠ gi (gr A.meet (mt A.meet x y)) z then some (D.tup [.str "group", .int x, .int y, .int z]) else none :=
          ff_congr fun z hz => by rw [key z hz]; rfl
        rw [fe] at hN' hR'
        split
        · rename_i q
          cases e2 : (ff A.n.toNat fun z => if gi ((gr A.meet y).map (mt A.meet x)) z ≠ gi (gr A.meet (mt A.meet x y)) z then some (D.tup [.str "group", .int x, .int y, .int z]) else none) with
          | none => exact absurd (rows_ne la (by omega) e2) q
          | some r =>
            obtain ⟨k, hk, hf, hb⟩ := ff_some e2
            have hf' : gi ((gr A.meet y).map (mt A.meet x)) k ≠ gi (gr A.meet (mt A.meet x y)) k ∧ r = .tup [.str "group", .int x, .int y, .int k] := by
              split at hf
              · rename_i c1
                cases hf
                exact ⟨c1, rfl⟩
              · cases hf
            refine ⟨fun m δ N => N = M ∧ ∃ z : Nat, δ = [some (algD K A), some (.tup (rowsD A.meet)), some (.int x), some (.int y), some (.tup (iL ((gr A.meet y).map (mt A.meet x)))), d, some (.tup (iL (gr A.meet (mt A.meet x y)))), some (.int z)] ∧ z ≤ k ∧ m = k - z, ⟨k, rfl, 0, rfl, by omega, rfl⟩, ?_⟩
            rintro m δ N ⟨rfl, z, rfl, hz, rfl⟩
            have h1 : atI (iL ((gr A.meet y).map (mt A.meet x))) z = some (.int (gi ((gr A.meet y).map (mt A.meet x)) z)) := atI_iL (by omega) (by omega)
            have h2 : atI (iL (gr A.meet (mt A.meet x y))) z = some (.int (gi (gr A.meet (mt A.meet x y)) z)) := atI_iL (by omega) (by omega)
            simp only [wipeD, items_tup, items_lst, items_rng, tupleD, seqA_tup, seqA_lst, tSq, tIf', tTs, tO, tV, tK, tTr, truD, tNo, tAn, tOr', tAnV, tOrV', tNoV, tIfE, tN0, tCo, tTu, tLs, tCl, tFn, tMh, tRt, tRt0, tNx, tEx, tSe, tAs, gN, gS, gT, gsc, gs0, tU, i2, i2c, rNegD, intC, absD, minD, isD, eqi, eqs, eqb, nei, nes, neb, DL.rIsD, DL.rIsnD, rAddD, rMulD, tMe, tMe0, tBk, tCt, outD, EndsD.xk, startD, optP_some, List.map_cons, List.map_nil, List.length_cons, List.length_nil, List.cons_append, List.nil_append, List.append_nil, List.set_cons_zero, List.set_cons_succ, List.set_nil, List.getElem?_cons_zero, List.getElem?_cons_succ, List.replicate_succ, List.replicate_zero, Nat.zero_add, Nat.reduceAdd, Nat.reduceSub, decide_eq_true_eq, Bool.not_eq_true', decide_eq_false_iff_not, rIx_tup, h1, h2]
            split
            · rename_i c1
              have hne : z ≠ k := fun e => hf'.1 (e ▸ c1)
              exact ⟨k - (z + 1), by omega, trivial, z + 1, rfl, by omega, rfl⟩
            · rename_i c1
              have hzk : z = k := by
                by_cases q2 : z < k
                · have := hb z q2
                  rw [if_pos c1] at this
                  cases this
                · omega
              subst hzk
              rw [← hf'.2]
              exact ⟨by rw [sizeLine_eq]; decide, hR' _ e2⟩
        · rename_i q
          have q := Decidable.not_not.mp q
          refine hN' (ff_none fun z hz => if_neg fun c => c (by rw [q])) _ ⟨_, _, _, _, _, rfl⟩
    · obtain ⟨b, c, d, e, g, rfl⟩ := hi
      exact hN hN' _ ⟨_, _, _, _, _, _, rfl⟩
    · exact hR r hr
  · rw [show groupF A.meet A.n.toNat = none from hN] at h
    obtain ⟨a, b, c, d, e, g, rfl⟩ := hi
    exact out_ret h
  · rw [show groupF A.meet A.n.toNat = some r from hr] at h
    exact out_ret h
end K63
namespace K63
open PySem PySem.Spec PyProof.Rows L2 DL
variable [B : Obs] {K : PySem.W.Frag} {mg : Str → Option Value} {P : Program} {ds : List D} {M : Md} {Q : VD} {X : XD}
theorem p__rest_fault (Z : Fc P K mg) (h : sp__rest_fault K ds M Q X) : t__rest_fault K (outD Q X) (startD N__rest_fault ds) M := by
  obtain ⟨A, rfl, w, h⟩ := h
  have lo := w.lo
  have hi := w.hi
  have hn : (A.n.toNat : Int) = A.n := by omega
  simp only [t__rest_fault, N__rest_fault, wipeD, items_tup, items_lst, items_rng, tupleD, seqA_tup, seqA_lst, tSq, tIf', tTs, tO, tV, tK, tTr, truD, tNo, tAn, tOr', tAnV, tOrV', tNoV, tIfE, tN0, tCo, tTu, tLs, tCl, tFn, tMh, tRt, tRt0, tNx, tEx, tSe, tAs, gN, gS, gT, gsc, gs0, tU, i2, i2c, rNegD, intC, absD, minD, isD, eqi, eqs, eqb, nei, nes, neb, DL.rIsD, DL.rIsnD, rAddD, rMulD, tMe, tMe0, tBk, tCt, outD, EndsD.xk, startD, optP_some, List.map_cons, List.map_nil, List.length_cons, List.length_nil, List.cons_append, List.nil_append, List.append_nil, List.set_cons_zero, List.set_cons_succ, List.set_nil, List.getElem?_cons_zero, List.getElem?_cons_succ, List.replicate_succ, List.replicate_zero, Nat.zero_add, Nat.reduceAdd, Nat.reduceSub, decide_eq_true_eq, Bool.not_eq_true', decide_eq_false_iff_not, tFd, fl_alg, lk_meet, lk_rest, Z.f_meet, Z.f_rest, true_and, objD]
  refine ⟨⟨_, rfl, rfl⟩, A, rfl, w, ?_⟩
  simp only [tFo, tIR1, wipeD, items_tup, items_lst, items_rng, tupleD, seqA_tup, seqA_lst, tSq, tIf', tTs, tO, tV, tK, tTr, truD, tNo, tAn, tOr', tAnV, tOrV', tNoV, tIfE, tN0, tCo, tTu, tLs, tCl, tFn, tMh, tRt, tRt0, tNx, tEx, tSe, tAs, gN, gS, gT, gsc, gs0, tU, i2, i2c, rNegD, intC, absD, minD, isD, eqi, eqs, eqb, nei, nes, neb, DL.rIsD, DL.rIsnD, rAddD, rMulD, tMe, tMe0, tBk, tCt, outD, EndsD.xk, startD, optP_some, List.map_cons, List.map_nil, List.length_cons, List.length_nil, List.cons_append, List.nil_append, List.append_nil, List.set_cons_zero, List.set_cons_succ, List.set_nil, List.getElem?_cons_zero, List.getElem?_cons_succ, List.replicate_succ, List.replicate_zero, Nat.zero_add, Nat.reduceAdd, Nat.reduceSub, decide_eq_true_eq, Bool.not_eq_true', decide_eq_false_iff_not, tFd, fl_alg, lk_size, Z.f_size, true_and]
  refine ⟨⟨by omega, by omega⟩, ?_⟩
  refine forGo_findR (inv := fun δ => ∃ a b c d, δ = [some (algD K A), some (.tup (rowsD A.meet)), some (.tup (iL A.rest)), some (.int (zeroV A)), a, b, c, d]) (f := fun x => if mt A.meet x (gi A.rest x) ≠ mt A.meet 0 (gi A.rest 0) then some (.tup [.str "zero", .int x]) else none) trivial (fun x hx δ hi R hN hR => ?_) (fun hN δ hi => ?_) (fun r hr => ?_) ⟨_, _, _, _, rfl⟩
  · obtain ⟨a, b, c, d, rfl⟩ := hi
    have rx := w.r.rg x (by omega) (by omega)
    simp only [wipeD, items_tup, items_lst, items_rng, tupleD, seqA_tup, seqA_lst, tSq, tIf', tTs, tO, tV, tK, tTr, truD, tNo, tAn, tOr', tAnV, tOrV', tNoV, tIfE, tN0, tCo, tTu, tLs, tCl, tFn, tMh, tRt, tRt0, tNx, tEx, tSe, tAs, gN, gS, gT, gsc, gs0, tU, i2, i2c, rNegD, intC, absD, minD, isD, eqi, eqs, eqb, nei, nes, neb, DL.rIsD, DL.rIsnD, rAddD, rMulD, tMe, tMe0, tBk, tCt, outD, EndsD.xk, startD, optP_some, List.map_cons, List.map_nil, List.length_cons, List.length_nil, List.cons_append, List.nil_append, List.append_nil, List.set_cons_zero, List.set_cons_succ, List.set_nil, List.getElem?_cons_zero, List.getElem?_cons_succ, List.replicate_succ, List.replicate_zero, Nat.zero_add, Nat.reduceAdd, Nat.reduceSub, decide_eq_true_eq, Bool.not_eq_true', decide_eq_false_iff_not, rIx_tup, (w.rowAt (x := x) (by omega) (by omega)).1, w.r.at (x := x) (by omega) (by omega), (w.mt (x := x) (by omega) (by omega) rx.1 rx.2).1]
    split
    · rename_i q
      exact ⟨by rw [sizeLine_eq]; decide, hR _ (if_pos q)⟩
    · rename_i q
      exact hN (if_neg q) _ ⟨_, _, _, _, rfl⟩
  · obtain ⟨a, b, c, d, rfl⟩ := hi
    rw [show zeroF A.meet A.rest A.n.toNat = none from hN] at h
    have h : Q (orN (restF A.meet A.rest A.n.toNat) .non) M := h
    simp only [tFo, tIR1, wipeD, items_tup, items_lst, items_rng, tupleD, seqA_tup, seqA_lst, tSq, tIf', tTs, tO, tV, tK, tTr, truD, tNo, tAn, tOr', tAnV, tOrV', tNoV, tIfE, tN0, tCo, tTu, tLs, tCl, tFn, tMh, tRt, tRt0, tNx, tEx, tSe, tAs, gN, gS, gT, gsc, gs0, tU, i2, i2c, rNegD, intC, absD, minD, isD, eqi, eqs, eqb, nei, nes, neb, DL.rIsD, DL.rIsnD, rAddD, rMulD, tMe, tMe0, tBk, tCt, outD, EndsD.xk, startD, optP_some, List.map_cons, List.map_nil, List.length_cons, List.length_nil, List.cons_append, List.nil_append, List.append_nil, List.set_cons_zero, List.set_cons_succ, List.set_nil, List.getElem?_cons_zero, List.getElem?_cons_succ, List.replicate_succ, List.replicate_zero, Nat.zero_add, Nat.reduceAdd, Nat.reduceSub, decide_eq_true_eq, Bool.not_eq_true', decide_eq_false_iff_not, tFd, fl_alg, lk_size, Z.f_size, true_and]
    refine ⟨⟨by omega, by omega⟩, ?_⟩
    refine forGo_findR (inv := fun δ => ∃ a b c d, δ = [some (algD K A), some (.tup (rowsD A.meet)), some (.tup (iL A.rest)), some (.int (zeroV A)), a, b, c, d]) (f := fun x => ff A.n.toNat fun y => if decide (mt A.meet x (gi A.rest y) = mt A.meet 0 (gi A.rest 0)) ≠ decide (mt A.meet x y = x) then some (.tup [.str "rest", .int x, .int y]) else none) trivial (fun x hx δ hi R hN hR => ?_) (fun hN δ hi => ?_) (fun r hr => ?_) ⟨_, _, _, _, rfl⟩
    · obtain ⟨a, b, c, d, rfl⟩ := hi
      simp only [tFo, tIR1, wipeD, items_tup, items_lst, items_rng, tupleD, seqA_tup, seqA_lst, tSq, tIf', tTs, tO, tV, tK, tTr, truD, tNo, tAn, tOr', tAnV, tOrV', tNoV, tIfE, tN0, tCo, tTu, tLs, tCl, tFn, tMh, tRt, tRt0, tNx, tEx, tSe, tAs, gN, gS, gT, gsc, gs0, tU, i2, i2c, rNegD, intC, absD, minD, isD, eqi, eqs, eqb, nei, nes, neb, DL.rIsD, DL.rIsnD, rAddD, rMulD, tMe, tMe0, tBk, tCt, outD, EndsD.xk, startD, optP_some, List.map_cons, List.map_nil, List.length_cons, List.length_nil, List.cons_append, List.nil_append, List.append_nil, List.set_cons_zero, List.set_cons_succ, List.set_nil, List.getElem?_cons_zero, List.getElem?_cons_succ, List.replicate_succ, List.replicate_zero, Nat.zero_add, Nat.reduceAdd, Nat.reduceSub, decide_eq_true_eq, Bool.not_eq_true', decide_eq_false_iff_not, tFd, fl_alg, lk_size, Z.f_size, true_and]
      refine ⟨⟨by omega, by omega⟩, ?_⟩
      refine forGo_findR (inv := fun δ => ∃ b c d, δ = [some (algD K A), some (.tup (rowsD A.meet)), some (.tup (iL A.rest)), some (.int (zeroV A)), some (.int x), b, c, d]) (f := fun y => if decide (mt A.meet x (gi A.rest y) = mt A.meet 0 (gi A.rest 0)) ≠ decide (mt A.meet x y = x) then some (.tup [.str "rest", .int x, .int y]) else none) trivial (fun y hy δ hi R' hN' hR' => ?_) (fun hN' δ hi => ?_) (fun r hr => ?_) ⟨_, _, _, rfl⟩
      · obtain ⟨b, c, d, rfl⟩ := hi
        have ry := w.r.rg y (by omega) (by omega)
        simp only [wipeD, items_tup, items_lst, items_rng, tupleD, seqA_tup, seqA_lst, tSq, tIf', tTs, tO, tV, tK, tTr, truD, tNo, tAn, tOr', tAnV, tOrV', tNoV, tIfE, tN0, tCo, tTu, tLs, tCl, tFn, tMh, tRt, tRt0, tNx, tEx, tSe, tAs, gN, gS, gT, gsc, gs0, tU, i2, i2c, rNegD, intC, absD, minD, isD, eqi, eqs, eqb, nei, nes, neb, DL.rIsD, DL.rIsnD, rAddD, rMulD, tMe, tMe0, tBk, tCt, outD, EndsD.xk, startD, optP_some, List.map_cons, List.map_nil, List.length_cons, List.length_nil, List.cons_append, List.nil_append, List.append_nil, List.set_cons_zero, List.set_cons_succ, List.set_nil, List.getElem?_cons_zero, List.getElem?_cons_succ, List.replicate_succ, List.replicate_zero, Nat.zero_add, Nat.reduceAdd, Nat.reduceSub, decide_eq_true_eq, Bool.not_eq_true', decide_eq_false_iff_not, rIx_tup, (w.rowAt (x := x) (by omega) (by omega)).1, w.r.at (x := y) (by omega) (by omega), (w.mt (x := x) (by omega) (by omega) ry.1 ry.2).1, (w.mt (x := x) (y := y) (by omega) (by omega) (by omega) (by omega)).1]
        split
        · rename_i q
          exact ⟨by rw [sizeLine_eq]; decide, hR' _ (if_pos q)⟩
        · rename_i q
          exact hN' (if_neg q) _ ⟨_, _, _, rfl⟩
      · obtain ⟨b, c, d, rfl⟩ := hi
        exact hN hN' _ ⟨_, _, _, _, rfl⟩
      · exact hR r hr
    · rw [show restF A.meet A.rest A.n.toNat = none from hN] at h
      obtain ⟨a, b, c, d, rfl⟩ := hi
      exact out_ret h
    · rw [show restF A.meet A.rest A.n.toNat = some r from hr] at h
      exact out_ret h
  · rw [show zeroF A.meet A.rest A.n.toNat = some r from hr] at h
    exact out_ret h
theorem ff_P {n : Nat} {f : Nat → Option D} {r : D} {P : D → Prop} (h : ff n f = some r) (hp : ∀ k r, f k = some r → P r) : P r := by
  obtain ⟨k, _, e, _⟩ := ff_some h
  exact hp k r e
theorem if_P {c : Prop} [Decidable c] {d r : D} {P : D → Prop} (h : (if c then some d else none) = some r) (hp : P d) : P r := by
  split at h
  · cases h
    exact hp
  · cases h
theorem find_P {α : Type} {l : List α} {f : α → Option D} {r : D} {P : D → Prop} (h : l.findSome? f = some r) (hp : ∀ k r, f k = some r → P r) : P r := by
  obtain ⟨k, _, e⟩ := List.exists_of_findSome?_eq_some h
  exact hp k r e
abbrev isT (r : D) : Prop := isNon r = false
theorem orderT {m n r} (h : orderF m n = some r) : isT r := ff_P h fun _ _ h => ff_P h fun _ _ h => if_P h rfl
theorem groupT {m n r} (h : groupF m n = some r) : isT r := ff_P h fun _ _ h => ff_P h fun _ _ h => ff_P h fun _ _ h => if_P h rfl
theorem zeroT {m q n r} (h : zeroF m q n = some r) : isT r := ff_P h fun _ _ h => if_P h rfl
theorem restT {m q n r} (h : restF m q n = some r) : isT r := ff_P h fun _ _ h => ff_P h fun _ _ h => if_P h rfl
theorem noneT {A r} (h : noneF A = some r) : isT r := find_P h fun _ _ h => if_P h rfl
theorem joinT {A r} (h : joinF A = some r) : isT r := find_P h fun _ _ h => ff_P h fun _ _ h => ff_P h fun _ _ h => if_P h rfl
theorem or_T {o : Option D} {d : D} (ho : ∀ r, o = some r → isT r) : (isNon (orN o .non) = true ∧ orN o d = d ∧ orN o .non = .non) ∨ (isNon (orN o .non) = false ∧ orN o d = orN o .non) := by
  cases o with
  | none => exact .inl ⟨rfl, rfl, rfl⟩
  | some r => exact .inr ⟨ho r rfl, rfl⟩
theorem p_algebra_fault (Z : Fc P K mg) (h : sp_algebra_fault K ds M Q X) : t_algebra_fault K (outD Q X) (startD N_algebra_fault ds) M := by
  obtain ⟨A, rfl, w, h⟩ := h
  simp only [t_algebra_fault, N_algebra_fault, wipeD, items_tup, items_lst, items_rng, tupleD, seqA_tup, seqA_lst, tSq, tIf', tTs, tO, tV, tK, tTr, truD, tNo, tAn, tOr', tAnV, tOrV', tNoV, tIfE, tN0, tCo, tTu, tLs, tCl, tFn, tMh, tRt, tRt0, tNx, tEx, tSe, tAs, gN, gS, gT, gsc, gs0, tU, i2, i2c, rNegD, intC, absD, minD, isD, eqi, eqs, eqb, nei, nes, neb, DL.rIsD, DL.rIsnD, rAddD, rMulD, tMe, tMe0, tBk, tCt, outD, EndsD.xk, startD, optP_some, List.map_cons, List.map_nil, List.length_cons, List.length_nil, List.cons_append, List.nil_append, List.append_nil, List.set_cons_zero, List.set_cons_succ, List.set_nil, List.getElem?_cons_zero, List.getElem?_cons_succ, List.replicate_succ, List.replicate_zero, Nat.zero_add, Nat.reduceAdd, Nat.reduceSub, decide_eq_true_eq, Bool.not_eq_true', decide_eq_false_iff_not]
  refine ⟨A, rfl, w, ?_⟩
  unfold faultV at h
  rcases or_T (d := orN (groupF A.meet A.n.toNat) (orN (zeroF A.meet A.rest A.n.toNat) (orN (restF A.meet A.rest A.n.toNat) (orN (noneF A) (orN (joinF A) .non))))) fun r e => orderT e with ⟨e1, e2, e3⟩ | ⟨e1, e2⟩
  · rw [e2] at h
    simp only [e1, if_true, wipeD, items_tup, items_lst, items_rng, tupleD, seqA_tup, seqA_lst, tSq, tIf', tTs, tO, tV, tK, tTr, truD, tNo, tAn, tOr', tAnV, tOrV', tNoV, tIfE, tN0, tCo, tTu, tLs, tCl, tFn, tMh, tRt, tRt0, tNx, tEx, tSe, tAs, gN, gS, gT, gsc, gs0, tU, i2, i2c, rNegD, intC, absD, minD, isD, eqi, eqs, eqb, nei, nes, neb, DL.rIsD, DL.rIsnD, rAddD, rMulD, tMe, tMe0, tBk, tCt, outD, EndsD.xk, startD, optP_some, List.map_cons, List.map_nil, List.length_cons, List.length_nil, List.cons_append, List.nil_append, List.append_nil, List.set_cons_zero, List.set_cons_succ, List.set_nil, List.getElem?_cons_zero, List.getElem?_cons_succ, List.replicate_succ, List.replicate_zero, Nat.zero_add, Nat.reduceAdd, Nat.reduceSub, decide_eq_true_eq, Bool.not_eq_true', decide_eq_false_iff_not]
    refine ⟨A, rfl, w, ?_⟩
    rcases or_T (d := orN (zeroF A.meet A.rest A.n.toNat) (orN (restF A.meet A.rest A.n.toNat) (orN (noneF A) (orN (joinF A) .non)))) fun r e => groupT e with ⟨e1, e2, e3⟩ | ⟨e1, e2⟩
    · rw [e2] at h
      simp only [e1, if_true, wipeD, items_tup, items_lst, items_rng, tupleD, seqA_tup, seqA_lst, tSq, tIf', tTs, tO, tV, tK, tTr, truD, tNo, tAn, tOr', tAnV, tOrV', tNoV, tIfE, tN0, tCo, tTu, tLs, tCl, tFn, tMh, tRt, tRt0, tNx, tEx, tSe, tAs, gN, gS, gT, gsc, gs0, tU, i2, i2c, rNegD, intC, absD, minD, isD, eqi, eqs, eqb, nei, nes, neb, DL.rIsD, DL.rIsnD, rAddD, rMulD, tMe, tMe0, tBk, tCt, outD, EndsD.xk, startD, optP_some, List.map_cons, List.map_nil, List.length_cons, List.length_nil, List.cons_append, List.nil_append, List.append_nil, List.set_cons_zero, List.set_cons_succ, List.set_nil, List.getElem?_cons_zero, List.getElem?_cons_succ, List.replicate_succ, List.replicate_zero, Nat.zero_add, Nat.reduceAdd, Nat.reduceSub, decide_eq_true_eq, Bool.not_eq_true', decide_eq_false_iff_not]
      refine ⟨A, rfl, w, ?_⟩
      have tt : ∀ r, (zeroF A.meet A.rest A.n.toNat).or (restF A.meet A.rest A.n.toNat) = some r → isT r := fun r e => by
        cases q : zeroF A.meet A.rest A.n.toNat with
        | none =>
          rw [q] at e
          exact restT e
        | some z =>
          rw [q] at e
          cases e
          exact zeroT q
      have oo : ∀ d, orN (zeroF A.meet A.rest A.n.toNat) (orN (restF A.meet A.rest A.n.toNat) d) = orN ((zeroF A.meet A.rest A.n.toNat).or (restF A.meet A.rest A.n.toNat)) d := fun d => by
        cases zeroF A.meet A.rest A.n.toNat <;> rfl
      rw [oo] at h ⊢
      rcases or_T (d := orN (noneF A) (orN (joinF A) .non)) tt with ⟨e1, e2, e3⟩ | ⟨e1, e2⟩
      · rw [e2] at h
        simp only [e1, if_true, wipeD, items_tup, items_lst, items_rng, tupleD, seqA_tup, seqA_lst, tSq, tIf', tTs, tO, tV, tK, tTr, truD, tNo, tAn, tOr', tAnV, tOrV', tNoV, tIfE, tN0, tCo, tTu, tLs, tCl, tFn, tMh, tRt, tRt0, tNx, tEx, tSe, tAs, gN, gS, gT, gsc, gs0, tU, i2, i2c, rNegD, intC, absD, minD, isD, eqi, eqs, eqb, nei, nes, neb, DL.rIsD, DL.rIsnD, rAddD, rMulD, tMe, tMe0, tBk, tCt, outD, EndsD.xk, startD, optP_some, List.map_cons, List.map_nil, List.length_cons, List.length_nil, List.cons_append, List.nil_append, List.append_nil, List.set_cons_zero, List.set_cons_succ, List.set_nil, List.getElem?_cons_zero, List.getElem?_cons_succ, List.replicate_succ, List.replicate_zero, Nat.zero_add, Nat.reduceAdd, Nat.reduceSub, decide_eq_true_eq, Bool.not_eq_true', decide_eq_false_iff_not]
        exact ⟨A, rfl, w, out_ret h⟩
      · rw [e2] at h
        simp only [e1, if_false, Bool.false_eq_true, wipeD, items_tup, items_lst, items_rng, tupleD, seqA_tup, seqA_lst, tSq, tIf', tTs, tO, tV, tK, tTr, truD, tNo, tAn, tOr', tAnV, tOrV', tNoV, tIfE, tN0, tCo, tTu, tLs, tCl, tFn, tMh, tRt, tRt0, tNx, tEx, tSe, tAs, gN, gS, gT, gsc, gs0, tU, i2, i2c, rNegD, intC, absD, minD, isD, eqi, eqs, eqb, nei, nes, neb, DL.rIsD, DL.rIsnD, rAddD, rMulD, tMe, tMe0, tBk, tCt, outD, EndsD.xk, startD, optP_some, List.map_cons, List.map_nil, List.length_cons, List.length_nil, List.cons_append, List.nil_append, List.append_nil, List.set_cons_zero, List.set_cons_succ, List.set_nil, List.getElem?_cons_zero, List.getElem?_cons_succ, List.replicate_succ, List.replicate_zero, Nat.zero_add, Nat.reduceAdd, Nat.reduceSub, decide_eq_true_eq, Bool.not_eq_true', decide_eq_false_iff_not]
        exact out_ret h
    · rw [e2] at h
      simp only [e1, if_false, Bool.false_eq_true, wipeD, items_tup, items_lst, items_rng, tupleD, seqA_tup, seqA_lst, tSq, tIf', tTs, tO, tV, tK, tTr, truD, tNo, tAn, tOr', tAnV, tOrV', tNoV, tIfE, tN0, tCo, tTu, tLs, tCl, tFn, tMh, tRt, tRt0, tNx, tEx, tSe, tAs, gN, gS, gT, gsc, gs0, tU, i2, i2c, rNegD, intC, absD, minD, isD, eqi, eqs, eqb, nei, nes, neb, DL.rIsD, DL.rIsnD, rAddD, rMulD, tMe, tMe0, tBk, tCt, outD, EndsD.xk, startD, optP_some, List.map_cons, List.map_nil, List.length_cons, List.length_nil, List.cons_append, List.nil_append, List.append_nil, List.set_cons_zero, List.set_cons_succ, List.set_nil, List.getElem?_cons_zero, List.getElem?_cons_succ, List.replicate_succ, List.replicate_zero, Nat.zero_add, Nat.reduceAdd, Nat.reduceSub, decide_eq_true_eq, Bool.not_eq_true', decide_eq_false_iff_not]
      exact out_ret h
  · rw [e2] at h
    simp only [e1, if_false, Bool.false_eq_true, wipeD, items_tup, items_lst, items_rng, tupleD, seqA_tup, seqA_lst, tSq, tIf', tTs, tO, tV, tK, tTr, truD, tNo, tAn, tOr', tAnV, tOrV', tNoV, tIfE, tN0, tCo, tTu, tLs, tCl, tFn, tMh, tRt, tRt0, tNx, tEx, tSe, tAs, gN, gS, gT, gsc, gs0, tU, i2, i2c, rNegD, intC, absD, minD, isD, eqi, eqs, eqb, nei, nes, neb, DL.rIsD, DL.rIsnD, rAddD, rMulD, tMe, tMe0, tBk, tCt, outD, EndsD.xk, startD, optP_some, List.map_cons, List.map_nil, List.length_cons, List.length_nil, List.cons_append, List.nil_append, List.append_nil, List.set_cons_zero, List.set_cons_succ, List.set_nil, List.getElem?_cons_zero, List.getElem?_cons_succ, List.replicate_succ, List.replicate_zero, Nat.zero_add, Nat.reduceAdd, Nat.reduceSub, decide_eq_true_eq, Bool.not_eq_true', decide_eq_false_iff_not]
    exact out_ret h
theorem p__is_square (h : sp__is_square K ds M Q X) : t__is_square K (outD Q X) (startD N__is_square ds) M := by
  obtain ⟨d, xs, nss, n, rfl, hs, hp, h⟩ := h
  have hl := hp.length
  simp only [t__is_square, N__is_square, wipeD, items_tup, items_lst, items_rng, tupleD, seqA_tup, seqA_lst, tSq, tIf', tTs, tO, tV, tK, tTr, truD, tNo, tAn, tOr', tAnV, tOrV', tNoV, tIfE, tN0, tCo, tTu, tLs, tCl, tFn, tMh, tRt, tRt0, tNx, tEx, tSe, tAs, gN, gS, gT, gsc, gs0, tU, i2, i2c, rNegD, intC, absD, minD, isD, eqi, eqs, eqb, nei, nes, neb, DL.rIsD, DL.rIsnD, rAddD, rMulD, tMe, tMe0, tBk, tCt, outD, EndsD.xk, startD, optP_some, List.map_cons, List.map_nil, List.length_cons, List.length_nil, List.cons_append, List.nil_append, List.append_nil, List.set_cons_zero, List.set_cons_succ, List.set_nil, List.getElem?_cons_zero, List.getElem?_cons_succ, List.replicate_succ, List.replicate_zero, Nat.zero_add, Nat.reduceAdd, Nat.reduceSub, decide_eq_true_eq, Bool.not_eq_true', decide_eq_false_iff_not, len_eq hs]
  split
  · rename_i e
    rw [hl] at e
    rw [decide_eq_false e, Bool.false_and] at h
    exact out_ret h
  · rename_i e
    have e := Decidable.not_not.mp e
    rw [hl] at e
    rw [decide_eq_true e, Bool.true_and] at h
    simp only [tFo, tIS, wipeD, items_tup, items_lst, items_rng, tupleD, seqA_tup, seqA_lst, tSq, tIf', tTs, tO, tV, tK, tTr, truD, tNo, tAn, tOr', tAnV, tOrV', tNoV, tIfE, tN0, tCo, tTu, tLs, tCl, tFn, tMh, tRt, tRt0, tNx, tEx, tSe, tAs, gN, gS, gT, gsc, gs0, tU, i2, i2c, rNegD, intC, absD, minD, isD, eqi, eqs, eqb, nei, nes, neb, DL.rIsD, DL.rIsnD, rAddD, rMulD, tMe, tMe0, tBk, tCt, outD, EndsD.xk, startD, optP_some, List.map_cons, List.map_nil, List.length_cons, List.length_nil, List.cons_append, List.nil_append, List.append_nil, List.set_cons_zero, List.set_cons_succ, List.set_nil, List.getElem?_cons_zero, List.getElem?_cons_succ, List.replicate_succ, List.replicate_zero, Nat.zero_add, Nat.reduceAdd, Nat.reduceSub, decide_eq_true_eq, Bool.not_eq_true', decide_eq_false_iff_not, items_eq hs]
    refine forGo_find (inv := fun δ => ∃ a, δ = [some d, some (.int n), a]) (f := fun k => if rowB (nss.getD k []) n = false then some (.bl false) else none) hs (fun k hk δ hi R hn hr => ?_) (fun hn δ hi => ?_) (fun r hr => ?_) ⟨_, rfl⟩
    · obtain ⟨a, rfl⟩ := hi
      have hk' : k < nss.length := by omega
      have gd : nss.getD k [] = nss[k] := by rw [List.getD_eq_getElem?_getD, List.getElem?_eq_getElem hk']; rfl
      rw [gd] at hn hr
      simp only [wipeD, items_tup, items_lst, items_rng, tupleD, seqA_tup, seqA_lst, tSq, tIf', tTs, tO, tV, tK, tTr, truD, tNo, tAn, tOr', tAnV, tOrV', tNoV, tIfE, tN0, tCo, tTu, tLs, tCl, tFn, tMh, tRt, tRt0, tNx, tEx, tSe, tAs, gN, gS, gT, gsc, gs0, tU, i2, i2c, rNegD, intC, absD, minD, isD, eqi, eqs, eqb, nei, nes, neb, DL.rIsD, DL.rIsnD, rAddD, rMulD, tMe, tMe0, tBk, tCt, outD, EndsD.xk, startD, optP_some, List.map_cons, List.map_nil, List.length_cons, List.length_nil, List.cons_append, List.nil_append, List.append_nil, List.set_cons_zero, List.set_cons_succ, List.set_nil, List.getElem?_cons_zero, List.getElem?_cons_succ, List.replicate_succ, List.replicate_zero, Nat.zero_add, Nat.reduceAdd, Nat.reduceSub, decide_eq_true_eq, Bool.not_eq_true', decide_eq_false_iff_not]
      refine ⟨xs[k], nss[k], n, rfl, paired_get hp hk hk', ?_⟩
      simp only [wipeD, items_tup, items_lst, items_rng, tupleD, seqA_tup, seqA_lst, tSq, tIf', tTs, tO, tV, tK, tTr, truD, tNo, tAn, tOr', tAnV, tOrV', tNoV, tIfE, tN0, tCo, tTu, tLs, tCl, tFn, tMh, tRt, tRt0, tNx, tEx, tSe, tAs, gN, gS, gT, gsc, gs0, tU, i2, i2c, rNegD, intC, absD, minD, isD, eqi, eqs, eqb, nei, nes, neb, DL.rIsD, DL.rIsnD, rAddD, rMulD, tMe, tMe0, tBk, tCt, outD, EndsD.xk, startD, optP_some, List.map_cons, List.map_nil, List.length_cons, List.length_nil, List.cons_append, List.nil_append, List.append_nil, List.set_cons_zero, List.set_cons_succ, List.set_nil, List.getElem?_cons_zero, List.getElem?_cons_succ, List.replicate_succ, List.replicate_zero, Nat.zero_add, Nat.reduceAdd, Nat.reduceSub, decide_eq_true_eq, Bool.not_eq_true', decide_eq_false_iff_not]
      cases c : rowB nss[k] n with
      | false => exact hr _ (if_pos c)
      | true => exact hn (if_neg (by rw [c]; simp)) _ ⟨_, rfl⟩
    · have z : (nss.all fun ns => rowB ns n) = true := List.all_eq_true.mpr fun ns hm => by
        obtain ⟨k, hk, rfl⟩ := List.mem_iff_getElem.mp hm
        have q := ff_none_iff.mp hn k (by omega)
        rw [List.getD_eq_getElem?_getD, List.getElem?_eq_getElem hk, Option.getD_some] at q
        cases c : rowB nss[k] n with
        | true => rfl
        | false =>
          rw [if_pos c] at q
          cases q
      rw [z] at h
      exact out_ret h
    · obtain ⟨k, hk, e1, _⟩ := ff_some hr
      split at e1
      · rename_i c
        cases e1
        have z : (nss.all fun ns => rowB ns n) = false := by
          cases q : (nss.all fun ns => rowB ns n) with
          | false => rfl
          | true =>
            have hk' : k < nss.length := by omega
            rw [List.getD_eq_getElem?_getD, List.getElem?_eq_getElem hk'] at c
            have := List.all_eq_true.mp q nss[k] (List.getElem_mem _)
            have c : rowB nss[k] n = false := c
            rw [c] at this
            cases this
        rw [z] at h
        exact out_ret h
      · cases e1
end K63
namespace K63
open PySem PySem.Spec PyProof.Rows L2 DL
variable [B : Obs] {K : PySem.W.Frag} {mg : Str → Option Value} {P : Program} {ds : List D} {M : Md} {Q : VD} {X : XD}
theorem ways_ff {F : Str → Option D} : ff 3 (fun k => F (waysL.getD k Str.empty)) = waysL.findSome? F := rfl
theorem ways_at {k : Nat} (hk : k < 3) : [D.str "a", D.str "b", D.str "c"][k] = .str (waysL.getD k Str.empty) ∧ isW (waysL.getD k Str.empty) = true ∧ (waysL.getD k Str.empty).length ≤ 10000 := by
  match k, hk with
  | 0, _ => exact ⟨rfl, rfl, by decide⟩
  | 1, _ => exact ⟨rfl, rfl, by decide⟩
  | 2, _ => exact ⟨rfl, rfl, by decide⟩
theorem Wf.way {A : Alg} (w : Wf A) (s : Str) : WfR A.n (wayT A s) := by
  unfold wayT
  split
  · exact w.a
  · split
    · exact w.b
    · exact w.c
theorem Wf.join {A : Alg} (w : Wf A) {x y : Int} (x0 : 0 ≤ x) (x1 : x < A.n) (y0 : 0 ≤ y) (y1 : y < A.n) : 0 ≤ joinV A x y ∧ joinV A x y < A.n := by
  have bx := w.r.rg x x0 x1
  have b_y := w.r.rg y y0 y1
  have m := w.mt bx.1 bx.2 b_y.1 b_y.2
  exact w.r.rg _ m.2.1 m.2.2
def joinsD (A : Alg) : D := .lst ((rgI A.n).map fun x => .lst ((rgI A.n).map fun y => .int (joinV A x y)))
theorem p__may_fault (Z : Fc P K mg) (h : sp__may_fault K ds M Q X) : t__may_fault K (outD Q X) (startD N__may_fault ds) M := by
  obtain ⟨A, rfl, w, h⟩ := h
  have lo := w.lo
  have hi := w.hi
  have hn : (A.n.toNat : Int) = A.n := by omega
  simp only [t__may_fault, N__may_fault, wipeD, items_tup, items_lst, items_rng, tupleD, seqA_tup, seqA_lst, tSq, tIf', tTs, tO, tV, tK, tTr, truD, tNo, tAn, tOr', tAnV, tOrV', tNoV, tIfE, tN0, tCo, tTu, tLs, tCl, tFn, tMh, tRt, tRt0, tNx, tEx, tSe, tAs, gN, gS, gT, gsc, gs0, tU, i2, i2c, rNegD, intC, absD, minD, isD, eqi, eqs, eqb, nei, nes, neb, DL.rIsD, DL.rIsnD, rAddD, rMulD, tMe, tMe0, tBk, tCt, outD, EndsD.xk, startD, optP_some, List.map_cons, List.map_nil, List.length_cons, List.length_nil, List.cons_append, List.nil_append, List.append_nil, List.set_cons_zero, List.set_cons_succ, List.set_nil, List.getElem?_cons_zero, List.getElem?_cons_succ, List.replicate_succ, List.replicate_zero, Nat.zero_add, Nat.reduceAdd, Nat.reduceSub, decide_eq_true_eq, Bool.not_eq_true', decide_eq_false_iff_not, objD]
  refine ⟨⟨_, rfl, rfl⟩, A, rfl, w, ?_⟩
  simp only [tFo, tIS, waysD, wipeD, items_tup, items_lst, items_rng, tupleD, seqA_tup, seqA_lst, tSq, tIf', tTs, tO, tV, tK, tTr, truD, tNo, tAn, tOr', tAnV, tOrV', tNoV, tIfE, tN0, tCo, tTu, tLs, tCl, tFn, tMh, tRt, tRt0, tNx, tEx, tSe, tAs, gN, gS, gT, gsc, gs0, tU, i2, i2c, rNegD, intC, absD, minD, isD, eqi, eqs, eqb, nei, nes, neb, DL.rIsD, DL.rIsnD, rAddD, rMulD, tMe, tMe0, tBk, tCt, outD, EndsD.xk, startD, optP_some, List.map_cons, List.map_nil, List.length_cons, List.length_nil, List.cons_append, List.nil_append, List.append_nil, List.set_cons_zero, List.set_cons_succ, List.set_nil, List.getElem?_cons_zero, List.getElem?_cons_succ, List.replicate_succ, List.replicate_zero, Nat.zero_add, Nat.reduceAdd, Nat.reduceSub, decide_eq_true_eq, Bool.not_eq_true', decide_eq_false_iff_not]
  refine forGo_find (inv := fun δ => ∃ a b c d e g, δ = [some (algD K A), some (.int (zeroV A)), a, b, c, d, e, g]) (f := fun k => (fun w => if gi (wayT A w) (zeroV A) ≠ zeroV A then some (D.tup [.str "none", .str w]) else none) (waysL.getD k Str.empty)) (by trivial) (fun k hk δ hi R hN hR => ?_) (fun hN δ hi => ?_) (fun r hr => ?_) ⟨_, _, _, _, _, _, rfl⟩
  · obtain ⟨a, b, c, d, e, g, rfl⟩ := hi
    obtain ⟨k1, k2, k3⟩ := ways_at hk
    rw [k1]
    have zz := w.zero
    simp only [wipeD, items_tup, items_lst, items_rng, tupleD, seqA_tup, seqA_lst, tSq, tIf', tTs, tO, tV, tK, tTr, truD, tNo, tAn, tOr', tAnV, tOrV', tNoV, tIfE, tN0, tCo, tTu, tLs, tCl, tFn, tMh, tRt, tRt0, tNx, tEx, tSe, tAs, gN, gS, gT, gsc, gs0, tU, i2, i2c, rNegD, intC, absD, minD, isD, eqi, eqs, eqb, nei, nes, neb, DL.rIsD, DL.rIsnD, rAddD, rMulD, tMe, tMe0, tBk, tCt, outD, EndsD.xk, startD, optP_some, List.map_cons, List.map_nil, List.length_cons, List.length_nil, List.cons_append, List.nil_append, List.append_nil, List.set_cons_zero, List.set_cons_succ, List.set_nil, List.getElem?_cons_zero, List.getElem?_cons_succ, List.replicate_succ, List.replicate_zero, Nat.zero_add, Nat.reduceAdd, Nat.reduceSub, decide_eq_true_eq, Bool.not_eq_true', decide_eq_false_iff_not, objD]
    refine ⟨⟨_, rfl, rfl⟩, A, _, rfl, k3, ?_⟩
    rw [if_pos k2]
    simp only [wipeD, items_tup, items_lst, items_rng, tupleD, seqA_tup, seqA_lst, tSq, tIf', tTs, tO, tV, tK, tTr, truD, tNo, tAn, tOr', tAnV, tOrV', tNoV, tIfE, tN0, tCo, tTu, tLs, tCl, tFn, tMh, tRt, tRt0, tNx, tEx, tSe, tAs, gN, gS, gT, gsc, gs0, tU, i2, i2c, rNegD, intC, absD, minD, isD, eqi, eqs, eqb, nei, nes, neb, DL.rIsD, DL.rIsnD, rAddD, rMulD, tMe, tMe0, tBk, tCt, outD, EndsD.xk, startD, optP_some, List.map_cons, List.map_nil, List.length_cons, List.length_nil, List.cons_append, List.nil_append, List.append_nil, List.set_cons_zero, List.set_cons_succ, List.set_nil, List.getElem?_cons_zero, List.getElem?_cons_succ, List.replicate_succ, List.replicate_zero, Nat.zero_add, Nat.reduceAdd, Nat.reduceSub, decide_eq_true_eq, Bool.not_eq_true', decide_eq_false_iff_not, rIx_tup, (w.way (waysL.getD k Str.empty)).at zz.1 zz.2]
    split
    · rename_i q
      exact ⟨by rw [sizeLine_eq]; decide, hR _ (if_pos q)⟩
    · rename_i q
      exact hN (if_neg q) _ ⟨_, _, _, _, _, _, rfl⟩
  · obtain ⟨a, b, c, d, e, g, rfl⟩ := hi
    rw [show noneF A = none from hN] at h
    have h : Q (orN (joinF A) .non) M := h
    simp only [wipeD, items_tup, items_lst, items_rng, tupleD, seqA_tup, seqA_lst, tSq, tIf', tTs, tO, tV, tK, tTr, truD, tNo, tAn, tOr', tAnV, tOrV', tNoV, tIfE, tN0, tCo, tTu, tLs, tCl, tFn, tMh, tRt, tRt0, tNx, tEx, tSe, tAs, gN, gS, gT, gsc, gs0, tU, i2, i2c, rNegD, intC, absD, minD, isD, eqi, eqs, eqb, nei, nes, neb, DL.rIsD, DL.rIsnD, rAddD, rMulD, tMe, tMe0, tBk, tCt, outD, EndsD.xk, startD, optP_some, List.map_cons, List.map_nil, List.length_cons, List.length_nil, List.cons_append, List.nil_append, List.append_nil, List.set_cons_zero, List.set_cons_succ, List.set_nil, List.getElem?_cons_zero, List.getElem?_cons_succ, List.replicate_succ, List.replicate_zero, Nat.zero_add, Nat.reduceAdd, Nat.reduceSub, decide_eq_true_eq, Bool.not_eq_true', decide_eq_false_iff_not, rangeD, tFd, fl_alg, lk_size, Z.f_size, true_and]
    refine tLcF_rng (n := A.n) (f := fun x => .lst ((rgI A.n).map fun y => .int (joinV A x y))) (fun _ h => h) (by omega) (by omega) (fun x x0 x1 p c hp Q' hQ => ?_) ?_
    · refine tLcF_rng (n := A.n) (f := fun y => .int (joinV A x y)) (fun _ h => h) (by omega) (by omega) (fun y y0 y1 p' c' hp' Q'' hQ' => ?_) hQ
      exact ⟨A, x, y, rfl, w, x0, x1, y0, y1, hQ'⟩
    · simp only [tFo, tIS, waysD, wipeD, items_tup, items_lst, items_rng, tupleD, seqA_tup, seqA_lst, tSq, tIf', tTs, tO, tV, tK, tTr, truD, tNo, tAn, tOr', tAnV, tOrV', tNoV, tIfE, tN0, tCo, tTu, tLs, tCl, tFn, tMh, tRt, tRt0, tNx, tEx, tSe, tAs, gN, gS, gT, gsc, gs0, tU, i2, i2c, rNegD, intC, absD, minD, isD, eqi, eqs, eqb, nei, nes, neb, DL.rIsD, DL.rIsnD, rAddD, rMulD, tMe, tMe0, tBk, tCt, outD, EndsD.xk, startD, optP_some, List.map_cons, List.map_nil, List.length_cons, List.length_nil, List.cons_append, List.nil_append, List.append_nil, List.set_cons_zero, List.set_cons_succ, List.set_nil, List.getElem?_cons_zero, List.getElem?_cons_succ, List.replicate_succ, List.replicate_zero, Nat.zero_add, Nat.reduceAdd, Nat.reduceSub, decide_eq_true_eq, Bool.not_eq_true', decide_eq_false_iff_not]
      refine forGo_find (inv := fun δ => ∃ a d e g, δ = [some (algD K A), some (.int (zeroV A)), a, some (.rng 0 A.n), some (joinsD A), d, e, g]) (f := fun k => (fun w => ff A.n.toNat fun x => ff A.n.toNat fun y => if gi (wayT A w) (joinV A x y) ≠ joinV A (gi (wayT A w) x) (gi (wayT A w) y) then some (D.tup [.str "join", .str w, .int x, .int y]) else none) (waysL.getD k Str.empty)) (by trivial) (fun k hk δ hi R hN hR => ?_) (fun hN δ hi => ?_) (fun r hr => ?_) ⟨_, _, _, _, rfl⟩
      · obtain ⟨a, d, e, g, rfl⟩ := hi
        obtain ⟨k1, k2, k3⟩ := ways_at hk
        rw [k1]
        simp only [wipeD, items_tup, items_lst, items_rng, tupleD, seqA_tup, seqA_lst, tSq, tIf', tTs, tO, tV, tK, tTr, truD, tNo, tAn, tOr', tAnV, tOrV', tNoV, tIfE, tN0, tCo, tTu, tLs, tCl, tFn, tMh, tRt, tRt0, tNx, tEx, tSe, tAs, gN, gS, gT, gsc, gs0, tU, i2, i2c, rNegD, intC, absD, minD, isD, eqi, eqs, eqb, nei, nes, neb, DL.rIsD, DL.rIsnD, rAddD, rMulD, tMe, tMe0, tBk, tCt, outD, EndsD.xk, startD, optP_some, List.map_cons, List.map_nil, List.length_cons, List.length_nil, List.cons_append, List.nil_append, List.append_nil, List.set_cons_zero, List.set_cons_succ, List.set_nil, List.getElem?_cons_zero, List.getElem?_cons_succ, List.replicate_succ, List.replicate_zero, Nat.zero_add, Nat.reduceAdd, Nat.reduceSub, decide_eq_true_eq, Bool.not_eq_true', decide_eq_false_iff_not, objD]
        refine ⟨⟨_, rfl, rfl⟩, A, _, rfl, k3, ?_⟩
        rw [if_pos k2]
        simp only [tFo, tIS, wipeD, items_tup, items_lst, items_rng, tupleD, seqA_tup, seqA_lst, tSq, tIf', tTs, tO, tV, tK, tTr, truD, tNo, tAn, tOr', tAnV, tOrV', tNoV, tIfE, tN0, tCo, tTu, tLs, tCl, tFn, tMh, tRt, tRt0, tNx, tEx, tSe, tAs, gN, gS, gT, gsc, gs0, tU, i2, i2c, rNegD, intC, absD, minD, isD, eqi, eqs, eqb, nei, nes, neb, DL.rIsD, DL.rIsnD, rAddD, rMulD, tMe, tMe0, tBk, tCt, outD, EndsD.xk, startD, optP_some, List.map_cons, List.map_nil, List.length_cons, List.length_nil, List.cons_append, List.nil_append, List.append_nil, List.set_cons_zero, List.set_cons_succ, List.set_nil, List.getElem?_cons_zero, List.getElem?_cons_succ, List.replicate_succ, List.replicate_zero, Nat.zero_add, Nat.reduceAdd, Nat.reduceSub, decide_eq_true_eq, Bool.not_eq_true', decide_eq_false_iff_not, rg0]
        have wt := w.way (waysL.getD k Str.empty)
        generalize waysL.getD k Str.empty = wy at *
        refine ⟨⟨by omega, by omega, by omega, by omega⟩, ?_⟩
        refine forGo_findR (inv := fun δ => ∃ d e, δ = [some (algD K A), some (.int (zeroV A)), some (.str wy), some (.rng 0 A.n), some (joinsD A), d, e, some (.tup (iL (wayT A wy)))]) (f := fun x => ff A.n.toNat fun y => if gi (wayT A wy) (joinV A x y) ≠ joinV A (gi (wayT A wy) x) (gi (wayT A wy) y) then some (D.tup [.str "join", .str wy, .int x, .int y]) else none) trivial (fun x hx δ hi R' hN' hR' => ?_) (fun hN' δ hi => ?_) (fun r hr => ?_) ⟨_, _, rfl⟩
        · obtain ⟨d, e, rfl⟩ := hi
          simp only [tFo, tIS, wipeD, items_tup, items_lst, items_rng, tupleD, seqA_tup, seqA_lst, tSq, tIf', tTs, tO, tV, tK, tTr, truD, tNo, tAn, tOr', tAnV, tOrV', tNoV, tIfE, tN0, tCo, tTu, tLs, tCl, tFn, tMh, tRt, tRt0, tNx, tEx, tSe, tAs, gN, gS, gT, gsc, gs0, tU, i2, i2c, rNegD, intC, absD, minD, isD, eqi, eqs, eqb, nei, nes, neb, DL.rIsD, DL.rIsnD, rAddD, rMulD, tMe, tMe0, tBk, tCt, outD, EndsD.xk, startD, optP_some, List.map_cons, List.map_nil, List.length_cons, List.length_nil, List.cons_append, List.nil_append, List.append_nil, List.set_cons_zero, List.set_cons_succ, List.set_nil, List.getElem?_cons_zero, List.getElem?_cons_succ, List.replicate_succ, List.replicate_zero, Nat.zero_add, Nat.reduceAdd, Nat.reduceSub, decide_eq_true_eq, Bool.not_eq_true', decide_eq_false_iff_not, rg0]
          refine ⟨⟨by omega, by omega, by omega, by omega⟩, ?_⟩
          refine forGo_findR (inv := fun δ => ∃ d, δ = [some (algD K A), some (.int (zeroV A)), some (.str wy), some (.rng 0 A.n), some (joinsD A), d, some (.int x), some (.tup (iL (wayT A wy)))]) (f := fun y => if gi (wayT A wy) (joinV A x y) ≠ joinV A (gi (wayT A wy) x) (gi (wayT A wy) y) then some (D.tup [.str "join", .str wy, .int x, .int y]) else none) trivial (fun y hy δ hi R'' hN'' hR'' => ?_) (fun hN'' δ hi => ?_) (fun r hr => ?_) ⟨_, rfl⟩
          · obtain ⟨d, rfl⟩ := hi
            have bx := wt.rg x (by omega) (by omega)
            have b_y := wt.rg y (by omega) (by omega)
            have bj := w.join (x := x) (y := y) (by omega) (by omega) (by omega) (by omega)
            simp only [wipeD, items_tup, items_lst, items_rng, tupleD, seqA_tup, seqA_lst, tSq, tIf', tTs, tO, tV, tK, tTr, truD, tNo, tAn, tOr', tAnV, tOrV', tNoV, tIfE, tN0, tCo, tTu, tLs, tCl, tFn, tMh, tRt, tRt0, tNx, tEx, tSe, tAs, gN, gS, gT, gsc, gs0, tU, i2, i2c, rNegD, intC, absD, minD, isD, eqi, eqs, eqb, nei, nes, neb, DL.rIsD, DL.rIsnD, rAddD, rMulD, tMe, tMe0, tBk, tCt, outD, EndsD.xk, startD, optP_some, List.map_cons, List.map_nil, List.length_cons, List.length_nil, List.cons_append, List.nil_append, List.append_nil, List.set_cons_zero, List.set_cons_succ, List.set_nil, List.getElem?_cons_zero, List.getElem?_cons_succ, List.replicate_succ, List.replicate_zero, Nat.zero_add, Nat.reduceAdd, Nat.reduceSub, decide_eq_true_eq, Bool.not_eq_true', decide_eq_false_iff_not, joinsD, rIx_lst, rIx_tup, atI_rg (n := A.n) (x := (x : Int)) (by omega) (by omega), atI_rg (n := A.n) (x := (y : Int)) (by omega) (by omega), wt.at bj.1 bj.2, wt.at (x := x) (by omega) (by omega), wt.at (x := y) (by omega) (by omega), atI_rg bx.1 bx.2, atI_rg b_y.1 b_y.2]
            split
            · rename_i q
              exact ⟨by rw [sizeLine_eq]; decide, hR'' _ (if_pos q)⟩
            · rename_i q
              exact hN'' (if_neg q) _ ⟨_, rfl⟩
          · obtain ⟨d, rfl⟩ := hi
            exact hN' hN'' _ ⟨_, _, rfl⟩
          · exact hR' r hr
        · obtain ⟨d, e, rfl⟩ := hi
          exact hN hN' _ ⟨_, _, _, _, rfl⟩
        · exact hR r hr
      · rw [show joinF A = none from hN] at h
        obtain ⟨a, d, e, g, rfl⟩ := hi
        exact out_ret h
      · rw [show joinF A = some r from hr] at h
        exact out_ret h
  · rw [show noneF A = some r from hr] at h
    exact out_ret h
end K63
namespace K63
open PySem PySem.Spec PyProof.Rows L2 DL
variable [B : Obs] {K : PySem.W.Frag} {mg : Str → Option Value} {P : Program} {ds : List D} {M : Md} {Q : VD} {X : XD}
def tupOf (M : Md) (d : D) : D := match seqA M d with
  | some l => .tup l
  | none => d
theorem putD_lt {f : Str} {y : D} {fs : Flds} {n : Nat} (h : fs.length < n) : (putD f y fs).length < n + 1 := by
  induction fs generalizing n with
  | nil => show 1 < n + 1; simp at h; omega
  | cons q r ih =>
    obtain ⟨g, z⟩ := q
    unfold putD
    split
    · simp at h ⊢; omega
    · cases n with
      | zero => simp at h
      | succ n =>
        have := ih (n := n) (by simp at h; omega)
        simp; omega
theorem map_tupOf {xs : List D} {m : List (List Int)} (h : Paired (fun x ns => NumsAt M x ns) xs m) : xs.map (tupOf M) = rowsD m := by
  induction h with
  | nil => rfl
  | cons r _ ih =>
    show tupOf M _ :: _ = _ :: _
    rw [ih]
    unfold tupOf
    rw [r]
    rfl
theorem p_Algebra___init__ (Z : Fc P K mg) (h : sp_Algebra___init__ K ds M Q X) : t_Algebra___init__ K (outD Q X) (startD N_Algebra___init__ ds) M := by
  obtain ⟨s, dm, dr, da, db, dc, xs, m, r, a, b, c, rfl, hs, hm, hp, hr, ha, hb, hc, lr, lm, h⟩ := h
  have lr' : (r.length : Int).natAbs.log2 < 1920 := by
    have : Nat.log2 (r.length : Int).natAbs ≤ (r.length : Int).natAbs := Nat.log2_le_self _
    omega
  simp only [N_Algebra___init__, startD, List.map_cons, List.map_nil, List.length_cons, List.length_nil, Nat.zero_add, Nat.reduceAdd, Nat.reduceSub, List.replicate_succ, List.replicate_zero, List.cons_append, List.nil_append]
  unfold t_Algebra___init__
  refine tSq_step fun T hT => ?_
  simp only [wipeD, items_tup, items_lst, items_rng, tupleD, seqA_tup, seqA_lst, tSq, tIf', tTs, tO, tV, tK, tTr, truD, tNo, tAn, tOr', tAnV, tOrV', tNoV, tIfE, tN0, tCo, tTu, tLs, tCl, tFn, tMh, tRt, tRt0, tNx, tEx, tSe, tAs, gN, gS, gT, gsc, gs0, tU, i2, i2c, rNegD, intC, absD, minD, isD, eqi, eqs, eqb, nei, nes, neb, DL.rIsD, DL.rIsnD, rAddD, rMulD, tMe, tMe0, tBk, tCt, outD, EndsD.xk, startD, optP_some, List.map_cons, List.map_nil, List.length_cons, List.length_nil, List.cons_append, List.nil_append, List.append_nil, List.set_cons_zero, List.set_cons_succ, List.set_nil, List.getElem?_cons_zero, List.getElem?_cons_succ, List.replicate_succ, List.replicate_zero, Nat.zero_add, Nat.reduceAdd, Nat.reduceSub, decide_eq_true_eq, Bool.not_eq_true', decide_eq_false_iff_not, len_eq hr, iL_len]
  subst hT
  refine tSq_step fun T hT => ?_
  simp only [wipeD, items_tup, items_lst, items_rng, tupleD, seqA_tup, seqA_lst, tSq, tIf', tTs, tO, tV, tK, tTr, truD, tNo, tAn, tOr', tAnV, tOrV', tNoV, tIfE, tN0, tCo, tTu, tLs, tCl, tFn, tMh, tRt, tRt0, tNx, tEx, tSe, tAs, gN, gS, gT, gsc, gs0, tU, i2, i2c, rNegD, intC, absD, minD, isD, eqi, eqs, eqb, nei, nes, neb, DL.rIsD, DL.rIsnD, rAddD, rMulD, tMe, tMe0, tBk, tCt, outD, EndsD.xk, startD, optP_some, List.map_cons, List.map_nil, List.length_cons, List.length_nil, List.cons_append, List.nil_append, List.append_nil, List.set_cons_zero, List.set_cons_succ, List.set_nil, List.getElem?_cons_zero, List.getElem?_cons_succ, List.replicate_succ, List.replicate_zero, Nat.zero_add, Nat.reduceAdd, Nat.reduceSub, decide_eq_true_eq, Bool.not_eq_true', decide_eq_false_iff_not, DX.tRs, DX.OkD]
  split
  · rename_i q
    rw [if_pos (.inl q)] at h
    rw [if_pos trivial]
    exact ⟨lr', out_xx h⟩
  rename_i q
  split
  · rename_i q2
    rw [if_pos (.inr q2)] at h
    exact ⟨lr', out_xx h⟩
  rename_i q2
  rw [if_neg (fun z => z.elim q q2)] at h
  subst hT
  refine tSq_step fun T hT => ?_
  unfold badT at h
  refine ⟨dm, xs, m, _, rfl, hm, hp, ?_⟩
  simp only [wipeD, items_tup, items_lst, items_rng, tupleD, seqA_tup, seqA_lst, tSq, tIf', tTs, tO, tV, tK, tTr, truD, tNo, tAn, tOr', tAnV, tOrV', tNoV, tIfE, tN0, tCo, tTu, tLs, tCl, tFn, tMh, tRt, tRt0, tNx, tEx, tSe, tAs, gN, gS, gT, gsc, gs0, tU, i2, i2c, rNegD, intC, absD, minD, isD, eqi, eqs, eqb, nei, nes, neb, DL.rIsD, DL.rIsnD, rAddD, rMulD, tMe, tMe0, tBk, tCt, outD, EndsD.xk, startD, optP_some, List.map_cons, List.map_nil, List.length_cons, List.length_nil, List.cons_append, List.nil_append, List.append_nil, List.set_cons_zero, List.set_cons_succ, List.set_nil, List.getElem?_cons_zero, List.getElem?_cons_succ, List.replicate_succ, List.replicate_zero, Nat.zero_add, Nat.reduceAdd, Nat.reduceSub, decide_eq_true_eq, Bool.not_eq_true', decide_eq_false_iff_not, DX.tRs, DX.OkD]
  split
  · rename_i q3
    rw [if_pos q3] at h
    exact ⟨by decide, out_xx h⟩
  rename_i q3
  rw [if_neg q3] at h
  subst hT
  refine tSq_step fun T hT => ?_
  refine ⟨dr, r, _, rfl, hr, ?_⟩
  simp only [wipeD, items_tup, items_lst, items_rng, tupleD, seqA_tup, seqA_lst, tSq, tIf', tTs, tO, tV, tK, tTr, truD, tNo, tAn, tOr', tAnV, tOrV', tNoV, tIfE, tN0, tCo, tTu, tLs, tCl, tFn, tMh, tRt, tRt0, tNx, tEx, tSe, tAs, gN, gS, gT, gsc, gs0, tU, i2, i2c, rNegD, intC, absD, minD, isD, eqi, eqs, eqb, nei, nes, neb, DL.rIsD, DL.rIsnD, rAddD, rMulD, tMe, tMe0, tBk, tCt, outD, EndsD.xk, startD, optP_some, List.map_cons, List.map_nil, List.length_cons, List.length_nil, List.cons_append, List.nil_append, List.append_nil, List.set_cons_zero, List.set_cons_succ, List.set_nil, List.getElem?_cons_zero, List.getElem?_cons_succ, List.replicate_succ, List.replicate_zero, Nat.zero_add, Nat.reduceAdd, Nat.reduceSub, decide_eq_true_eq, Bool.not_eq_true', decide_eq_false_iff_not, DX.tRs, DX.OkD]
  split
  · rename_i q4
    rw [if_pos q4] at h
    exact ⟨by decide, out_xx h⟩
  rename_i q4
  rw [if_neg q4] at h
  subst hT
  refine tSq_step fun T hT => ?_
  refine ⟨da, a, _, rfl, ha, ?_⟩
  simp only [wipeD, items_tup, items_lst, items_rng, tupleD, seqA_tup, seqA_lst, tSq, tIf', tTs, tO, tV, tK, tTr, truD, tNo, tAn, tOr', tAnV, tOrV', tNoV, tIfE, tN0, tCo, tTu, tLs, tCl, tFn, tMh, tRt, tRt0, tNx, tEx, tSe, tAs, gN, gS, gT, gsc, gs0, tU, i2, i2c, rNegD, intC, absD, minD, isD, eqi, eqs, eqb, nei, nes, neb, DL.rIsD, DL.rIsnD, rAddD, rMulD, tMe, tMe0, tBk, tCt, outD, EndsD.xk, startD, optP_some, List.map_cons, List.map_nil, List.length_cons, List.length_nil, List.cons_append, List.nil_append, List.append_nil, List.set_cons_zero, List.set_cons_succ, List.set_nil, List.getElem?_cons_zero, List.getElem?_cons_succ, List.replicate_succ, List.replicate_zero, Nat.zero_add, Nat.reduceAdd, Nat.reduceSub, decide_eq_true_eq, Bool.not_eq_true', decide_eq_false_iff_not, DX.tRs, DX.OkD]
  split
  · rename_i q5
    rw [if_pos q5] at h
    exact ⟨by decide, out_xx h⟩
  rename_i q5
  rw [if_neg q5] at h
  subst hT
  refine tSq_step fun T hT => ?_
  refine ⟨db, b, _, rfl, hb, ?_⟩
  simp only [wipeD, items_tup, items_lst, items_rng, tupleD, seqA_tup, seqA_lst, tSq, tIf', tTs, tO, tV, tK, tTr, truD, tNo, tAn, tOr', tAnV, tOrV', tNoV, tIfE, tN0, tCo, tTu, tLs, tCl, tFn, tMh, tRt, tRt0, tNx, tEx, tSe, tAs, gN, gS, gT, gsc, gs0, tU, i2, i2c, rNegD, intC, absD, minD, isD, eqi, eqs, eqb, nei, nes, neb, DL.rIsD, DL.rIsnD, rAddD, rMulD, tMe, tMe0, tBk, tCt, outD, EndsD.xk, startD, optP_some, List.map_cons, List.map_nil, List.length_cons, List.length_nil, List.cons_append, List.nil_append, List.append_nil, List.set_cons_zero, List.set_cons_succ, List.set_nil, List.getElem?_cons_zero, List.getElem?_cons_succ, List.replicate_succ, List.replicate_zero, Nat.zero_add, Nat.reduceAdd, Nat.reduceSub, decide_eq_true_eq, Bool.not_eq_true', decide_eq_false_iff_not, DX.tRs, DX.OkD]
  split
  · rename_i q6
    rw [if_pos q6] at h
    exact ⟨by decide, out_xx h⟩
  rename_i q6
  rw [if_neg q6] at h
  subst hT
  refine tSq_step fun T hT => ?_
  refine ⟨dc, c, _, rfl, hc, ?_⟩
  simp only [wipeD, items_tup, items_lst, items_rng, tupleD, seqA_tup, seqA_lst, tSq, tIf', tTs, tO, tV, tK, tTr, truD, tNo, tAn, tOr', tAnV, tOrV', tNoV, tIfE, tN0, tCo, tTu, tLs, tCl, tFn, tMh, tRt, tRt0, tNx, tEx, tSe, tAs, gN, gS, gT, gsc, gs0, tU, i2, i2c, rNegD, intC, absD, minD, isD, eqi, eqs, eqb, nei, nes, neb, DL.rIsD, DL.rIsnD, rAddD, rMulD, tMe, tMe0, tBk, tCt, outD, EndsD.xk, startD, optP_some, List.map_cons, List.map_nil, List.length_cons, List.length_nil, List.cons_append, List.nil_append, List.append_nil, List.set_cons_zero, List.set_cons_succ, List.set_nil, List.getElem?_cons_zero, List.getElem?_cons_succ, List.replicate_succ, List.replicate_zero, Nat.zero_add, Nat.reduceAdd, Nat.reduceSub, decide_eq_true_eq, Bool.not_eq_true', decide_eq_false_iff_not, DX.tRs, DX.OkD]
  split
  · rename_i q7
    rw [if_pos q7] at h
    exact ⟨by decide, out_xx h⟩
  rename_i q7
  rw [if_neg q7] at h
  have h : Q .non (put M s (.ins (CA K) (nsA.zip (dsA ⟨r.length, m, r, a, b, c⟩)))) := h
  have km := seqA_keep hm hs
  have kr := seqA_keep hr hs
  have ka := seqA_keep ha hs
  have kb := seqA_keep hb hs
  have kc := seqA_keep hc hs
  subst hT
  refine tSq_step fun T hT => ?_
  simp only [tSf, wipeD, items_tup, items_lst, items_rng, tupleD, seqA_tup, seqA_lst, tSq, tIf', tTs, tO, tV, tK, tTr, truD, tNo, tAn, tOr', tAnV, tOrV', tNoV, tIfE, tN0, tCo, tTu, tLs, tCl, tFn, tMh, tRt, tRt0, tNx, tEx, tSe, tAs, gN, gS, gT, gsc, gs0, tU, i2, i2c, rNegD, intC, absD, minD, isD, eqi, eqs, eqb, nei, nes, neb, DL.rIsD, DL.rIsnD, rAddD, rMulD, tMe, tMe0, tBk, tCt, outD, EndsD.xk, startD, optP_some, List.map_cons, List.map_nil, List.length_cons, List.length_nil, List.cons_append, List.nil_append, List.append_nil, List.set_cons_zero, List.set_cons_succ, List.set_nil, List.getElem?_cons_zero, List.getElem?_cons_succ, List.replicate_succ, List.replicate_zero, Nat.zero_add, Nat.reduceAdd, Nat.reduceSub, decide_eq_true_eq, Bool.not_eq_true', decide_eq_false_iff_not, hs, Z.f_size, true_and]
  refine ⟨Nat.lt_of_lt_of_le (show List.length ([] : Flds) < 1 from Nat.zero_lt_one) (by decide), ?_⟩
  subst hT
  refine tSq_step fun T hT => ?_
  simp only [tSf, wipeD, items_tup, items_lst, items_rng, tupleD, seqA_tup, seqA_lst, tSq, tIf', tTs, tO, tV, tK, tTr, truD, tNo, tAn, tOr', tAnV, tOrV', tNoV, tIfE, tN0, tCo, tTu, tLs, tCl, tFn, tMh, tRt, tRt0, tNx, tEx, tSe, tAs, gN, gS, gT, gsc, gs0, tU, i2, i2c, rNegD, intC, absD, minD, isD, eqi, eqs, eqb, nei, nes, neb, DL.rIsD, DL.rIsnD, rAddD, rMulD, tMe, tMe0, tBk, tCt, outD, EndsD.xk, startD, optP_some, List.map_cons, List.map_nil, List.length_cons, List.length_nil, List.cons_append, List.nil_append, List.append_nil, List.set_cons_zero, List.set_cons_succ, List.set_nil, List.getElem?_cons_zero, List.getElem?_cons_succ, List.replicate_succ, List.replicate_zero, Nat.zero_add, Nat.reduceAdd, Nat.reduceSub, decide_eq_true_eq, Bool.not_eq_true', decide_eq_false_iff_not]
  refine tLcF_seq (f := tupOf M) (d0 := dm) (xs := xs) (fun _ h => h) (km _) (by rw [hp.length, sizeLine_eq]; omega) (fun d hd p c' hp' Q' hQ => ?_) ?_
  · obtain ⟨k, hk, rfl⟩ := List.mem_iff_getElem.mp hd
    have hk2 : k < m.length := by rw [← hp.length]; exact hk
    have hn := paired_get hp hk hk2
    have e1 := seqA_put (c := c') (seqA_keep hn hs _) hp'
    have e2 : tupOf M xs[k] = .tup (iL m[k]) := by
      unfold tupOf
      rw [hn]
    rw [e2] at hQ
    simp only [wipeD, items_tup, items_lst, items_rng, tupleD, seqA_tup, seqA_lst, tSq, tIf', tTs, tO, tV, tK, tTr, truD, tNo, tAn, tOr', tAnV, tOrV', tNoV, tIfE, tN0, tCo, tTu, tLs, tCl, tFn, tMh, tRt, tRt0, tNx, tEx, tSe, tAs, gN, gS, gT, gsc, gs0, tU, i2, i2c, rNegD, intC, absD, minD, isD, eqi, eqs, eqb, nei, nes, neb, DL.rIsD, DL.rIsnD, rAddD, rMulD, tMe, tMe0, tBk, tCt, outD, EndsD.xk, startD, optP_some, List.map_cons, List.map_nil, List.length_cons, List.length_nil, List.cons_append, List.nil_append, List.append_nil, List.set_cons_zero, List.set_cons_succ, List.set_nil, List.getElem?_cons_zero, List.getElem?_cons_succ, List.replicate_succ, List.replicate_zero, Nat.zero_add, Nat.reduceAdd, Nat.reduceSub, decide_eq_true_eq, Bool.not_eq_true', decide_eq_false_iff_not, e1]
    exact hQ
  · rw [map_tupOf hp]
    simp only [wipeD, items_tup, items_lst, items_rng, tupleD, seqA_tup, seqA_lst, tSq, tIf', tTs, tO, tV, tK, tTr, truD, tNo, tAn, tOr', tAnV, tOrV', tNoV, tIfE, tN0, tCo, tTu, tLs, tCl, tFn, tMh, tRt, tRt0, tNx, tEx, tSe, tAs, gN, gS, gT, gsc, gs0, tU, i2, i2c, rNegD, intC, absD, minD, isD, eqi, eqs, eqb, nei, nes, neb, DL.rIsD, DL.rIsnD, rAddD, rMulD, tMe, tMe0, tBk, tCt, outD, EndsD.xk, startD, optP_some, List.map_cons, List.map_nil, List.length_cons, List.length_nil, List.cons_append, List.nil_append, List.append_nil, List.set_cons_zero, List.set_cons_succ, List.set_nil, List.getElem?_cons_zero, List.getElem?_cons_succ, List.replicate_succ, List.replicate_zero, Nat.zero_add, Nat.reduceAdd, Nat.reduceSub, decide_eq_true_eq, Bool.not_eq_true', decide_eq_false_iff_not, put_same, put_put, Z.f_meet, true_and]
    refine ⟨Nat.lt_of_lt_of_le (putD_lt (show List.length ([] : Flds) < 1 from Nat.zero_lt_one)) (by decide), ?_⟩
    subst hT
    refine tSq_step fun T hT => ?_
    simp only [tSf, wipeD, items_tup, items_lst, items_rng, tupleD, seqA_tup, seqA_lst, tSq, tIf', tTs, tO, tV, tK, tTr, truD, tNo, tAn, tOr', tAnV, tOrV', tNoV, tIfE, tN0, tCo, tTu, tLs, tCl, tFn, tMh, tRt, tRt0, tNx, tEx, tSe, tAs, gN, gS, gT, gsc, gs0, tU, i2, i2c, rNegD, intC, absD, minD, isD, eqi, eqs, eqb, nei, nes, neb, DL.rIsD, DL.rIsnD, rAddD, rMulD, tMe, tMe0, tBk, tCt, outD, EndsD.xk, startD, optP_some, List.map_cons, List.map_nil, List.length_cons, List.length_nil, List.cons_append, List.nil_append, List.append_nil, List.set_cons_zero, List.set_cons_succ, List.set_nil, List.getElem?_cons_zero, List.getElem?_cons_succ, List.replicate_succ, List.replicate_zero, Nat.zero_add, Nat.reduceAdd, Nat.reduceSub, decide_eq_true_eq, Bool.not_eq_true', decide_eq_false_iff_not, kr, put_same, put_put, Z.f_rest, true_and]
    refine ⟨Nat.lt_of_lt_of_le (putD_lt (putD_lt (show List.length ([] : Flds) < 1 from Nat.zero_lt_one))) (by decide), ?_⟩
    subst hT
    refine tSq_step fun T hT => ?_
    simp only [tSf, wipeD, items_tup, items_lst, items_rng, tupleD, seqA_tup, seqA_lst, tSq, tIf', tTs, tO, tV, tK, tTr, truD, tNo, tAn, tOr', tAnV, tOrV', tNoV, tIfE, tN0, tCo, tTu, tLs, tCl, tFn, tMh, tRt, tRt0, tNx, tEx, tSe, tAs, gN, gS, gT, gsc, gs0, tU, i2, i2c, rNegD, intC, absD, minD, isD, eqi, eqs, eqb, nei, nes, neb, DL.rIsD, DL.rIsnD, rAddD, rMulD, tMe, tMe0, tBk, tCt, outD, EndsD.xk, startD, optP_some, List.map_cons, List.map_nil, List.length_cons, List.length_nil, List.cons_append, List.nil_append, List.append_nil, List.set_cons_zero, List.set_cons_succ, List.set_nil, List.getElem?_cons_zero, List.getElem?_cons_succ, List.replicate_succ, List.replicate_zero, Nat.zero_add, Nat.reduceAdd, Nat.reduceSub, decide_eq_true_eq, Bool.not_eq_true', decide_eq_false_iff_not, ka, put_same, put_put, Z.f_a, true_and]
    refine ⟨Nat.lt_of_lt_of_le (putD_lt (putD_lt (putD_lt (show List.length ([] : Flds) < 1 from Nat.zero_lt_one)))) (by decide), ?_⟩
    subst hT
    refine tSq_step fun T hT => ?_
    simp only [tSf, wipeD, items_tup, items_lst, items_rng, tupleD, seqA_tup, seqA_lst, tSq, tIf', tTs, tO, tV, tK, tTr, truD, tNo, tAn, tOr', tAnV, tOrV', tNoV, tIfE, tN0, tCo, tTu, tLs, tCl, tFn, tMh, tRt, tRt0, tNx, tEx, tSe, tAs, gN, gS, gT, gsc, gs0, tU, i2, i2c, rNegD, intC, absD, minD, isD, eqi, eqs, eqb, nei, nes, neb, DL.rIsD, DL.rIsnD, rAddD, rMulD, tMe, tMe0, tBk, tCt, outD, EndsD.xk, startD, optP_some, List.map_cons, List.map_nil, List.length_cons, List.length_nil, List.cons_append, List.nil_append, List.append_nil, List.set_cons_zero, List.set_cons_succ, List.set_nil, List.getElem?_cons_zero, List.getElem?_cons_succ, List.replicate_succ, List.replicate_zero, Nat.zero_add, Nat.reduceAdd, Nat.reduceSub, decide_eq_true_eq, Bool.not_eq_true', decide_eq_false_iff_not, kb, put_same, put_put, Z.f_b, true_and]
    refine ⟨Nat.lt_of_lt_of_le (putD_lt (putD_lt (putD_lt (putD_lt (show List.length ([] : Flds) < 1 from Nat.zero_lt_one))))) (by decide), ?_⟩
    subst hT
    simp only [tSf, wipeD, items_tup, items_lst, items_rng, tupleD, seqA_tup, seqA_lst, tSq, tIf', tTs, tO, tV, tK, tTr, truD, tNo, tAn, tOr', tAnV, tOrV', tNoV, tIfE, tN0, tCo, tTu, tLs, tCl, tFn, tMh, tRt, tRt0, tNx, tEx, tSe, tAs, gN, gS, gT, gsc, gs0, tU, i2, i2c, rNegD, intC, absD, minD, isD, eqi, eqs, eqb, nei, nes, neb, DL.rIsD, DL.rIsnD, rAddD, rMulD, tMe, tMe0, tBk, tCt, outD, EndsD.xk, startD, optP_some, List.map_cons, List.map_nil, List.length_cons, List.length_nil, List.cons_append, List.nil_append, List.append_nil, List.set_cons_zero, List.set_cons_succ, List.set_nil, List.getElem?_cons_zero, List.getElem?_cons_succ, List.replicate_succ, List.replicate_zero, Nat.zero_add, Nat.reduceAdd, Nat.reduceSub, decide_eq_true_eq, Bool.not_eq_true', decide_eq_false_iff_not, kc, put_same, put_put, Z.f_c, true_and]
    refine ⟨Nat.lt_of_lt_of_le (putD_lt (putD_lt (putD_lt (putD_lt (putD_lt (show List.length ([] : Flds) < 1 from Nat.zero_lt_one)))))) (by decide), out_nx ?_⟩
    exact h
theorem pys_rows : ∀ m : List (List Int), Pys M (rowsD m) (m.map fun r => PyData.tuple (r.map .int))
  | [] => .nil
  | r :: m => .cons (.tup (pys_ints r)) (pys_rows m)
theorem can_rows : ∀ m : List (List Int), PyData.canLayAll0 (m.map fun r => PyData.tuple (r.map .int)) = true
  | [] => rfl
  | r :: m => by
    show (PyData.canLayAll0 (r.map PyData.int) && PyData.canLayAll0 (m.map fun r => PyData.tuple (r.map .int))) = true
    rw [can_ints, can_rows m]
    rfl
theorem dep_rows : ∀ m : List (List Int), PyData.depthAll (m.map fun r => PyData.tuple (r.map .int)) ≤ 1
  | [] => Nat.zero_le _
  | r :: m => by
    show max (PyData.depthAll (r.map PyData.int) + 1) (PyData.depthAll (m.map fun r => PyData.tuple (r.map .int))) ≤ 1
    rw [dep_ints]
    have := dep_rows m
    omega
theorem eqv_rows : ∀ m k : List (List Int), PyData.eqvAll (m.map fun r => PyData.tuple (r.map .int)) (k.map fun r => PyData.tuple (r.map .int)) = decide (m = k)
  | [], [] => rfl
  | [], r :: k => rfl
  | r :: m, [] => rfl
  | r :: m, s :: k => by
    show (PyData.eqvAll (r.map PyData.int) (s.map PyData.int) && PyData.eqvAll (m.map fun r => PyData.tuple (r.map .int)) (k.map fun r => PyData.tuple (r.map .int))) = _
    rw [eqv_ints, eqv_rows m k]
    by_cases e : r = s <;> simp [e]
theorem sh_rows {m : List (List Int)} : SeqAt.shaped (.tuple (m.map fun r => PyData.tuple (r.map .int))) = true := by
  unfold SeqAt.shaped
  rw [Bool.and_eq_true]
  refine ⟨can_rows m, decide_eq_true ?_⟩
  show PyData.depthAll (m.map fun r => PyData.tuple (r.map .int)) + 1 ≤ 64
  have := dep_rows m
  omega
theorem eq_rows {a b : List (List Int)} (h : Q (.bl (decide (a = b))) M) : DL.rEqD (.tup (rowsD a)) (.tup (rowsD b)) M Q := ⟨.tuple (a.map fun r => .tuple (r.map .int)), .tuple (b.map fun r => .tuple (r.map .int)), .tup (pys_rows a), .tup (pys_rows b), sh_rows, sh_rows, by
  show Q (.bl (PyData.eqvAll (a.map fun r => PyData.tuple (r.map .int)) (b.map fun r => PyData.tuple (r.map .int)))) M
  rw [eqv_rows]
  exact h⟩
theorem p_Algebra___eq__ (Z : Fc P K mg) (h : sp_Algebra___eq__ K ds M Q X) : t_Algebra___eq__ K (outD Q X) (startD N_Algebra___eq__ ds) M := by
  obtain ⟨A, A', rfl, h⟩ := h
  refine ⟨rfl, ⟨_, fl_alg⟩, ?_⟩
  simp only [N_Algebra___eq__, wipeD, items_tup, items_lst, items_rng, tupleD, seqA_tup, seqA_lst, tSq, tIf', tTs, tO, tV, tK, tTr, truD, tNo, tAn, tOr', tAnV, tOrV', tNoV, tIfE, tN0, tCo, tTu, tLs, tCl, tFn, tMh, tRt, tRt0, tNx, tEx, tSe, tAs, gN, gS, gT, gsc, gs0, tU, i2, i2c, rNegD, intC, absD, minD, isD, eqi, eqs, eqb, nei, nes, neb, DL.rIsD, DL.rIsnD, rAddD, rMulD, tMe, tMe0, tBk, tCt, outD, EndsD.xk, startD, optP_some, List.map_cons, List.map_nil, List.length_cons, List.length_nil, List.cons_append, List.nil_append, List.append_nil, List.set_cons_zero, List.set_cons_succ, List.set_nil, List.getElem?_cons_zero, List.getElem?_cons_succ, List.replicate_succ, List.replicate_zero, Nat.zero_add, Nat.reduceAdd, Nat.reduceSub, decide_eq_true_eq, Bool.not_eq_true', decide_eq_false_iff_not, tFd, fl_alg, lk_meet, lk_rest, lk_a, lk_b, lk_c, Z.f_meet, Z.f_rest, Z.f_a, Z.f_b, Z.f_c, true_and, if_true]
  refine eq_rows ?_
  simp only [decide_eq_true_eq]
  split
  · rename_i e1
    refine eq_tup ?_
    simp only [decide_eq_true_eq]
    split
    · rename_i e2
      refine eq_tup ?_
      simp only [decide_eq_true_eq]
      split
      · rename_i e3
        refine eq_tup ?_
        simp only [decide_eq_true_eq]
        split
        · rename_i e4
          refine eq_tup (out_ret ?_)
          simpa [e1, e2, e3, e4] using h
        · rename_i e4
          refine out_ret ?_
          simpa [e4] using h
      · rename_i e3
        refine out_ret ?_
        simpa [e3] using h
    · rename_i e2
      refine out_ret ?_
      simpa [e2] using h
  · rename_i e1
    refine out_ret ?_
    simpa [e1] using h
end K63
namespace K63
open PySem PySem.Spec PyProof.Rows L2 DL
variable [B : Obs] {K : PySem.W.Frag} {mg : Str → Option Value} {P : Program} {ds : List D} {M : Md} {Q : VD} {X : XD}
theorem rows_at {A : Alg} {xs : List D} (w : Wf A) (hp : Paired (fun x ns => NumsAt M x ns) xs A.meet) {x : Int} (h0 : 0 ≤ x) (h1 : x < A.n) : ∃ d, atI xs x = some d ∧ seqA M d = some (iL (gr A.meet x)) ∧ WfR A.n (gr A.meet x) := by
  have hl : x.toNat < A.meet.length := by have := w.ml; omega
  have hx : x.toNat < xs.length := by rw [hp.length]; exact hl
  have e : gr A.meet x = A.meet[x.toNat] := by
    unfold gr
    rw [List.getD_eq_getElem?_getD, List.getElem?_eq_getElem hl]
    rfl
  refine ⟨xs[x.toNat], by rw [atI_in h0 (by omega), List.getElem?_eq_getElem hx], ?_, (w.rowAt h0 h1).2⟩
  rw [e]
  exact paired_get hp hx hl
theorem p__law_join (h : sp__law_join K ds M Q X) : t__law_join K (outD Q X) (startD N__law_join ds) M := by
  obtain ⟨A, d, x, y, rfl, ⟨dm, dr, da, db, dc, xs, h0, h1, hp, hr, _⟩, w, x0, x1, y0, y1, h⟩ := h
  have bx := w.r.rg x x0 x1
  have b_y := w.r.rg y y0 y1
  have m := w.mt bx.1 bx.2 b_y.1 b_y.2
  obtain ⟨d1, e1, e2, e3⟩ := rows_at w hp bx.1 bx.2
  simp only [t__law_join, N__law_join, wipeD, items_tup, items_lst, items_rng, tupleD, seqA_tup, seqA_lst, tSq, tIf', tTs, tO, tV, tK, tTr, truD, tNo, tAn, tOr', tAnV, tOrV', tNoV, tIfE, tN0, tCo, tTu, tLs, tCl, tFn, tMh, tRt, tRt0, tNx, tEx, tSe, tAs, gN, gS, gT, gsc, gs0, tU, i2, i2c, rNegD, intC, absD, minD, isD, eqi, eqs, eqb, nei, nes, neb, DL.rIsD, DL.rIsnD, rAddD, rMulD, tMe, tMe0, tBk, tCt, outD, EndsD.xk, startD, optP_some, List.map_cons, List.map_nil, List.length_cons, List.length_nil, List.cons_append, List.nil_append, List.append_nil, List.set_cons_zero, List.set_cons_succ, List.set_nil, List.getElem?_cons_zero, List.getElem?_cons_succ, List.replicate_succ, List.replicate_zero, Nat.zero_add, Nat.reduceAdd, Nat.reduceSub, decide_eq_true_eq, Bool.not_eq_true', decide_eq_false_iff_not, ix_eq h0 atI_0, ix_eq h0 atI_1, ix_eq hr (w.r.at x0 x1), ix_eq hr (w.r.at y0 y1), ix_eq h1 e1, ix_eq e2 m.1, ix_eq hr (w.r.at m.2.1 m.2.2)]
  exact out_ret h
theorem p__law_group (h : sp__law_group K ds M Q X) : t__law_group K (outD Q X) (startD N__law_group ds) M := by
  obtain ⟨A, d, xs, rfl, h1, hp, w, h⟩ := h
  have lo := w.lo
  have hi := w.hi
  have hn : (A.n.toNat : Int) = A.n := by omega
  simp only [t__law_group, N__law_group, tFo, tIR1, wipeD, items_tup, items_lst, items_rng, tupleD, seqA_tup, seqA_lst, tSq, tIf', tTs, tO, tV, tK, tTr, truD, tNo, tAn, tOr', tAnV, tOrV', tNoV, tIfE, tN0, tCo, tTu, tLs, tCl, tFn, tMh, tRt, tRt0, tNx, tEx, tSe, tAs, gN, gS, gT, gsc, gs0, tU, i2, i2c, rNegD, intC, absD, minD, isD, eqi, eqs, eqb, nei, nes, neb, DL.rIsD, DL.rIsnD, rAddD, rMulD, tMe, tMe0, tBk, tCt, outD, EndsD.xk, startD, optP_some, List.map_cons, List.map_nil, List.length_cons, List.length_nil, List.cons_append, List.nil_append, List.append_nil, List.set_cons_zero, List.set_cons_succ, List.set_nil, List.getElem?_cons_zero, List.getElem?_cons_succ, List.replicate_succ, List.replicate_zero, Nat.zero_add, Nat.reduceAdd, Nat.reduceSub, decide_eq_true_eq, Bool.not_eq_true', decide_eq_false_iff_not]
  refine ⟨⟨by omega, by omega⟩, ?_⟩
  refine forGo_findR (inv := fun δ => ∃ a b c e f g, δ = [some d, some (.int A.n), a, b, c, e, f, g]) (f := fun x => ff A.n.toNat fun y => ff A.n.toNat fun z => if mt A.meet x (mt A.meet y z) ≠ mt A.meet (mt A.meet x y) z then some (.tup [.str "group", .int x, .int y, .int z]) else none) trivial (fun x hx δ hi R hN hR => ?_) (fun hN δ hi => ?_) (fun r hr => ?_) ⟨_, _, _, _, _, _, rfl⟩
  · obtain ⟨a, b, c, e, f, g, rfl⟩ := hi
    simp only [tFo, tIR1, wipeD, items_tup, items_lst, items_rng, tupleD, seqA_tup, seqA_lst, tSq, tIf', tTs, tO, tV, tK, tTr, truD, tNo, tAn, tOr', tAnV, tOrV', tNoV, tIfE, tN0, tCo, tTu, tLs, tCl, tFn, tMh, tRt, tRt0, tNx, tEx, tSe, tAs, gN, gS, gT, gsc, gs0, tU, i2, i2c, rNegD, intC, absD, minD, isD, eqi, eqs, eqb, nei, nes, neb, DL.rIsD, DL.rIsnD, rAddD, rMulD, tMe, tMe0, tBk, tCt, outD, EndsD.xk, startD, optP_some, List.map_cons, List.map_nil, List.length_cons, List.length_nil, List.cons_append, List.nil_append, List.append_nil, List.set_cons_zero, List.set_cons_succ, List.set_nil, List.getElem?_cons_zero, List.getElem?_cons_succ, List.replicate_succ, List.replicate_zero, Nat.zero_add, Nat.reduceAdd, Nat.reduceSub, decide_eq_true_eq, Bool.not_eq_true', decide_eq_false_iff_not]
    refine ⟨⟨by omega, by omega⟩, ?_⟩
    refine forGo_findR (inv := fun δ => ∃ b c e f g, δ = [some d, some (.int A.n), some (.int x), b, c, e, f, g]) (f := fun y => ff A.n.toNat fun z => if mt A.meet x (mt A.meet y z) ≠ mt A.meet (mt A.meet x y) z then some (.tup [.str "group", .int x, .int y, .int z]) else none) trivial (fun y hy δ hi R' hN' hR' => ?_) (fun hN' δ hi => ?_) (fun r hr => ?_) ⟨_, _, _, _, _, rfl⟩
    · obtain ⟨b, c, e, f, g, rfl⟩ := hi
      have mxy := w.mt (x := x) (y := y) (by omega) (by omega) (by omega) (by omega)
      obtain ⟨d1, e1, e2, e3⟩ := rows_at w hp (x := x) (by omega) (by omega)
      obtain ⟨d2, f1, f2, f3⟩ := rows_at w hp (x := y) (by omega) (by omega)
      obtain ⟨d3, g1, g2, g3⟩ := rows_at w hp mxy.2.1 mxy.2.2
      simp only [tFo, tIR1, wipeD, items_tup, items_lst, items_rng, tupleD, seqA_tup, seqA_lst, tSq, tIf', tTs, tO, tV, tK, tTr, truD, tNo, tAn, tOr', tAnV, tOrV', tNoV, tIfE, tN0, tCo, tTu, tLs, tCl, tFn, tMh, tRt, tRt0, tNx, tEx, tSe, tAs, gN, gS, gT, gsc, gs0, tU, i2, i2c, rNegD, intC, absD, minD, isD, eqi, eqs, eqb, nei, nes, neb, DL.rIsD, DL.rIsnD, rAddD, rMulD, tMe, tMe0, tBk, tCt, outD, EndsD.xk, startD, optP_some, List.map_cons, List.map_nil, List.length_cons, List.length_nil, List.cons_append, List.nil_append, List.append_nil, List.set_cons_zero, List.set_cons_succ, List.set_nil, List.getElem?_cons_zero, List.getElem?_cons_succ, List.replicate_succ, List.replicate_zero, Nat.zero_add, Nat.reduceAdd, Nat.reduceSub, decide_eq_true_eq, Bool.not_eq_true', decide_eq_false_iff_not, ix_eq h1 e1, ix_eq h1 f1, ix_eq e2 mxy.1, ix_eq h1 g1]
      refine ⟨⟨by omega, by omega⟩, ?_⟩
      refine forGo_findR (inv := fun δ => ∃ g, δ = [some d, some (.int A.n), some (.int x), some (.int y), some d1, some d2, some d3, g]) (f := fun z => if mt A.meet x (mt A.meet y z) ≠ mt A.meet (mt A.meet x y) z then some (.tup [.str "group", .int x, .int y, .int z]) else none) trivial (fun z hz δ hi R'' hN'' hR'' => ?_) (fun hN'' δ hi => ?_) (fun r hr => ?_) ⟨_, rfl⟩
      · obtain ⟨g, rfl⟩ := hi
        have myz := w.mt (x := y) (y := z) (by omega) (by omega) (by omega) (by omega)
        have mz := w.mt (x := x) (by omega) (by omega) myz.2.1 myz.2.2
        have mw := w.mt mxy.2.1 mxy.2.2 (y := z) (by omega) (by omega)
        simp only [wipeD, items_tup, items_lst, items_rng, tupleD, seqA_tup, seqA_lst, tSq, tIf', tTs, tO, tV, tK, tTr, truD, tNo, tAn, tOr', tAnV, tOrV', tNoV, tIfE, tN0, tCo, tTu, tLs, tCl, tFn, tMh, tRt, tRt0, tNx, tEx, tSe, tAs, gN, gS, gT, gsc, gs0, tU, i2, i2c, rNegD, intC, absD, minD, isD, eqi, eqs, eqb, nei, nes, neb, DL.rIsD, DL.rIsnD, rAddD, rMulD, tMe, tMe0, tBk, tCt, outD, EndsD.xk, startD, optP_some, List.map_cons, List.map_nil, List.length_cons, List.length_nil, List.cons_append, List.nil_append, List.append_nil, List.set_cons_zero, List.set_cons_succ, List.set_nil, List.getElem?_cons_zero, List.getElem?_cons_succ, List.replicate_succ, List.replicate_zero, Nat.zero_add, Nat.reduceAdd, Nat.reduceSub, decide_eq_true_eq, Bool.not_eq_true', decide_eq_false_iff_not, ix_eq f2 myz.1, ix_eq e2 mz.1, ix_eq g2 mw.1]
        split
        · rename_i q
          exact ⟨by rw [sizeLine_eq]; decide, hR'' _ (if_pos q)⟩
        · rename_i q
          exact hN'' (if_neg q) _ ⟨_, rfl⟩
      · obtain ⟨g, rfl⟩ := hi
        exact hN' hN'' _ ⟨_, _, _, _, _, rfl⟩
      · exact hR' r hr
    · obtain ⟨b, c, e, f, g, rfl⟩ := hi
      exact hN hN' _ ⟨_, _, _, _, _, _, rfl⟩
    · exact hR r hr
  · rw [show groupF A.meet A.n.toNat = none from hN] at h
    obtain ⟨a, b, c, e, f, g, rfl⟩ := hi
    exact out_ret h
  · rw [show groupF A.meet A.n.toNat = some r from hr] at h
    exact out_ret h
end K63
namespace K63
open PySem PySem.Spec PyProof.Rows L2 DL
variable [B : Obs] {K : PySem.W.Frag} {mg : Str → Option Value} {P : Program} {ds : List D} {M : Md} {Q : VD} {X : XD}
theorem abc_at {k : Nat} (hk : k < 3) (h : Q (.str (waysL.getD k Str.empty)) M) : rIxD (.str "abc") (.int (k : Int)) M Q := by
  match k, hk with
  | 0, _ => exact ⟨by decide +kernel, h⟩
  | 1, _ => exact ⟨by decide +kernel, h⟩
  | 2, _ => exact ⟨by decide +kernel, h⟩
theorem way_at {A : Alg} {dm dr da db dc : D} (ha : NumsAt M da A.a) (hb : NumsAt M db A.b) (hc : NumsAt M dc A.c) {k : Nat} (hk : k < 3) : ∃ d, atI [dm, dr, da, db, dc] (2 + (k : Int)) = some d ∧ NumsAt M d (wayT A (waysL.getD k Str.empty)) := by
  match k, hk with
  | 0, _ => exact ⟨da, atI_2, ha⟩
  | 1, _ => exact ⟨db, atI_3, hb⟩
  | 2, _ => exact ⟨dc, atI_4, hc⟩
theorem p__law_mays (h : sp__law_mays K ds M Q X) : t__law_mays K (outD Q X) (startD N__law_mays ds) M := by
  obtain ⟨A, d, rfl, tc, w, h⟩ := h
  obtain ⟨dm, dr, da, db, dc, xs, h0, h1, hp, hr, ha, hb, hc⟩ := id tc
  have lo := w.lo
  have hi := w.hi
  have hn : (A.n.toNat : Int) = A.n := by omega
  simp only [t__law_mays, N__law_mays, tFo, tIR1, wipeD, items_tup, items_lst, items_rng, tupleD, seqA_tup, seqA_lst, tSq, tIf', tTs, tO, tV, tK, tTr, truD, tNo, tAn, tOr', tAnV, tOrV', tNoV, tIfE, tN0, tCo, tTu, tLs, tCl, tFn, tMh, tRt, tRt0, tNx, tEx, tSe, tAs, gN, gS, gT, gsc, gs0, tU, i2, i2c, rNegD, intC, absD, minD, isD, eqi, eqs, eqb, nei, nes, neb, DL.rIsD, DL.rIsnD, rAddD, rMulD, tMe, tMe0, tBk, tCt, outD, EndsD.xk, startD, optP_some, List.map_cons, List.map_nil, List.length_cons, List.length_nil, List.cons_append, List.nil_append, List.append_nil, List.set_cons_zero, List.set_cons_succ, List.set_nil, List.getElem?_cons_zero, List.getElem?_cons_succ, List.replicate_succ, List.replicate_zero, Nat.zero_add, Nat.reduceAdd, Nat.reduceSub, decide_eq_true_eq, Bool.not_eq_true', decide_eq_false_iff_not]
  refine ⟨⟨by decide, by decide⟩, ?_⟩
  refine forGo_findR (n := 3) (inv := fun δ => ∃ a b c e g, δ = [some d, some (.int (zeroV A)), a, b, c, e, g]) (f := fun k => (fun w => if gi (wayT A w) (zeroV A) ≠ zeroV A then some (D.tup [.str "none", .str w]) else none) (waysL.getD k Str.empty)) trivial (fun k hk δ hi R hN hR => ?_) (fun hN δ hi => ?_) (fun r hr => ?_) ⟨_, _, _, _, _, rfl⟩
  · obtain ⟨a, b, c, e, g, rfl⟩ := hi
    obtain ⟨dk, e1, e2⟩ := way_at (dm := dm) (dr := dr) ha hb hc hk
    simp only [wipeD, items_tup, items_lst, items_rng, tupleD, seqA_tup, seqA_lst, tSq, tIf', tTs, tO, tV, tK, tTr, truD, tNo, tAn, tOr', tAnV, tOrV', tNoV, tIfE, tN0, tCo, tTu, tLs, tCl, tFn, tMh, tRt, tRt0, tNx, tEx, tSe, tAs, gN, gS, gT, gsc, gs0, tU, i2, i2c, rNegD, intC, absD, minD, isD, eqi, eqs, eqb, nei, nes, neb, DL.rIsD, DL.rIsnD, rAddD, rMulD, tMe, tMe0, tBk, tCt, outD, EndsD.xk, startD, optP_some, List.map_cons, List.map_nil, List.length_cons, List.length_nil, List.cons_append, List.nil_append, List.append_nil, List.set_cons_zero, List.set_cons_succ, List.set_nil, List.getElem?_cons_zero, List.getElem?_cons_succ, List.replicate_succ, List.replicate_zero, Nat.zero_add, Nat.reduceAdd, Nat.reduceSub, decide_eq_true_eq, Bool.not_eq_true', decide_eq_false_iff_not, ix_eq h0 e1, ix_eq e2 ((w.way (waysL.getD k Str.empty)).at w.zero.1 w.zero.2)]
    split
    · rename_i q
      exact abc_at hk ⟨by rw [sizeLine_eq]; decide, hR _ (if_pos q)⟩
    · rename_i q
      exact hN (if_neg q) _ ⟨_, _, _, _, _, rfl⟩
  · rw [show noneF A = none from hN] at h
    obtain ⟨a, b, c, e, g, rfl⟩ := hi
    have h : Q (orN (joinF A) .non) M := h
    simp only [tFo, tIR1, wipeD, items_tup, items_lst, items_rng, tupleD, seqA_tup, seqA_lst, tSq, tIf', tTs, tO, tV, tK, tTr, truD, tNo, tAn, tOr', tAnV, tOrV', tNoV, tIfE, tN0, tCo, tTu, tLs, tCl, tFn, tMh, tRt, tRt0, tNx, tEx, tSe, tAs, gN, gS, gT, gsc, gs0, tU, i2, i2c, rNegD, intC, absD, minD, isD, eqi, eqs, eqb, nei, nes, neb, DL.rIsD, DL.rIsnD, rAddD, rMulD, tMe, tMe0, tBk, tCt, outD, EndsD.xk, startD, optP_some, List.map_cons, List.map_nil, List.length_cons, List.length_nil, List.cons_append, List.nil_append, List.append_nil, List.set_cons_zero, List.set_cons_succ, List.set_nil, List.getElem?_cons_zero, List.getElem?_cons_succ, List.replicate_succ, List.replicate_zero, Nat.zero_add, Nat.reduceAdd, Nat.reduceSub, decide_eq_true_eq, Bool.not_eq_true', decide_eq_false_iff_not]
    refine ⟨⟨by decide, by decide⟩, ?_⟩
    refine forGo_findR (n := 3) (inv := fun δ => ∃ a b c e g, δ = [some d, some (.int (zeroV A)), a, b, c, e, g]) (f := fun k => (fun w => ff A.n.toNat fun x => ff A.n.toNat fun y => if gi (wayT A w) (joinV A x y) ≠ joinV A (gi (wayT A w) x) (gi (wayT A w) y) then some (D.tup [.str "join", .str w, .int x, .int y]) else none) (waysL.getD k Str.empty)) trivial (fun k hk δ hi R hN hR => ?_) (fun hN δ hi => ?_) (fun r hr => ?_) ⟨_, _, _, _, _, rfl⟩
    · obtain ⟨a, b, c, e, g, rfl⟩ := hi
      obtain ⟨dk, e1, e2⟩ := way_at (dm := dm) (dr := dr) ha hb hc hk
      have ab := fun Q' => @abc_at _ M Q' k hk
      have wt := w.way (waysL.getD k Str.empty)
      generalize waysL.getD k Str.empty = wy at *
      have wl := wt.len
      simp only [tFo, tIR1, wipeD, items_tup, items_lst, items_rng, tupleD, seqA_tup, seqA_lst, tSq, tIf', tTs, tO, tV, tK, tTr, truD, tNo, tAn, tOr', tAnV, tOrV', tNoV, tIfE, tN0, tCo, tTu, tLs, tCl, tFn, tMh, tRt, tRt0, tNx, tEx, tSe, tAs, gN, gS, gT, gsc, gs0, tU, i2, i2c, rNegD, intC, absD, minD, isD, eqi, eqs, eqb, nei, nes, neb, DL.rIsD, DL.rIsnD, rAddD, rMulD, tMe, tMe0, tBk, tCt, outD, EndsD.xk, startD, optP_some, List.map_cons, List.map_nil, List.length_cons, List.length_nil, List.cons_append, List.nil_append, List.append_nil, List.set_cons_zero, List.set_cons_succ, List.set_nil, List.getElem?_cons_zero, List.getElem?_cons_succ, List.replicate_succ, List.replicate_zero, Nat.zero_add, Nat.reduceAdd, Nat.reduceSub, decide_eq_true_eq, Bool.not_eq_true', decide_eq_false_iff_not, ix_eq h0 e1, len_eq e2, iL_len]
      refine ⟨⟨by omega, by omega⟩, ?_⟩
      rw [show ((wayT A wy).length : Int).toNat = A.n.toNat by omega]
      refine forGo_findR (inv := fun δ => ∃ c e g, δ = [some d, some (.int (zeroV A)), some (.int k), some dk, c, e, g]) (f := fun x => ff A.n.toNat fun y => if gi (wayT A wy) (joinV A x y) ≠ joinV A (gi (wayT A wy) x) (gi (wayT A wy) y) then some (D.tup [.str "join", .str wy, .int x, .int y]) else none) trivial (fun x hx δ hi R' hN' hR' => ?_) (fun hN' δ hi => ?_) (fun r hr => ?_) ⟨_, _, _, rfl⟩
      · obtain ⟨c, e, g, rfl⟩ := hi
        simp only [tFo, tIR1, wipeD, items_tup, items_lst, items_rng, tupleD, seqA_tup, seqA_lst, tSq, tIf', tTs, tO, tV, tK, tTr, truD, tNo, tAn, tOr', tAnV, tOrV', tNoV, tIfE, tN0, tCo, tTu, tLs, tCl, tFn, tMh, tRt, tRt0, tNx, tEx, tSe, tAs, gN, gS, gT, gsc, gs0, tU, i2, i2c, rNegD, intC, absD, minD, isD, eqi, eqs, eqb, nei, nes, neb, DL.rIsD, DL.rIsnD, rAddD, rMulD, tMe, tMe0, tBk, tCt, outD, EndsD.xk, startD, optP_some, List.map_cons, List.map_nil, List.length_cons, List.length_nil, List.cons_append, List.nil_append, List.append_nil, List.set_cons_zero, List.set_cons_succ, List.set_nil, List.getElem?_cons_zero, List.getElem?_cons_succ, List.replicate_succ, List.replicate_zero, Nat.zero_add, Nat.reduceAdd, Nat.reduceSub, decide_eq_true_eq, Bool.not_eq_true', decide_eq_false_iff_not, len_eq e2, iL_len]
        refine ⟨⟨by omega, by omega⟩, ?_⟩
        rw [show ((wayT A wy).length : Int).toNat = A.n.toNat by omega]
        refine forGo_findR (inv := fun δ => ∃ e g, δ = [some d, some (.int (zeroV A)), some (.int k), some dk, some (.int x), e, g]) (f := fun y => if gi (wayT A wy) (joinV A x y) ≠ joinV A (gi (wayT A wy) x) (gi (wayT A wy) y) then some (D.tup [.str "join", .str wy, .int x, .int y]) else none) trivial (fun y hy δ hi R'' hN'' hR'' => ?_) (fun hN'' δ hi => ?_) (fun r hr => ?_) ⟨_, _, rfl⟩
        · obtain ⟨e, g, rfl⟩ := hi
          have bx := wt.rg x (by omega) (by omega)
          have b_y := wt.rg y (by omega) (by omega)
          have bj := w.join (x := x) (y := y) (by omega) (by omega) (by omega) (by omega)
          simp only [wipeD, items_tup, items_lst, items_rng, tupleD, seqA_tup, seqA_lst, tSq, tIf', tTs, tO, tV, tK, tTr, truD, tNo, tAn, tOr', tAnV, tOrV', tNoV, tIfE, tN0, tCo, tTu, tLs, tCl, tFn, tMh, tRt, tRt0, tNx, tEx, tSe, tAs, gN, gS, gT, gsc, gs0, tU, i2, i2c, rNegD, intC, absD, minD, isD, eqi, eqs, eqb, nei, nes, neb, DL.rIsD, DL.rIsnD, rAddD, rMulD, tMe, tMe0, tBk, tCt, outD, EndsD.xk, startD, optP_some, List.map_cons, List.map_nil, List.length_cons, List.length_nil, List.cons_append, List.nil_append, List.append_nil, List.set_cons_zero, List.set_cons_succ, List.set_nil, List.getElem?_cons_zero, List.getElem?_cons_succ, List.replicate_succ, List.replicate_zero, Nat.zero_add, Nat.reduceAdd, Nat.reduceSub, decide_eq_true_eq, Bool.not_eq_true', decide_eq_false_iff_not]
          refine ⟨A, d, x, y, rfl, tc, w, by omega, by omega, by omega, by omega, ?_⟩
          simp only [wipeD, items_tup, items_lst, items_rng, tupleD, seqA_tup, seqA_lst, tSq, tIf', tTs, tO, tV, tK, tTr, truD, tNo, tAn, tOr', tAnV, tOrV', tNoV, tIfE, tN0, tCo, tTu, tLs, tCl, tFn, tMh, tRt, tRt0, tNx, tEx, tSe, tAs, gN, gS, gT, gsc, gs0, tU, i2, i2c, rNegD, intC, absD, minD, isD, eqi, eqs, eqb, nei, nes, neb, DL.rIsD, DL.rIsnD, rAddD, rMulD, tMe, tMe0, tBk, tCt, outD, EndsD.xk, startD, optP_some, List.map_cons, List.map_nil, List.length_cons, List.length_nil, List.cons_append, List.nil_append, List.append_nil, List.set_cons_zero, List.set_cons_succ, List.set_nil, List.getElem?_cons_zero, List.getElem?_cons_succ, List.replicate_succ, List.replicate_zero, Nat.zero_add, Nat.reduceAdd, Nat.reduceSub, decide_eq_true_eq, Bool.not_eq_true', decide_eq_false_iff_not, ix_eq e2 (wt.at bj.1 bj.2), ix_eq e2 (wt.at (x := x) (by omega) (by omega)), ix_eq e2 (wt.at (x := y) (by omega) (by omega))]
          refine ⟨A, d, _, _, rfl, tc, w, bx.1, bx.2, b_y.1, b_y.2, ?_⟩
          simp only [wipeD, items_tup, items_lst, items_rng, tupleD, seqA_tup, seqA_lst, tSq, tIf', tTs, tO, tV, tK, tTr, truD, tNo, tAn, tOr', tAnV, tOrV', tNoV, tIfE, tN0, tCo, tTu, tLs, tCl, tFn, tMh, tRt, tRt0, tNx, tEx, tSe, tAs, gN, gS, gT, gsc, gs0, tU, i2, i2c, rNegD, intC, absD, minD, isD, eqi, eqs, eqb, nei, nes, neb, DL.rIsD, DL.rIsnD, rAddD, rMulD, tMe, tMe0, tBk, tCt, outD, EndsD.xk, startD, optP_some, List.map_cons, List.map_nil, List.length_cons, List.length_nil, List.cons_append, List.nil_append, List.append_nil, List.set_cons_zero, List.set_cons_succ, List.set_nil, List.getElem?_cons_zero, List.getElem?_cons_succ, List.replicate_succ, List.replicate_zero, Nat.zero_add, Nat.reduceAdd, Nat.reduceSub, decide_eq_true_eq, Bool.not_eq_true', decide_eq_false_iff_not]
          split
          · rename_i q
            exact ab _ ⟨by rw [sizeLine_eq]; decide, hR'' _ (if_pos q)⟩
          · rename_i q
            exact hN'' (if_neg q) _ ⟨_, _, rfl⟩
        · obtain ⟨e, g, rfl⟩ := hi
          exact hN' hN'' _ ⟨_, _, _, rfl⟩
        · exact hR' r hr
      · obtain ⟨c, e, g, rfl⟩ := hi
        exact hN hN' _ ⟨_, _, _, _, _, rfl⟩
      · exact hR r hr
    · rw [show joinF A = none from hN] at h
      obtain ⟨a, b, c, e, g, rfl⟩ := hi
      exact out_ret h
    · rw [show joinF A = some r from hr] at h
      exact out_ret h
  · rw [show noneF A = some r from hr] at h
    exact out_ret h
theorem p__law_take (h : sp__law_take K ds M Q X) : t__law_take K (outD Q X) (startD N__law_take ds) M := by
  obtain ⟨st, cs, many, rfl, ⟨ns, i, c, hst, hcs, hi⟩, m0, m1, h⟩ := h
  have ne : cs ≠ st := fun e => by
    subst e
    rw [hst] at hcs
    cases ns with
    | nil => cases hcs
    | cons n ns => cases hcs
  -- whatever is written at st and cs
  have fin : ∀ (r : Int) (N : Md), 0 ≤ r → r < many → (∀ a, a ≠ st → a ≠ cs → N a = M a) → (∃ (ns' : List Int) (i' c' : Int), N st = some (.lst [.ref cs, .int i', .int c']) ∧ N cs = some (.lst (iL ns')) ∧ 0 ≤ i') → Q (.int r) N := fun r N r0 r1 e ⟨ns', i', c', e1, e2, e3⟩ => h r N r0 r1 ⟨fun a w ha n1 n2 => by rw [e a n1 n2]; exact ha⟩ (fun a ha => by
      have n1 : a ≠ st := fun z => by subst z; rw [hst] at ha; cases ha
      have n2 : a ≠ cs := fun z => by subst z; rw [hcs] at ha; cases ha
      rw [e a n1 n2]
      exact ha) ⟨ns', i', c', e1, e2, e3⟩
  simp only [N__law_take, startD, List.map_cons, List.map_nil, List.length_cons, List.length_nil, Nat.zero_add, Nat.reduceAdd, Nat.reduceSub, List.replicate_succ, List.replicate_zero, List.cons_append, List.nil_append]
  unfold t__law_take
  refine tSq_step fun T hT => ?_
  simp only [wipeD, items_tup, items_lst, items_rng, tupleD, seqA_tup, seqA_lst, tSq, tIf', tTs, tO, tV, tK, tTr, truD, tNo, tAn, tOr', tAnV, tOrV', tNoV, tIfE, tN0, tCo, tTu, tLs, tCl, tFn, tMh, tRt, tRt0, tNx, tEx, tSe, tAs, gN, gS, gT, gsc, gs0, tU, i2, i2c, rNegD, intC, absD, minD, isD, eqi, eqs, eqb, nei, nes, neb, DL.rIsD, DL.rIsnD, rAddD, rMulD, tMe, tMe0, tBk, tCt, outD, EndsD.xk, startD, optP_some, List.map_cons, List.map_nil, List.length_cons, List.length_nil, List.cons_append, List.nil_append, List.append_nil, List.set_cons_zero, List.set_cons_succ, List.set_nil, List.getElem?_cons_zero, List.getElem?_cons_succ, List.replicate_succ, List.replicate_zero, Nat.zero_add, Nat.reduceAdd, Nat.reduceSub, decide_eq_true_eq, Bool.not_eq_true', decide_eq_false_iff_not, ix_eq (seqA_ref hst) atI_2, setD_eq hst (j := 2) (by omega) (by simp)]
  subst hT
  obtain ⟨N, hN⟩ : ∃ N, N = put M st (MC.lst ([D.ref cs, D.int i, D.int c].set (Int.toNat 2) (D.int (c + 1)))) := ⟨_, rfl⟩
  rw [← hN]
  have nst : N st = some (.lst [.ref cs, .int i, .int (c + 1)]) := by rw [hN]; exact put_same
  have ncs : N cs = some (.lst (iL ns)) := by rw [hN, put_ne ne]; exact hcs
  have not : ∀ a, a ≠ st → a ≠ cs → N a = M a := fun a n1 _ => by rw [hN, put_ne n1]
  refine tSq_step fun T hT => ?_
  simp only [wipeD, items_tup, items_lst, items_rng, tupleD, seqA_tup, seqA_lst, tSq, tIf', tTs, tO, tV, tK, tTr, truD, tNo, tAn, tOr', tAnV, tOrV', tNoV, tIfE, tN0, tCo, tTu, tLs, tCl, tFn, tMh, tRt, tRt0, tNx, tEx, tSe, tAs, gN, gS, gT, gsc, gs0, tU, i2, i2c, rNegD, intC, absD, minD, isD, eqi, eqs, eqb, nei, nes, neb, DL.rIsD, DL.rIsnD, rAddD, rMulD, tMe, tMe0, tBk, tCt, outD, EndsD.xk, startD, optP_some, List.map_cons, List.map_nil, List.length_cons, List.length_nil, List.cons_append, List.nil_append, List.append_nil, List.set_cons_zero, List.set_cons_succ, List.set_nil, List.getElem?_cons_zero, List.getElem?_cons_succ, List.replicate_succ, List.replicate_zero, Nat.zero_add, Nat.reduceAdd, Nat.reduceSub, decide_eq_true_eq, Bool.not_eq_true', decide_eq_false_iff_not]
  split
  · exact out_ret (fin 0 N (by omega) m0 not ⟨ns, i, c + 1, nst, ncs, hi⟩)
  · rename_i q2
    subst hT
    refine tSq_step fun T hT => ?_
    simp only [wipeD, items_tup, items_lst, items_rng, tupleD, seqA_tup, seqA_lst, tSq, tIf', tTs, tO, tV, tK, tTr, truD, tNo, tAn, tOr', tAnV, tOrV', tNoV, tIfE, tN0, tCo, tTu, tLs, tCl, tFn, tMh, tRt, tRt0, tNx, tEx, tSe, tAs, gN, gS, gT, gsc, gs0, tU, i2, i2c, rNegD, intC, absD, minD, isD, eqi, eqs, eqb, nei, nes, neb, DL.rIsD, DL.rIsnD, rAddD, rMulD, tMe, tMe0, tBk, tCt, outD, EndsD.xk, startD, optP_some, List.map_cons, List.map_nil, List.length_cons, List.length_nil, List.cons_append, List.nil_append, List.append_nil, List.set_cons_zero, List.set_cons_succ, List.set_nil, List.getElem?_cons_zero, List.getElem?_cons_succ, List.replicate_succ, List.replicate_zero, Nat.zero_add, Nat.reduceAdd, Nat.reduceSub, decide_eq_true_eq, Bool.not_eq_true', decide_eq_false_iff_not, ix_eq (seqA_ref nst) atI_1, ix_eq (seqA_ref nst) atI_0, len_eq (seqA_ref ncs), iL_len]
    split
    · rename_i q3
      have hii : atI (iL ns) i = some (.int (gi ns i)) := atI_iL hi q3
      simp only [wipeD, items_tup, items_lst, items_rng, tupleD, seqA_tup, seqA_lst, tSq, tIf', tTs, tO, tV, tK, tTr, truD, tNo, tAn, tOr', tAnV, tOrV', tNoV, tIfE, tN0, tCo, tTu, tLs, tCl, tFn, tMh, tRt, tRt0, tNx, tEx, tSe, tAs, gN, gS, gT, gsc, gs0, tU, i2, i2c, rNegD, intC, absD, minD, isD, eqi, eqs, eqb, nei, nes, neb, DL.rIsD, DL.rIsnD, rAddD, rMulD, tMe, tMe0, tBk, tCt, outD, EndsD.xk, startD, optP_some, List.map_cons, List.map_nil, List.length_cons, List.length_nil, List.cons_append, List.nil_append, List.append_nil, List.set_cons_zero, List.set_cons_succ, List.set_nil, List.getElem?_cons_zero, List.getElem?_cons_succ, List.replicate_succ, List.replicate_zero, Nat.zero_add, Nat.reduceAdd, Nat.reduceSub, decide_eq_true_eq, Bool.not_eq_true', decide_eq_false_iff_not, ix_eq (seqA_ref nst) atI_1, ix_eq (seqA_ref nst) atI_0, ix_eq (seqA_ref ncs) hii, i2c, setD_eq ncs hi (by rw [iL_len]; exact q3), iL_set]
      refine ⟨⟨m0, by omega⟩, ?_⟩
      obtain ⟨N2, hN2⟩ : ∃ N2, N2 = put N cs (MC.lst (iL (ns.set i.toNat (gi ns i / many)))) := ⟨_, rfl⟩
      rw [← hN2]
      have nst2 : N2 st = some (.lst [.ref cs, .int i, .int (c + 1)]) := by rw [hN2, put_ne (Ne.symm ne)]; exact nst
      have ncs2 : N2 cs = some (.lst (iL (ns.set i.toNat (gi ns i / many)))) := by rw [hN2]; exact put_same
      have not2 : ∀ a, a ≠ st → a ≠ cs → N2 a = M a := fun a n1 n2 => by rw [hN2, put_ne n2]; exact not a n1 n2
      split
      · simp only [wipeD, items_tup, items_lst, items_rng, tupleD, seqA_tup, seqA_lst, tSq, tIf', tTs, tO, tV, tK, tTr, truD, tNo, tAn, tOr', tAnV, tOrV', tNoV, tIfE, tN0, tCo, tTu, tLs, tCl, tFn, tMh, tRt, tRt0, tNx, tEx, tSe, tAs, gN, gS, gT, gsc, gs0, tU, i2, i2c, rNegD, intC, absD, minD, isD, eqi, eqs, eqb, nei, nes, neb, DL.rIsD, DL.rIsnD, rAddD, rMulD, tMe, tMe0, tBk, tCt, outD, EndsD.xk, startD, optP_some, List.map_cons, List.map_nil, List.length_cons, List.length_nil, List.cons_append, List.nil_append, List.append_nil, List.set_cons_zero, List.set_cons_succ, List.set_nil, List.getElem?_cons_zero, List.getElem?_cons_succ, List.replicate_succ, List.replicate_zero, Nat.zero_add, Nat.reduceAdd, Nat.reduceSub, decide_eq_true_eq, Bool.not_eq_true', decide_eq_false_iff_not, ix_eq (seqA_ref nst2) atI_1, setD_eq nst2 (j := 1) (by omega) (by simp)]
        refine ⟨m0, out_ret (fin _ _ (Int.emod_nonneg _ (by omega)) (Int.emod_lt_of_pos _ m0) (fun a n1 n2 => by rw [put_ne n1]; exact not2 a n1 n2) ⟨_, i + 1, c + 1, put_same, by rw [put_ne ne]; exact ncs2, by omega⟩)⟩
      · exact ⟨m0, out_ret (fin _ _ (Int.emod_nonneg _ (by omega)) (Int.emod_lt_of_pos _ m0) not2 ⟨_, i, c + 1, nst2, ncs2, hi⟩)⟩
    · subst hT
      simp only [wipeD, items_tup, items_lst, items_rng, tupleD, seqA_tup, seqA_lst, tSq, tIf', tTs, tO, tV, tK, tTr, truD, tNo, tAn, tOr', tAnV, tOrV', tNoV, tIfE, tN0, tCo, tTu, tLs, tCl, tFn, tMh, tRt, tRt0, tNx, tEx, tSe, tAs, gN, gS, gT, gsc, gs0, tU, i2, i2c, rNegD, intC, absD, minD, isD, eqi, eqs, eqb, nei, nes, neb, DL.rIsD, DL.rIsnD, rAddD, rMulD, tMe, tMe0, tBk, tCt, outD, EndsD.xk, startD, optP_some, List.map_cons, List.map_nil, List.length_cons, List.length_nil, List.cons_append, List.nil_append, List.append_nil, List.set_cons_zero, List.set_cons_succ, List.set_nil, List.getElem?_cons_zero, List.getElem?_cons_succ, List.replicate_succ, List.replicate_zero, Nat.zero_add, Nat.reduceAdd, Nat.reduceSub, decide_eq_true_eq, Bool.not_eq_true', decide_eq_false_iff_not, ix_eq (seqA_ref nst) atI_2, i2c]
      refine ⟨.inr ⟨by decide, by decide⟩, by omega, m0, out_ret (fin _ _ (Int.emod_nonneg _ (by omega)) (Int.emod_lt_of_pos _ m0) not ⟨ns, i, c + 1, nst, ncs, hi⟩)⟩
theorem tyN_int {i : Int} : tyN M (.int i) = some "int" := rfl
theorem tyN_str {i : Str} : tyN M (.str i) = some "str" := rfl
theorem tyN_tup {xs : List D} : tyN M (.tup xs) = some "tuple" := rfl
theorem tyN_non : tyN M .non = some "NoneType" := rfl
theorem p__law_is_row (h : sp__law_is_row K ds M Q X) : t__law_is_row K (outD Q X) (startD N__law_is_row ds) M := by
  obtain ⟨a, b, d, rfl, hd, hl, h⟩ := h
  simp only [t__law_is_row, N__law_is_row, wipeD, items_tup, items_lst, items_rng, tupleD, seqA_tup, seqA_lst, tSq, tIf', tTs, tO, tV, tK, tTr, truD, tNo, tAn, tOr', tAnV, tOrV', tNoV, tIfE, tN0, tCo, tTu, tLs, tCl, tFn, tMh, tRt, tRt0, tNx, tEx, tSe, tAs, gN, gS, gT, gsc, gs0, tU, i2, i2c, rNegD, intC, absD, minD, isD, eqi, eqs, eqb, nei, nes, neb, DL.rIsD, DL.rIsnD, rAddD, rMulD, tMe, tMe0, tBk, tCt, outD, EndsD.xk, startD, optP_some, List.map_cons, List.map_nil, List.length_cons, List.length_nil, List.cons_append, List.nil_append, List.append_nil, List.set_cons_zero, List.set_cons_succ, List.set_nil, List.getElem?_cons_zero, List.getElem?_cons_succ, List.replicate_succ, List.replicate_zero, Nat.zero_add, Nat.reduceAdd, Nat.reduceSub, decide_eq_true_eq, Bool.not_eq_true', decide_eq_false_iff_not, tyN_tup, len_eq (seqA_tup (xs := iL a)), len_eq hd, iL_len]
  refine ⟨by decide, ?_⟩
  rw [if_neg (by decide)]
  split
  · rename_i q
    rw [decide_eq_false (fun e => q (by rw [e]))] at h
    exact out_ret h
  · rename_i q
    have q : a.length = b.length := by
      have := Decidable.not_not.mp q
      omega
    simp only [tFo, tIR1, wipeD, items_tup, items_lst, items_rng, tupleD, seqA_tup, seqA_lst, tSq, tIf', tTs, tO, tV, tK, tTr, truD, tNo, tAn, tOr', tAnV, tOrV', tNoV, tIfE, tN0, tCo, tTu, tLs, tCl, tFn, tMh, tRt, tRt0, tNx, tEx, tSe, tAs, gN, gS, gT, gsc, gs0, tU, i2, i2c, rNegD, intC, absD, minD, isD, eqi, eqs, eqb, nei, nes, neb, DL.rIsD, DL.rIsnD, rAddD, rMulD, tMe, tMe0, tBk, tCt, outD, EndsD.xk, startD, optP_some, List.map_cons, List.map_nil, List.length_cons, List.length_nil, List.cons_append, List.nil_append, List.append_nil, List.set_cons_zero, List.set_cons_succ, List.set_nil, List.getElem?_cons_zero, List.getElem?_cons_succ, List.replicate_succ, List.replicate_zero, Nat.zero_add, Nat.reduceAdd, Nat.reduceSub, decide_eq_true_eq, Bool.not_eq_true', decide_eq_false_iff_not, len_eq hd, iL_len]
    refine ⟨⟨by omega, by omega⟩, ?_⟩
    rw [Int.toNat_natCast]
    refine forGo_findR (inv := fun δ => ∃ g, δ = [some (.tup (iL a)), some d, g]) (f := fun k => if gi a k ≠ gi b k then some (.bl false) else none) trivial (fun k hk δ hi R hN hR => ?_) (fun hN δ hi => ?_) (fun r hr => ?_) ⟨_, rfl⟩
    · obtain ⟨g, rfl⟩ := hi
      have e1 : atI (iL a) k = some (.int (gi a k)) := atI_iL (by omega) (by omega)
      have e2 : atI (iL b) k = some (.int (gi b k)) := atI_iL (by omega) (by omega)
      simp only [wipeD, items_tup, items_lst, items_rng, tupleD, seqA_tup, seqA_lst, tSq, tIf', tTs, tO, tV, tK, tTr, truD, tNo, tAn, tOr', tAnV, tOrV', tNoV, tIfE, tN0, tCo, tTu, tLs, tCl, tFn, tMh, tRt, tRt0, tNx, tEx, tSe, tAs, gN, gS, gT, gsc, gs0, tU, i2, i2c, rNegD, intC, absD, minD, isD, eqi, eqs, eqb, nei, nes, neb, DL.rIsD, DL.rIsnD, rAddD, rMulD, tMe, tMe0, tBk, tCt, outD, EndsD.xk, startD, optP_some, List.map_cons, List.map_nil, List.length_cons, List.length_nil, List.cons_append, List.nil_append, List.append_nil, List.set_cons_zero, List.set_cons_succ, List.set_nil, List.getElem?_cons_zero, List.getElem?_cons_succ, List.replicate_succ, List.replicate_zero, Nat.zero_add, Nat.reduceAdd, Nat.reduceSub, decide_eq_true_eq, Bool.not_eq_true', decide_eq_false_iff_not, rIx_tup, e1]
      refine ⟨_, rfl, by rw [tyN_int]; rfl, ?_⟩
      simp only [isInt, wipeD, items_tup, items_lst, items_rng, tupleD, seqA_tup, seqA_lst, tSq, tIf', tTs, tO, tV, tK, tTr, truD, tNo, tAn, tOr', tAnV, tOrV', tNoV, tIfE, tN0, tCo, tTu, tLs, tCl, tFn, tMh, tRt, tRt0, tNx, tEx, tSe, tAs, gN, gS, gT, gsc, gs0, tU, i2, i2c, rNegD, intC, absD, minD, isD, eqi, eqs, eqb, nei, nes, neb, DL.rIsD, DL.rIsnD, rAddD, rMulD, tMe, tMe0, tBk, tCt, outD, EndsD.xk, startD, optP_some, List.map_cons, List.map_nil, List.length_cons, List.length_nil, List.cons_append, List.nil_append, List.append_nil, List.set_cons_zero, List.set_cons_succ, List.set_nil, List.getElem?_cons_zero, List.getElem?_cons_succ, List.replicate_succ, List.replicate_zero, Nat.zero_add, Nat.reduceAdd, Nat.reduceSub, decide_eq_true_eq, Bool.not_eq_true', decide_eq_false_iff_not, ix_eq hd e2]
      rw [if_neg (by decide)]
      split
      · rename_i c
        exact hR _ (if_pos c)
      · rename_i c
        exact hN (if_neg c) _ ⟨_, rfl⟩
    · have e : a = b := rows_ne q rfl (f := fun _ => .bl false) hN
      rw [decide_eq_true e] at h
      exact out_ret h
    · obtain ⟨k, hk, e1, _⟩ := ff_some hr
      split at e1
      · rename_i c
        cases e1
        rw [decide_eq_false (fun e => c (by rw [e]))] at h
        exact out_ret h
      · cases e1
theorem p__law_is_fault (h : sp__law_is_fault K ds M Q X) : t__law_is_fault K (outD Q X) (startD N__law_is_fault ds) M := by
  obtain ⟨d, rfl, hd, h⟩ := h
  rcases hd with rfl | ⟨xs, rfl, hl, hx⟩
  · simp only [t__law_is_fault, N__law_is_fault, wipeD, items_tup, items_lst, items_rng, tupleD, seqA_tup, seqA_lst, tSq, tIf', tTs, tO, tV, tK, tTr, truD, tNo, tAn, tOr', tAnV, tOrV', tNoV, tIfE, tN0, tCo, tTu, tLs, tCl, tFn, tMh, tRt, tRt0, tNx, tEx, tSe, tAs, gN, gS, gT, gsc, gs0, tU, i2, i2c, rNegD, intC, absD, minD, isD, eqi, eqs, eqb, nei, nes, neb, DL.rIsD, DL.rIsnD, rAddD, rMulD, tMe, tMe0, tBk, tCt, outD, EndsD.xk, startD, optP_some, List.map_cons, List.map_nil, List.length_cons, List.length_nil, List.cons_append, List.nil_append, List.append_nil, List.set_cons_zero, List.set_cons_succ, List.set_nil, List.getElem?_cons_zero, List.getElem?_cons_succ, List.replicate_succ, List.replicate_zero, Nat.zero_add, Nat.reduceAdd, Nat.reduceSub, decide_eq_true_eq, Bool.not_eq_true', decide_eq_false_iff_not, isNon, if_true]
    exact out_ret h
  · simp only [t__law_is_fault, N__law_is_fault, wipeD, items_tup, items_lst, items_rng, tupleD, seqA_tup, seqA_lst, tSq, tIf', tTs, tO, tV, tK, tTr, truD, tNo, tAn, tOr', tAnV, tOrV', tNoV, tIfE, tN0, tCo, tTu, tLs, tCl, tFn, tMh, tRt, tRt0, tNx, tEx, tSe, tAs, gN, gS, gT, gsc, gs0, tU, i2, i2c, rNegD, intC, absD, minD, isD, eqi, eqs, eqb, nei, nes, neb, DL.rIsD, DL.rIsnD, rAddD, rMulD, tMe, tMe0, tBk, tCt, outD, EndsD.xk, startD, optP_some, List.map_cons, List.map_nil, List.length_cons, List.length_nil, List.cons_append, List.nil_append, List.append_nil, List.set_cons_zero, List.set_cons_succ, List.set_nil, List.getElem?_cons_zero, List.getElem?_cons_succ, List.replicate_succ, List.replicate_zero, Nat.zero_add, Nat.reduceAdd, Nat.reduceSub, decide_eq_true_eq, Bool.not_eq_true', decide_eq_false_iff_not, isNon, tyN_tup, len_eq (seqA_tup (xs := xs)), Bool.false_eq_true, if_false]
    refine ⟨by decide, ?_⟩
    rw [if_neg (by decide), if_neg (by simp)]
    simp only [tFo, tIR1, wipeD, items_tup, items_lst, items_rng, tupleD, seqA_tup, seqA_lst, tSq, tIf', tTs, tO, tV, tK, tTr, truD, tNo, tAn, tOr', tAnV, tOrV', tNoV, tIfE, tN0, tCo, tTu, tLs, tCl, tFn, tMh, tRt, tRt0, tNx, tEx, tSe, tAs, gN, gS, gT, gsc, gs0, tU, i2, i2c, rNegD, intC, absD, minD, isD, eqi, eqs, eqb, nei, nes, neb, DL.rIsD, DL.rIsnD, rAddD, rMulD, tMe, tMe0, tBk, tCt, outD, EndsD.xk, startD, optP_some, List.map_cons, List.map_nil, List.length_cons, List.length_nil, List.cons_append, List.nil_append, List.append_nil, List.set_cons_zero, List.set_cons_succ, List.set_nil, List.getElem?_cons_zero, List.getElem?_cons_succ, List.replicate_succ, List.replicate_zero, Nat.zero_add, Nat.reduceAdd, Nat.reduceSub, decide_eq_true_eq, Bool.not_eq_true', decide_eq_false_iff_not, len_eq (seqA_tup (xs := xs))]
    refine ⟨⟨by omega, by omega⟩, ?_⟩
    rw [Int.toNat_natCast]
    refine forGo_findR (inv := fun δ => ∃ g, δ = [some (.tup xs), some (.tup xs), g]) (f := fun k => none) trivial (fun k hk δ hi R hN hR => ?_) (fun hN δ hi => ?_) (fun r hr => ?_) ⟨_, rfl⟩
    · obtain ⟨g, rfl⟩ := hi
      have e1 : atI xs (k : Int) = some xs[k] := by
        rw [atI_in (by omega) (by omega), Int.toNat_natCast, List.getElem?_eq_getElem hk]
      rcases hx xs[k] (List.getElem_mem _) with ⟨s, es⟩ | ⟨i, es⟩
      · rw [es] at e1
        simp only [wipeD, items_tup, items_lst, items_rng, tupleD, seqA_tup, seqA_lst, tSq, tIf', tTs, tO, tV, tK, tTr, truD, tNo, tAn, tOr', tAnV, tOrV', tNoV, tIfE, tN0, tCo, tTu, tLs, tCl, tFn, tMh, tRt, tRt0, tNx, tEx, tSe, tAs, gN, gS, gT, gsc, gs0, tU, i2, i2c, rNegD, intC, absD, minD, isD, eqi, eqs, eqb, nei, nes, neb, DL.rIsD, DL.rIsnD, rAddD, rMulD, tMe, tMe0, tBk, tCt, outD, EndsD.xk, startD, optP_some, List.map_cons, List.map_nil, List.length_cons, List.length_nil, List.cons_append, List.nil_append, List.append_nil, List.set_cons_zero, List.set_cons_succ, List.set_nil, List.getElem?_cons_zero, List.getElem?_cons_succ, List.replicate_succ, List.replicate_zero, Nat.zero_add, Nat.reduceAdd, Nat.reduceSub, decide_eq_true_eq, Bool.not_eq_true', decide_eq_false_iff_not, rIx_tup, e1, tyN_str]
        refine ⟨by decide, ?_⟩
        rw [if_pos (by decide)]
        refine ⟨by decide, ?_⟩
        rw [if_neg (by decide)]
        refine ⟨by decide, ?_⟩
        rw [if_neg (by decide)]
        rw [if_neg (by simp)]
        exact hN rfl _ ⟨_, rfl⟩
      · rw [es] at e1
        simp only [wipeD, items_tup, items_lst, items_rng, tupleD, seqA_tup, seqA_lst, tSq, tIf', tTs, tO, tV, tK, tTr, truD, tNo, tAn, tOr', tAnV, tOrV', tNoV, tIfE, tN0, tCo, tTu, tLs, tCl, tFn, tMh, tRt, tRt0, tNx, tEx, tSe, tAs, gN, gS, gT, gsc, gs0, tU, i2, i2c, rNegD, intC, absD, minD, isD, eqi, eqs, eqb, nei, nes, neb, DL.rIsD, DL.rIsnD, rAddD, rMulD, tMe, tMe0, tBk, tCt, outD, EndsD.xk, startD, optP_some, List.map_cons, List.map_nil, List.length_cons, List.length_nil, List.cons_append, List.nil_append, List.append_nil, List.set_cons_zero, List.set_cons_succ, List.set_nil, List.getElem?_cons_zero, List.getElem?_cons_succ, List.replicate_succ, List.replicate_zero, Nat.zero_add, Nat.reduceAdd, Nat.reduceSub, decide_eq_true_eq, Bool.not_eq_true', decide_eq_false_iff_not, rIx_tup, e1, tyN_int]
        refine ⟨by decide, ?_⟩
        rw [if_neg (by decide)]
        refine ⟨by decide, ?_⟩
        rw [if_pos (by decide)]
        refine ⟨_, rfl, by rw [tyN_int]; rfl, ?_⟩
        rw [show isInt (D.int i) = true from rfl]
        simp only [wipeD, items_tup, items_lst, items_rng, tupleD, seqA_tup, seqA_lst, tSq, tIf', tTs, tO, tV, tK, tTr, truD, tNo, tAn, tOr', tAnV, tOrV', tNoV, tIfE, tN0, tCo, tTu, tLs, tCl, tFn, tMh, tRt, tRt0, tNx, tEx, tSe, tAs, gN, gS, gT, gsc, gs0, tU, i2, i2c, rNegD, intC, absD, minD, isD, eqi, eqs, eqb, nei, nes, neb, DL.rIsD, DL.rIsnD, rAddD, rMulD, tMe, tMe0, tBk, tCt, outD, EndsD.xk, startD, optP_some, List.map_cons, List.map_nil, List.length_cons, List.length_nil, List.cons_append, List.nil_append, List.append_nil, List.set_cons_zero, List.set_cons_succ, List.set_nil, List.getElem?_cons_zero, List.getElem?_cons_succ, List.replicate_succ, List.replicate_zero, Nat.zero_add, Nat.reduceAdd, Nat.reduceSub, decide_eq_true_eq, Bool.not_eq_true', decide_eq_false_iff_not, Bool.true_eq_false, not_true, if_false]
        exact hN rfl _ ⟨_, rfl⟩
    · obtain ⟨g, rfl⟩ := hi
      exact out_ret h
    · rw [ff_none (fun _ _ => rfl)] at hr
      cases hr
end K63
namespace K63
open PySem PySem.Spec PyProof.Rows L2 DL
variable [B : Obs] {K : PySem.W.Frag} {mg : Str → Option Value} {P : Program} {ds : List D} {M : Md} {Q : VD} {X : XD}
theorem p__law_first_fault (h : sp__law_first_fault K ds M Q X) : t__law_first_fault K (outD Q X) (startD N__law_first_fault ds) M := by
  obtain ⟨A, d, rfl, tc, w, h⟩ := h
  obtain ⟨dm, dr, da, db, dc, xs, h0, h1, hp, hr, ha, hb, hc⟩ := id tc
  have lo := w.lo
  have hi := w.hi
  have hn : (A.n.toNat : Int) = A.n := by omega
  have rl := w.r.len
  unfold faultV at h
  simp only [N__law_first_fault, startD, List.map_cons, List.map_nil, List.length_cons, List.length_nil, Nat.zero_add, Nat.reduceAdd, Nat.reduceSub, List.replicate_succ, List.replicate_zero, List.cons_append, List.nil_append]
  unfold t__law_first_fault
  refine tSq_step fun T hT => ?_
  simp only [wipeD, items_tup, items_lst, items_rng, tupleD, seqA_tup, seqA_lst, tSq, tIf', tTs, tO, tV, tK, tTr, truD, tNo, tAn, tOr', tAnV, tOrV', tNoV, tIfE, tN0, tCo, tTu, tLs, tCl, tFn, tMh, tRt, tRt0, tNx, tEx, tSe, tAs, gN, gS, gT, gsc, gs0, tU, i2, i2c, rNegD, intC, absD, minD, isD, eqi, eqs, eqb, nei, nes, neb, DL.rIsD, DL.rIsnD, rAddD, rMulD, tMe, tMe0, tBk, tCt, outD, EndsD.xk, startD, optP_some, List.map_cons, List.map_nil, List.length_cons, List.length_nil, List.cons_append, List.nil_append, List.append_nil, List.set_cons_zero, List.set_cons_succ, List.set_nil, List.getElem?_cons_zero, List.getElem?_cons_succ, List.replicate_succ, List.replicate_zero, Nat.zero_add, Nat.reduceAdd, Nat.reduceSub, decide_eq_true_eq, Bool.not_eq_true', decide_eq_false_iff_not, ix_eq h0 atI_0]
  subst hT
  try dsimp only
  refine tSq_step fun T hT => ?_
  simp only [wipeD, items_tup, items_lst, items_rng, tupleD, seqA_tup, seqA_lst, tSq, tIf', tTs, tO, tV, tK, tTr, truD, tNo, tAn, tOr', tAnV, tOrV', tNoV, tIfE, tN0, tCo, tTu, tLs, tCl, tFn, tMh, tRt, tRt0, tNx, tEx, tSe, tAs, gN, gS, gT, gsc, gs0, tU, i2, i2c, rNegD, intC, absD, minD, isD, eqi, eqs, eqb, nei, nes, neb, DL.rIsD, DL.rIsnD, rAddD, rMulD, tMe, tMe0, tBk, tCt, outD, EndsD.xk, startD, optP_some, List.map_cons, List.map_nil, List.length_cons, List.length_nil, List.cons_append, List.nil_append, List.append_nil, List.set_cons_zero, List.set_cons_succ, List.set_nil, List.getElem?_cons_zero, List.getElem?_cons_succ, List.replicate_succ, List.replicate_zero, Nat.zero_add, Nat.reduceAdd, Nat.reduceSub, decide_eq_true_eq, Bool.not_eq_true', decide_eq_false_iff_not, ix_eq h0 atI_1]
  subst hT
  try dsimp only
  refine tSq_step fun T hT => ?_
  simp only [wipeD, items_tup, items_lst, items_rng, tupleD, seqA_tup, seqA_lst, tSq, tIf', tTs, tO, tV, tK, tTr, truD, tNo, tAn, tOr', tAnV, tOrV', tNoV, tIfE, tN0, tCo, tTu, tLs, tCl, tFn, tMh, tRt, tRt0, tNx, tEx, tSe, tAs, gN, gS, gT, gsc, gs0, tU, i2, i2c, rNegD, intC, absD, minD, isD, eqi, eqs, eqb, nei, nes, neb, DL.rIsD, DL.rIsnD, rAddD, rMulD, tMe, tMe0, tBk, tCt, outD, EndsD.xk, startD, optP_some, List.map_cons, List.map_nil, List.length_cons, List.length_nil, List.cons_append, List.nil_append, List.append_nil, List.set_cons_zero, List.set_cons_succ, List.set_nil, List.getElem?_cons_zero, List.getElem?_cons_succ, List.replicate_succ, List.replicate_zero, Nat.zero_add, Nat.reduceAdd, Nat.reduceSub, decide_eq_true_eq, Bool.not_eq_true', decide_eq_false_iff_not, len_eq hr, iL_len, rl]
  subst hT
  try dsimp only
  refine tSq_step fun T hT => ?_
  simp only [tFo, tIR1, wipeD, items_tup, items_lst, items_rng, tupleD, seqA_tup, seqA_lst, tSq, tIf', tTs, tO, tV, tK, tTr, truD, tNo, tAn, tOr', tAnV, tOrV', tNoV, tIfE, tN0, tCo, tTu, tLs, tCl, tFn, tMh, tRt, tRt0, tNx, tEx, tSe, tAs, gN, gS, gT, gsc, gs0, tU, i2, i2c, rNegD, intC, absD, minD, isD, eqi, eqs, eqb, nei, nes, neb, DL.rIsD, DL.rIsnD, rAddD, rMulD, tMe, tMe0, tBk, tCt, outD, EndsD.xk, startD, optP_some, List.map_cons, List.map_nil, List.length_cons, List.length_nil, List.cons_append, List.nil_append, List.append_nil, List.set_cons_zero, List.set_cons_succ, List.set_nil, List.getElem?_cons_zero, List.getElem?_cons_succ, List.replicate_succ, List.replicate_zero, Nat.zero_add, Nat.reduceAdd, Nat.reduceSub, decide_eq_true_eq, Bool.not_eq_true', decide_eq_false_iff_not]
  refine ⟨⟨by omega, by omega⟩, ?_⟩
  refine forGo_findR (inv := fun δ => ∃ a b c e, δ = [some d, some dm, some dr, some (.int A.n), a, b, c, e]) (f := fun x => ff A.n.toNat fun y => if mt A.meet x y ≠ mt A.meet y x then some (.tup [.str "order", .int x, .int y]) else none) trivial (fun x hx δ hi R hN hR => ?_) (fun hN δ hi => ?_) (fun r hr => ?_) ⟨_, _, _, _, rfl⟩
  · obtain ⟨a, b, c, e, rfl⟩ := hi
    simp only [tFo, tIR1, wipeD, items_tup, items_lst, items_rng, tupleD, seqA_tup, seqA_lst, tSq, tIf', tTs, tO, tV, tK, tTr, truD, tNo, tAn, tOr', tAnV, tOrV', tNoV, tIfE, tN0, tCo, tTu, tLs, tCl, tFn, tMh, tRt, tRt0, tNx, tEx, tSe, tAs, gN, gS, gT, gsc, gs0, tU, i2, i2c, rNegD, intC, absD, minD, isD, eqi, eqs, eqb, nei, nes, neb, DL.rIsD, DL.rIsnD, rAddD, rMulD, tMe, tMe0, tBk, tCt, outD, EndsD.xk, startD, optP_some, List.map_cons, List.map_nil, List.length_cons, List.length_nil, List.cons_append, List.nil_append, List.append_nil, List.set_cons_zero, List.set_cons_succ, List.set_nil, List.getElem?_cons_zero, List.getElem?_cons_succ, List.replicate_succ, List.replicate_zero, Nat.zero_add, Nat.reduceAdd, Nat.reduceSub, decide_eq_true_eq, Bool.not_eq_true', decide_eq_false_iff_not]
    refine ⟨⟨by omega, by omega⟩, ?_⟩
    refine forGo_findR (inv := fun δ => ∃ b c e, δ = [some d, some dm, some dr, some (.int A.n), some (.int x), b, c, e]) (f := fun y => if mt A.meet x y ≠ mt A.meet y x then some (.tup [.str "order", .int x, .int y]) else none) trivial (fun y hy δ hi R' hN' hR' => ?_) (fun hN' δ hi => ?_) (fun r hr => ?_) ⟨_, _, _, rfl⟩
    · obtain ⟨b, c, e, rfl⟩ := hi
      have mx := w.mt (x := x) (y := y) (by omega) (by omega) (by omega) (by omega)
      have my := w.mt (x := y) (y := x) (by omega) (by omega) (by omega) (by omega)
      obtain ⟨d1, e1, e2, e3⟩ := rows_at w hp (x := x) (by omega) (by omega)
      obtain ⟨d2, f1, f2, f3⟩ := rows_at w hp (x := y) (by omega) (by omega)
      simp only [wipeD, items_tup, items_lst, items_rng, tupleD, seqA_tup, seqA_lst, tSq, tIf', tTs, tO, tV, tK, tTr, truD, tNo, tAn, tOr', tAnV, tOrV', tNoV, tIfE, tN0, tCo, tTu, tLs, tCl, tFn, tMh, tRt, tRt0, tNx, tEx, tSe, tAs, gN, gS, gT, gsc, gs0, tU, i2, i2c, rNegD, intC, absD, minD, isD, eqi, eqs, eqb, nei, nes, neb, DL.rIsD, DL.rIsnD, rAddD, rMulD, tMe, tMe0, tBk, tCt, outD, EndsD.xk, startD, optP_some, List.map_cons, List.map_nil, List.length_cons, List.length_nil, List.cons_append, List.nil_append, List.append_nil, List.set_cons_zero, List.set_cons_succ, List.set_nil, List.getElem?_cons_zero, List.getElem?_cons_succ, List.replicate_succ, List.replicate_zero, Nat.zero_add, Nat.reduceAdd, Nat.reduceSub, decide_eq_true_eq, Bool.not_eq_true', decide_eq_false_iff_not, ix_eq h1 e1, ix_eq h1 f1, ix_eq e2 mx.1, ix_eq f2 my.1]
      split
      · rename_i q
        exact ⟨by rw [sizeLine_eq]; decide, hR' _ (if_pos q)⟩
      · rename_i q
        exact hN' (if_neg q) _ ⟨_, _, _, rfl⟩
    · obtain ⟨b, c, e, rfl⟩ := hi
      exact hN hN' _ ⟨_, _, _, _, rfl⟩
    · exact hR r hr
  · obtain ⟨a, b, c, e, rfl⟩ := hi
    rw [show orderF A.meet A.n.toNat = none from hN] at h
    have h : Q (orN (groupF A.meet A.n.toNat) (orN (zeroF A.meet A.rest A.n.toNat) (orN (restF A.meet A.rest A.n.toNat) (orN (noneF A) (orN (joinF A) .non))))) M := h
    subst hT
    try dsimp only
    refine tSq_step fun T hT => ?_
    refine ⟨A, dm, xs, rfl, h1, hp, w, ?_⟩
    simp only [wipeD, items_tup, items_lst, items_rng, tupleD, seqA_tup, seqA_lst, tSq, tIf', tTs, tO, tV, tK, tTr, truD, tNo, tAn, tOr', tAnV, tOrV', tNoV, tIfE, tN0, tCo, tTu, tLs, tCl, tFn, tMh, tRt, tRt0, tNx, tEx, tSe, tAs, gN, gS, gT, gsc, gs0, tU, i2, i2c, rNegD, intC, absD, minD, isD, eqi, eqs, eqb, nei, nes, neb, DL.rIsD, DL.rIsnD, rAddD, rMulD, tMe, tMe0, tBk, tCt, outD, EndsD.xk, startD, optP_some, List.map_cons, List.map_nil, List.length_cons, List.length_nil, List.cons_append, List.nil_append, List.append_nil, List.set_cons_zero, List.set_cons_succ, List.set_nil, List.getElem?_cons_zero, List.getElem?_cons_succ, List.replicate_succ, List.replicate_zero, Nat.zero_add, Nat.reduceAdd, Nat.reduceSub, decide_eq_true_eq, Bool.not_eq_true', decide_eq_false_iff_not]
    subst hT
    try dsimp only
    refine tSq_step fun T hT => ?_
    simp only [wipeD, items_tup, items_lst, items_rng, tupleD, seqA_tup, seqA_lst, tSq, tIf', tTs, tO, tV, tK, tTr, truD, tNo, tAn, tOr', tAnV, tOrV', tNoV, tIfE, tN0, tCo, tTu, tLs, tCl, tFn, tMh, tRt, tRt0, tNx, tEx, tSe, tAs, gN, gS, gT, gsc, gs0, tU, i2, i2c, rNegD, intC, absD, minD, isD, eqi, eqs, eqb, nei, nes, neb, DL.rIsD, DL.rIsnD, rAddD, rMulD, tMe, tMe0, tBk, tCt, outD, EndsD.xk, startD, optP_some, List.map_cons, List.map_nil, List.length_cons, List.length_nil, List.cons_append, List.nil_append, List.append_nil, List.set_cons_zero, List.set_cons_succ, List.set_nil, List.getElem?_cons_zero, List.getElem?_cons_succ, List.replicate_succ, List.replicate_zero, Nat.zero_add, Nat.reduceAdd, Nat.reduceSub, decide_eq_true_eq, Bool.not_eq_true', decide_eq_false_iff_not]
    rcases or_T (d := orN (zeroF A.meet A.rest A.n.toNat) (orN (restF A.meet A.rest A.n.toNat) (orN (noneF A) (orN (joinF A) .non)))) fun r e => groupT e with ⟨g1, g2, g3⟩ | ⟨g1, g2⟩
    · rw [g2] at h
      simp only [g1, Bool.true_eq_false, if_false]
      subst hT
      try dsimp only
      refine tSq_step fun T hT => ?_
      have r0 := w.r.rg 0 (by omega) (by omega)
      obtain ⟨d1, e1, e2, e3⟩ := rows_at w hp (x := 0) (by omega) (by omega)
      simp only [wipeD, items_tup, items_lst, items_rng, tupleD, seqA_tup, seqA_lst, tSq, tIf', tTs, tO, tV, tK, tTr, truD, tNo, tAn, tOr', tAnV, tOrV', tNoV, tIfE, tN0, tCo, tTu, tLs, tCl, tFn, tMh, tRt, tRt0, tNx, tEx, tSe, tAs, gN, gS, gT, gsc, gs0, tU, i2, i2c, rNegD, intC, absD, minD, isD, eqi, eqs, eqb, nei, nes, neb, DL.rIsD, DL.rIsnD, rAddD, rMulD, tMe, tMe0, tBk, tCt, outD, EndsD.xk, startD, optP_some, List.map_cons, List.map_nil, List.length_cons, List.length_nil, List.cons_append, List.nil_append, List.append_nil, List.set_cons_zero, List.set_cons_succ, List.set_nil, List.getElem?_cons_zero, List.getElem?_cons_succ, List.replicate_succ, List.replicate_zero, Nat.zero_add, Nat.reduceAdd, Nat.reduceSub, decide_eq_true_eq, Bool.not_eq_true', decide_eq_false_iff_not, ix_eq h1 e1, ix_eq hr (w.r.at (x := 0) (by omega) (by omega)), ix_eq e2 (w.mt (x := 0) (by omega) (by omega) r0.1 r0.2).1]
      subst hT
      try dsimp only
      refine tSq_step fun T hT => ?_
      simp only [tFo, tIR1, wipeD, items_tup, items_lst, items_rng, tupleD, seqA_tup, seqA_lst, tSq, tIf', tTs, tO, tV, tK, tTr, truD, tNo, tAn, tOr', tAnV, tOrV', tNoV, tIfE, tN0, tCo, tTu, tLs, tCl, tFn, tMh, tRt, tRt0, tNx, tEx, tSe, tAs, gN, gS, gT, gsc, gs0, tU, i2, i2c, rNegD, intC, absD, minD, isD, eqi, eqs, eqb, nei, nes, neb, DL.rIsD, DL.rIsnD, rAddD, rMulD, tMe, tMe0, tBk, tCt, outD, EndsD.xk, startD, optP_some, List.map_cons, List.map_nil, List.length_cons, List.length_nil, List.cons_append, List.nil_append, List.append_nil, List.set_cons_zero, List.set_cons_succ, List.set_nil, List.getElem?_cons_zero, List.getElem?_cons_succ, List.replicate_succ, List.replicate_zero, Nat.zero_add, Nat.reduceAdd, Nat.reduceSub, decide_eq_true_eq, Bool.not_eq_true', decide_eq_false_iff_not]
      refine ⟨⟨by omega, by omega⟩, ?_⟩
      refine forGo_findR (inv := fun δ => ∃ a b, δ = [some d, some dm, some dr, some (.int A.n), a, b, some (orN (groupF A.meet A.n.toNat) .non), some (.int (zeroV A))]) (f := fun x => if mt A.meet x (gi A.rest x) ≠ mt A.meet 0 (gi A.rest 0) then some (.tup [.str "zero", .int x]) else none) trivial (fun x hx δ hi R hN hR => ?_) (fun hN δ hi => ?_) (fun r hr => ?_) ⟨_, _, rfl⟩
      · obtain ⟨a, b, rfl⟩ := hi
        have rx := w.r.rg x (by omega) (by omega)
        obtain ⟨d2, f1, f2, f3⟩ := rows_at w hp (x := x) (by omega) (by omega)
        simp only [wipeD, items_tup, items_lst, items_rng, tupleD, seqA_tup, seqA_lst, tSq, tIf', tTs, tO, tV, tK, tTr, truD, tNo, tAn, tOr', tAnV, tOrV', tNoV, tIfE, tN0, tCo, tTu, tLs, tCl, tFn, tMh, tRt, tRt0, tNx, tEx, tSe, tAs, gN, gS, gT, gsc, gs0, tU, i2, i2c, rNegD, intC, absD, minD, isD, eqi, eqs, eqb, nei, nes, neb, DL.rIsD, DL.rIsnD, rAddD, rMulD, tMe, tMe0, tBk, tCt, outD, EndsD.xk, startD, optP_some, List.map_cons, List.map_nil, List.length_cons, List.length_nil, List.cons_append, List.nil_append, List.append_nil, List.set_cons_zero, List.set_cons_succ, List.set_nil, List.getElem?_cons_zero, List.getElem?_cons_succ, List.replicate_succ, List.replicate_zero, Nat.zero_add, Nat.reduceAdd, Nat.reduceSub, decide_eq_true_eq, Bool.not_eq_true', decide_eq_false_iff_not, ix_eq h1 f1, ix_eq hr (w.r.at (x := x) (by omega) (by omega)), ix_eq f2 (w.mt (x := x) (by omega) (by omega) rx.1 rx.2).1]
        split
        · rename_i q
          exact ⟨by rw [sizeLine_eq]; decide, hR _ (if_pos q)⟩
        · rename_i q
          exact hN (if_neg q) _ ⟨_, _, rfl⟩
      · obtain ⟨a, b, rfl⟩ := hi
        rw [show zeroF A.meet A.rest A.n.toNat = none from hN] at h
        have h : Q (orN (restF A.meet A.rest A.n.toNat) (orN (noneF A) (orN (joinF A) .non))) M := h
        subst hT
        try dsimp only
        refine tSq_step fun T hT => ?_
        simp only [tFo, tIR1, wipeD, items_tup, items_lst, items_rng, tupleD, seqA_tup, seqA_lst, tSq, tIf', tTs, tO, tV, tK, tTr, truD, tNo, tAn, tOr', tAnV, tOrV', tNoV, tIfE, tN0, tCo, tTu, tLs, tCl, tFn, tMh, tRt, tRt0, tNx, tEx, tSe, tAs, gN, gS, gT, gsc, gs0, tU, i2, i2c, rNegD, intC, absD, minD, isD, eqi, eqs, eqb, nei, nes, neb, DL.rIsD, DL.rIsnD, rAddD, rMulD, tMe, tMe0, tBk, tCt, outD, EndsD.xk, startD, optP_some, List.map_cons, List.map_nil, List.length_cons, List.length_nil, List.cons_append, List.nil_append, List.append_nil, List.set_cons_zero, List.set_cons_succ, List.set_nil, List.getElem?_cons_zero, List.getElem?_cons_succ, List.replicate_succ, List.replicate_zero, Nat.zero_add, Nat.reduceAdd, Nat.reduceSub, decide_eq_true_eq, Bool.not_eq_true', decide_eq_false_iff_not]
        refine ⟨⟨by omega, by omega⟩, ?_⟩
        refine forGo_findR (inv := fun δ => ∃ a b, δ = [some d, some dm, some dr, some (.int A.n), a, b, some (orN (groupF A.meet A.n.toNat) .non), some (.int (zeroV A))]) (f := fun x => ff A.n.toNat fun y => if decide (mt A.meet x (gi A.rest y) = mt A.meet 0 (gi A.rest 0)) ≠ decide (mt A.meet x y = x) then some (.tup [.str "rest", .int x, .int y]) else none) trivial (fun x hx δ hi R hN hR => ?_) (fun hN δ hi => ?_) (fun r hr => ?_) ⟨_, _, rfl⟩
        · obtain ⟨a, b, rfl⟩ := hi
          simp only [tFo, tIR1, wipeD, items_tup, items_lst, items_rng, tupleD, seqA_tup, seqA_lst, tSq, tIf', tTs, tO, tV, tK, tTr, truD, tNo, tAn, tOr', tAnV, tOrV', tNoV, tIfE, tN0, tCo, tTu, tLs, tCl, tFn, tMh, tRt, tRt0, tNx, tEx, tSe, tAs, gN, gS, gT, gsc, gs0, tU, i2, i2c, rNegD, intC, absD, minD, isD, eqi, eqs, eqb, nei, nes, neb, DL.rIsD, DL.rIsnD, rAddD, rMulD, tMe, tMe0, tBk, tCt, outD, EndsD.xk, startD, optP_some, List.map_cons, List.map_nil, List.length_cons, List.length_nil, List.cons_append, List.nil_append, List.append_nil, List.set_cons_zero, List.set_cons_succ, List.set_nil, List.getElem?_cons_zero, List.getElem?_cons_succ, List.replicate_succ, List.replicate_zero, Nat.zero_add, Nat.reduceAdd, Nat.reduceSub, decide_eq_true_eq, Bool.not_eq_true', decide_eq_false_iff_not]
          refine ⟨⟨by omega, by omega⟩, ?_⟩
          refine forGo_findR (inv := fun δ => ∃ b, δ = [some d, some dm, some dr, some (.int A.n), some (.int x), b, some (orN (groupF A.meet A.n.toNat) .non), some (.int (zeroV A))]) (f := fun y => if decide (mt A.meet x (gi A.rest y) = mt A.meet 0 (gi A.rest 0)) ≠ decide (mt A.meet x y = x) then some (.tup [.str "rest", .int x, .int y]) else none) trivial (fun y hy δ hi R' hN' hR' => ?_) (fun hN' δ hi => ?_) (fun r hr => ?_) ⟨_, rfl⟩
          · obtain ⟨b, rfl⟩ := hi
            have ry := w.r.rg y (by omega) (by omega)
            obtain ⟨d2, f1, f2, f3⟩ := rows_at w hp (x := x) (by omega) (by omega)
            simp only [wipeD, items_tup, items_lst, items_rng, tupleD, seqA_tup, seqA_lst, tSq, tIf', tTs, tO, tV, tK, tTr, truD, tNo, tAn, tOr', tAnV, tOrV', tNoV, tIfE, tN0, tCo, tTu, tLs, tCl, tFn, tMh, tRt, tRt0, tNx, tEx, tSe, tAs, gN, gS, gT, gsc, gs0, tU, i2, i2c, rNegD, intC, absD, minD, isD, eqi, eqs, eqb, nei, nes, neb, DL.rIsD, DL.rIsnD, rAddD, rMulD, tMe, tMe0, tBk, tCt, outD, EndsD.xk, startD, optP_some, List.map_cons, List.map_nil, List.length_cons, List.length_nil, List.cons_append, List.nil_append, List.append_nil, List.set_cons_zero, List.set_cons_succ, List.set_nil, List.getElem?_cons_zero, List.getElem?_cons_succ, List.replicate_succ, List.replicate_zero, Nat.zero_add, Nat.reduceAdd, Nat.reduceSub, decide_eq_true_eq, Bool.not_eq_true', decide_eq_false_iff_not, ix_eq h1 f1, ix_eq hr (w.r.at (x := y) (by omega) (by omega)), ix_eq f2 (w.mt (x := x) (by omega) (by omega) ry.1 ry.2).1, ix_eq f2 (w.mt (x := x) (y := y) (by omega) (by omega) (by omega) (by omega)).1]
            split
            · rename_i q
              exact ⟨by rw [sizeLine_eq]; decide, hR' _ (if_pos q)⟩
            · rename_i q
              exact hN' (if_neg q) _ ⟨_, rfl⟩
          · obtain ⟨b, rfl⟩ := hi
            exact hN hN' _ ⟨_, _, rfl⟩
          · exact hR r hr
        · obtain ⟨a, b, rfl⟩ := hi
          rw [show restF A.meet A.rest A.n.toNat = none from hN] at h
          subst hT
          try dsimp only
          exact ⟨A, d, rfl, tc, w, out_ret h⟩
        · rw [show restF A.meet A.rest A.n.toNat = some r from hr] at h
          exact out_ret h
      · rw [show zeroF A.meet A.rest A.n.toNat = some r from hr] at h
        exact out_ret h
    · rw [g2] at h
      simp only [g1, if_true]
      exact out_ret h
  · rw [show orderF A.meet A.n.toNat = some r from hr] at h
    exact out_ret h
end K63
namespace K63
open PySem PySem.Spec PyProof.Rows L2 DL
variable [B : Obs] {K : PySem.W.Frag} {mg : Str → Option Value} {P : Program} {ds : List D} {M : Md} {Q : VD} {X : XD}
theorem p__law_try_join (Z : Fc P K mg) (h : sp__law_try_join K ds M Q X) : t__law_try_join K (outD Q X) (startD N__law_try_join ds) M := by
  obtain ⟨A, x, y, rfl, w, lx, ly, h⟩ := h
  have bad : ∀ (z : Int), Q (.tup [.str "element", .int z]) M → ∀ (E : EndsD) (δ : SD), E.rt = (outD Q X).rt → δ.length = 5 → wAllD K E [⟨.ref (He.ga K "BadElement"), some 4, fun a cls d => tSq (tIf' (tOr' (tTr (tIsE K (okE K) a cls d (tCo (tV 4) (tCo (tK (.ref (He.ga K "BadTable"))) tN0)))) (tNo (tTr (tIsE K (okE K) a cls d (tCo (tV 4) (tCo (tK (.ref (He.ga K "SayError"))) tN0)))))) (tRt (tTu (tCo (tK (.str "other")) (tCo (tK (.int 0)) tN0)))) tNx) (tRt (tTu (tCo (tK (.str "element")) (tCo (tIfE (tTr (tFn (sp__law_plain K) [] (tCo (tXfd (okE K) a cls d "element" (tV 4)) tN0))) (tXfd (okE K) a cls d "element" (tV 4)) (tK (.str "no number"))) tN0))))⟩, ⟨.ref (He.ga K "SayError"), none, fun a cls d => tRt (tTu (tCo (tK (.str "other")) (tCo (tK (.int 0)) tN0)))⟩] (He.ga K "BadElement") [("element", .int z)] δ M := by
    intro z hq E δ hE hδ
    refine ⟨true, Z.x_BadElement_BadElement, fun _ a dx hdx => ?_, fun e => nomatch e⟩
    cases dx with
    | none => exact absurd (hdx rfl) (by simp)
    | some dd =>
      have e4 : (bindCd (some 4) (excD a (He.ga K "BadElement") (some dd) [("element", .int z)]) δ)[4]? = some (some (.exc a (He.ga K "BadElement") dd ["element"] [.int z])) := by
        show (δ.set 4 _)[4]? = _
        rw [List.getElem?_set_self (by omega)]
        rfl
      simp only [wipeD, items_tup, items_lst, items_rng, tupleD, seqA_tup, seqA_lst, tSq, tIf', tTs, tO, tV, tK, tTr, truD, tNo, tAn, tOr', tAnV, tOrV', tNoV, tIfE, tN0, tCo, tTu, tLs, tCl, tFn, tMh, tRt, tRt0, tNx, tEx, tSe, tAs, gN, gS, gT, gsc, gs0, tU, i2, i2c, rNegD, intC, absD, minD, isD, eqi, eqs, eqb, nei, nes, neb, DL.rIsD, DL.rIsnD, rAddD, rMulD, tMe, tMe0, tBk, tCt, outD, EndsD.xk, startD, optP_some, List.map_cons, List.map_nil, List.length_cons, List.length_nil, List.cons_append, List.nil_append, List.append_nil, List.set_cons_zero, List.set_cons_succ, List.set_nil, List.getElem?_cons_zero, List.getElem?_cons_succ, List.replicate_succ, List.replicate_zero, Nat.zero_add, Nat.reduceAdd, Nat.reduceSub, decide_eq_true_eq, Bool.not_eq_true', decide_eq_false_iff_not, e4, tIsE, true_and]
      refine ⟨.inr (.inr (.inr rfl)), _, _, rfl, Z.k_BadElement_BadTable, ?_⟩
      simp only [wipeD, items_tup, items_lst, items_rng, tupleD, seqA_tup, seqA_lst, tSq, tIf', tTs, tO, tV, tK, tTr, truD, tNo, tAn, tOr', tAnV, tOrV', tNoV, tIfE, tN0, tCo, tTu, tLs, tCl, tFn, tMh, tRt, tRt0, tNx, tEx, tSe, tAs, gN, gS, gT, gsc, gs0, tU, i2, i2c, rNegD, intC, absD, minD, isD, eqi, eqs, eqb, nei, nes, neb, DL.rIsD, DL.rIsnD, rAddD, rMulD, tMe, tMe0, tBk, tCt, outD, EndsD.xk, startD, optP_some, List.map_cons, List.map_nil, List.length_cons, List.length_nil, List.cons_append, List.nil_append, List.append_nil, List.set_cons_zero, List.set_cons_succ, List.set_nil, List.getElem?_cons_zero, List.getElem?_cons_succ, List.replicate_succ, List.replicate_zero, Nat.zero_add, Nat.reduceAdd, Nat.reduceSub, decide_eq_true_eq, Bool.not_eq_true', decide_eq_false_iff_not, e4, Bool.false_eq_true, if_false, true_and]
      refine ⟨.inr (.inr (.inr rfl)), _, _, rfl, Z.k_BadElement_SayError, ?_⟩
      simp only [wipeD, items_tup, items_lst, items_rng, tupleD, seqA_tup, seqA_lst, tSq, tIf', tTs, tO, tV, tK, tTr, truD, tNo, tAn, tOr', tAnV, tOrV', tNoV, tIfE, tN0, tCo, tTu, tLs, tCl, tFn, tMh, tRt, tRt0, tNx, tEx, tSe, tAs, gN, gS, gT, gsc, gs0, tU, i2, i2c, rNegD, intC, absD, minD, isD, eqi, eqs, eqb, nei, nes, neb, DL.rIsD, DL.rIsnD, rAddD, rMulD, tMe, tMe0, tBk, tCt, outD, EndsD.xk, startD, optP_some, List.map_cons, List.map_nil, List.length_cons, List.length_nil, List.cons_append, List.nil_append, List.append_nil, List.set_cons_zero, List.set_cons_succ, List.set_nil, List.getElem?_cons_zero, List.getElem?_cons_succ, List.replicate_succ, List.replicate_zero, Nat.zero_add, Nat.reduceAdd, Nat.reduceSub, decide_eq_true_eq, Bool.not_eq_true', decide_eq_false_iff_not, e4, tXfd, Bool.true_eq_false, if_false, true_and]
      refine ⟨.inr (.inr (.inr rfl)), _, rfl, _, rfl, by rw [tyN_int]; rfl, ?_⟩
      rw [show isInt (D.int z) = true from rfl]
      simp only [wipeD, items_tup, items_lst, items_rng, tupleD, seqA_tup, seqA_lst, tSq, tIf', tTs, tO, tV, tK, tTr, truD, tNo, tAn, tOr', tAnV, tOrV', tNoV, tIfE, tN0, tCo, tTu, tLs, tCl, tFn, tMh, tRt, tRt0, tNx, tEx, tSe, tAs, gN, gS, gT, gsc, gs0, tU, i2, i2c, rNegD, intC, absD, minD, isD, eqi, eqs, eqb, nei, nes, neb, DL.rIsD, DL.rIsnD, rAddD, rMulD, tMe, tMe0, tBk, tCt, outD, EndsD.xk, startD, optP_some, List.map_cons, List.map_nil, List.length_cons, List.length_nil, List.cons_append, List.nil_append, List.append_nil, List.set_cons_zero, List.set_cons_succ, List.set_nil, List.getElem?_cons_zero, List.getElem?_cons_succ, List.replicate_succ, List.replicate_zero, Nat.zero_add, Nat.reduceAdd, Nat.reduceSub, decide_eq_true_eq, Bool.not_eq_true', decide_eq_false_iff_not, if_true]
      refine ⟨.inr (.inr (.inr rfl)), _, rfl, by rw [sizeLine_eq]; decide, ?_⟩
      show (endCd (some 4) E).rt _ _
      show E.rt _ _
      rw [hE]
      exact out_ret hq
  simp only [N__law_try_join, startD, List.map_cons, List.map_nil, List.length_cons, List.length_nil, Nat.zero_add, Nat.reduceAdd, Nat.reduceSub, List.replicate_succ, List.replicate_zero, List.cons_append, List.nil_append]
  unfold t__law_try_join
  refine tSq_step fun T hT => ?_
  simp only [tTry, wipeD, items_tup, items_lst, items_rng, tupleD, seqA_tup, seqA_lst, tSq, tIf', tTs, tO, tV, tK, tTr, truD, tNo, tAn, tOr', tAnV, tOrV', tNoV, tIfE, tN0, tCo, tTu, tLs, tCl, tFn, tMh, tRt, tRt0, tNx, tEx, tSe, tAs, gN, gS, gT, gsc, gs0, tU, i2, i2c, rNegD, intC, absD, minD, isD, eqi, eqs, eqb, nei, nes, neb, DL.rIsD, DL.rIsnD, rAddD, rMulD, tMe, tMe0, tBk, tCt, outD, EndsD.xk, startD, optP_some, List.map_cons, List.map_nil, List.length_cons, List.length_nil, List.cons_append, List.nil_append, List.append_nil, List.set_cons_zero, List.set_cons_succ, List.set_nil, List.getElem?_cons_zero, List.getElem?_cons_succ, List.replicate_succ, List.replicate_zero, Nat.zero_add, Nat.reduceAdd, Nat.reduceSub, decide_eq_true_eq, Bool.not_eq_true', decide_eq_false_iff_not, objD]
  refine ⟨⟨_, rfl, rfl⟩, A, x, y, rfl, w, lx, ly, ?_⟩
  split
  · rename_i c1
    rw [if_pos c1] at h
    split
    · rename_i c2
      rw [if_pos c2] at h
      subst hT
      simp only [wipeD, items_tup, items_lst, items_rng, tupleD, seqA_tup, seqA_lst, tSq, tIf', tTs, tO, tV, tK, tTr, truD, tNo, tAn, tOr', tAnV, tOrV', tNoV, tIfE, tN0, tCo, tTu, tLs, tCl, tFn, tMh, tRt, tRt0, tNx, tEx, tSe, tAs, gN, gS, gT, gsc, gs0, tU, i2, i2c, rNegD, intC, absD, minD, isD, eqi, eqs, eqb, nei, nes, neb, DL.rIsD, DL.rIsnD, rAddD, rMulD, tMe, tMe0, tBk, tCt, outD, EndsD.xk, startD, optP_some, List.map_cons, List.map_nil, List.length_cons, List.length_nil, List.cons_append, List.nil_append, List.append_nil, List.set_cons_zero, List.set_cons_succ, List.set_nil, List.getElem?_cons_zero, List.getElem?_cons_succ, List.replicate_succ, List.replicate_zero, Nat.zero_add, Nat.reduceAdd, Nat.reduceSub, decide_eq_true_eq, Bool.not_eq_true', decide_eq_false_iff_not]
      refine ⟨_, rfl, by rw [tyN_int]; rfl, ?_⟩
      rw [show isInt (D.int (joinV A x y)) = true from rfl]
      simp only [wipeD, items_tup, items_lst, items_rng, tupleD, seqA_tup, seqA_lst, tSq, tIf', tTs, tO, tV, tK, tTr, truD, tNo, tAn, tOr', tAnV, tOrV', tNoV, tIfE, tN0, tCo, tTu, tLs, tCl, tFn, tMh, tRt, tRt0, tNx, tEx, tSe, tAs, gN, gS, gT, gsc, gs0, tU, i2, i2c, rNegD, intC, absD, minD, isD, eqi, eqs, eqb, nei, nes, neb, DL.rIsD, DL.rIsnD, rAddD, rMulD, tMe, tMe0, tBk, tCt, outD, EndsD.xk, startD, optP_some, List.map_cons, List.map_nil, List.length_cons, List.length_nil, List.cons_append, List.nil_append, List.append_nil, List.set_cons_zero, List.set_cons_succ, List.set_nil, List.getElem?_cons_zero, List.getElem?_cons_succ, List.replicate_succ, List.replicate_zero, Nat.zero_add, Nat.reduceAdd, Nat.reduceSub, decide_eq_true_eq, Bool.not_eq_true', decide_eq_false_iff_not, if_true]
      exact ⟨by rw [sizeLine_eq]; decide, out_ret h⟩
    · rename_i c2
      rw [if_neg c2] at h
      exact bad y h _ _ rfl rfl
  · rename_i c1
    rw [if_neg c1] at h
    exact bad x h _ _ rfl rfl
end K63
namespace K63
open PySem PySem.Spec PyProof.Rows L2 DL
variable [B : Obs] {K : PySem.W.Frag} {mg : Str → Option Value} {P : Program} {ds : List D} {M : Md} {Q : VD} {X : XD}
theorem Ext.refl {st cs : Addr} : Ext st cs M M := ⟨fun _ _ h _ _ => h⟩
theorem Ext.trans {st cs : Addr} {N P : Md} (p : Ext st cs M N) (q : Ext st cs N P) : Ext st cs M P := ⟨fun a c h n1 n2 => q.at_ a c (p.at_ a c h n1 n2) n1 n2⟩
theorem p__law_handed (h : sp__law_handed K ds M Q X) : t__law_handed K (outD Q X) (startD N__law_handed ds) M := by
  obtain ⟨st, cs, n, rfl, s, n0, n1, h⟩ := h
  simp only [N__law_handed, startD, List.map_cons, List.map_nil, List.length_cons, List.length_nil, Nat.zero_add, Nat.reduceAdd, Nat.reduceSub, List.replicate_succ, List.replicate_zero, List.cons_append, List.nil_append]
  unfold t__law_handed
  refine tSq_step fun T hT => ?_
  refine ⟨st, cs, 7, rfl, s, by decide, by decide, fun r N r0 r1 e1 z1 s1 => ?_⟩
  simp only [wipeD, items_tup, items_lst, items_rng, tupleD, seqA_tup, seqA_lst, tSq, tIf', tTs, tO, tV, tK, tTr, truD, tNo, tAn, tOr', tAnV, tOrV', tNoV, tIfE, tN0, tCo, tTu, tLs, tCl, tFn, tMh, tRt, tRt0, tNx, tEx, tSe, tAs, gN, gS, gT, gsc, gs0, tU, i2, i2c, rNegD, intC, absD, minD, isD, eqi, eqs, eqb, nei, nes, neb, DL.rIsD, DL.rIsnD, rAddD, rMulD, tMe, tMe0, tBk, tCt, outD, EndsD.xk, startD, optP_some, List.map_cons, List.map_nil, List.length_cons, List.length_nil, List.cons_append, List.nil_append, List.append_nil, List.set_cons_zero, List.set_cons_succ, List.set_nil, List.getElem?_cons_zero, List.getElem?_cons_succ, List.replicate_succ, List.replicate_zero, Nat.zero_add, Nat.reduceAdd, Nat.reduceSub, decide_eq_true_eq, Bool.not_eq_true', decide_eq_false_iff_not]
  subst hT
  try dsimp only
  refine tSq_step fun T hT => ?_
  simp only [wipeD, items_tup, items_lst, items_rng, tupleD, seqA_tup, seqA_lst, tSq, tIf', tTs, tO, tV, tK, tTr, truD, tNo, tAn, tOr', tAnV, tOrV', tNoV, tIfE, tN0, tCo, tTu, tLs, tCl, tFn, tMh, tRt, tRt0, tNx, tEx, tSe, tAs, gN, gS, gT, gsc, gs0, tU, i2, i2c, rNegD, intC, absD, minD, isD, eqi, eqs, eqb, nei, nes, neb, DL.rIsD, DL.rIsnD, rAddD, rMulD, tMe, tMe0, tBk, tCt, outD, EndsD.xk, startD, optP_some, List.map_cons, List.map_nil, List.length_cons, List.length_nil, List.cons_append, List.nil_append, List.append_nil, List.set_cons_zero, List.set_cons_succ, List.set_nil, List.getElem?_cons_zero, List.getElem?_cons_succ, List.replicate_succ, List.replicate_zero, Nat.zero_add, Nat.reduceAdd, Nat.reduceSub, decide_eq_true_eq, Bool.not_eq_true', decide_eq_false_iff_not]
  split
  · exact ⟨st, cs, n, rfl, s1, n0, by omega, fun r' N' r0' r1' e2 z2 s2 => out_ret (h r' N' (by omega) (e1.trans e2) (fun a ha => z2 a (z1 a ha)) s2)⟩
  · rename_i q
    subst hT
    simp only [wipeD, items_tup, items_lst, items_rng, tupleD, seqA_tup, seqA_lst, tSq, tIf', tTs, tO, tV, tK, tTr, truD, tNo, tAn, tOr', tAnV, tOrV', tNoV, tIfE, tN0, tCo, tTu, tLs, tCl, tFn, tMh, tRt, tRt0, tNx, tEx, tSe, tAs, gN, gS, gT, gsc, gs0, tU, i2, i2c, rNegD, intC, absD, minD, isD, eqi, eqs, eqb, nei, nes, neb, DL.rIsD, DL.rIsnD, rAddD, rMulD, tMe, tMe0, tBk, tCt, outD, EndsD.xk, startD, optP_some, List.map_cons, List.map_nil, List.length_cons, List.length_nil, List.cons_append, List.nil_append, List.append_nil, List.set_cons_zero, List.set_cons_succ, List.set_nil, List.getElem?_cons_zero, List.getElem?_cons_succ, List.replicate_succ, List.replicate_zero, Nat.zero_add, Nat.reduceAdd, Nat.reduceSub, decide_eq_true_eq, Bool.not_eq_true', decide_eq_false_iff_not]
    refine ⟨by rw [sizeLine_eq]; decide, ?_⟩
    have c : r = 4 ∨ r = 5 ∨ r = 6 := by omega
    rcases c with rfl | rfl | rfl
    · simp only [wipeD, items_tup, items_lst, items_rng, tupleD, seqA_tup, seqA_lst, tSq, tIf', tTs, tO, tV, tK, tTr, truD, tNo, tAn, tOr', tAnV, tOrV', tNoV, tIfE, tN0, tCo, tTu, tLs, tCl, tFn, tMh, tRt, tRt0, tNx, tEx, tSe, tAs, gN, gS, gT, gsc, gs0, tU, i2, i2c, rNegD, intC, absD, minD, isD, eqi, eqs, eqb, nei, nes, neb, DL.rIsD, DL.rIsnD, rAddD, rMulD, tMe, tMe0, tBk, tCt, outD, EndsD.xk, startD, optP_some, List.map_cons, List.map_nil, List.length_cons, List.length_nil, List.cons_append, List.nil_append, List.append_nil, List.set_cons_zero, List.set_cons_succ, List.set_nil, List.getElem?_cons_zero, List.getElem?_cons_succ, List.replicate_succ, List.replicate_zero, Nat.zero_add, Nat.reduceAdd, Nat.reduceSub, decide_eq_true_eq, Bool.not_eq_true', decide_eq_false_iff_not, rIx_lst, Int.reduceSub, atI_0]
      exact out_ret (h n N (by omega) e1 z1 s1)
    · simp only [wipeD, items_tup, items_lst, items_rng, tupleD, seqA_tup, seqA_lst, tSq, tIf', tTs, tO, tV, tK, tTr, truD, tNo, tAn, tOr', tAnV, tOrV', tNoV, tIfE, tN0, tCo, tTu, tLs, tCl, tFn, tMh, tRt, tRt0, tNx, tEx, tSe, tAs, gN, gS, gT, gsc, gs0, tU, i2, i2c, rNegD, intC, absD, minD, isD, eqi, eqs, eqb, nei, nes, neb, DL.rIsD, DL.rIsnD, rAddD, rMulD, tMe, tMe0, tBk, tCt, outD, EndsD.xk, startD, optP_some, List.map_cons, List.map_nil, List.length_cons, List.length_nil, List.cons_append, List.nil_append, List.append_nil, List.set_cons_zero, List.set_cons_succ, List.set_nil, List.getElem?_cons_zero, List.getElem?_cons_succ, List.replicate_succ, List.replicate_zero, Nat.zero_add, Nat.reduceAdd, Nat.reduceSub, decide_eq_true_eq, Bool.not_eq_true', decide_eq_false_iff_not, rIx_lst, Int.reduceSub, atI_1]
      exact out_ret (h (-1) N (by decide) e1 z1 s1)
    · simp only [wipeD, items_tup, items_lst, items_rng, tupleD, seqA_tup, seqA_lst, tSq, tIf', tTs, tO, tV, tK, tTr, truD, tNo, tAn, tOr', tAnV, tOrV', tNoV, tIfE, tN0, tCo, tTu, tLs, tCl, tFn, tMh, tRt, tRt0, tNx, tEx, tSe, tAs, gN, gS, gT, gsc, gs0, tU, i2, i2c, rNegD, intC, absD, minD, isD, eqi, eqs, eqb, nei, nes, neb, DL.rIsD, DL.rIsnD, rAddD, rMulD, tMe, tMe0, tBk, tCt, outD, EndsD.xk, startD, optP_some, List.map_cons, List.map_nil, List.length_cons, List.length_nil, List.cons_append, List.nil_append, List.append_nil, List.set_cons_zero, List.set_cons_succ, List.set_nil, List.getElem?_cons_zero, List.getElem?_cons_succ, List.replicate_succ, List.replicate_zero, Nat.zero_add, Nat.reduceAdd, Nat.reduceSub, decide_eq_true_eq, Bool.not_eq_true', decide_eq_false_iff_not, rIx_lst, Int.reduceSub, atI_2]
      exact out_ret (h 1000000 N (by decide) e1 z1 s1)
theorem nw_at {r : Int} (r0 : 0 ≤ r) (r1 : r < 8) : ∃ w : Str, atI [D.str "~a", .str "~b", .str "~c", .str "all", .str "d", .str "", .str "ab", .str "A"] r = some (.str w) ∧ isW w = false ∧ w.length ≤ 10000 := by
  have c : r = 0 ∨ r = 1 ∨ r = 2 ∨ r = 3 ∨ r = 4 ∨ r = 5 ∨ r = 6 ∨ r = 7 := by omega
  rcases c with rfl | rfl | rfl | rfl | rfl | rfl | rfl | rfl
  · exact ⟨_, rfl, by decide +kernel, by decide +kernel⟩
  · exact ⟨_, rfl, by decide +kernel, by decide +kernel⟩
  · exact ⟨_, rfl, by decide +kernel, by decide +kernel⟩
  · exact ⟨_, rfl, by decide +kernel, by decide +kernel⟩
  · exact ⟨_, rfl, by decide +kernel, by decide +kernel⟩
  · exact ⟨_, rfl, by decide +kernel, by decide +kernel⟩
  · exact ⟨_, rfl, by decide +kernel, by decide +kernel⟩
  · exact ⟨_, rfl, by decide +kernel, by decide +kernel⟩
theorem p__law_no_table (Z : Fc P K mg) (h : sp__law_no_table K ds M Q X) : t__law_no_table K (outD Q X) (startD N__law_no_table ds) M := by
  obtain ⟨st, cs, A, rfl, s, wf, h⟩ := h
  simp only [N__law_no_table, startD, List.map_cons, List.map_nil, List.length_cons, List.length_nil, Nat.zero_add, Nat.reduceAdd, Nat.reduceSub, List.replicate_succ, List.replicate_zero, List.cons_append, List.nil_append]
  unfold t__law_no_table
  refine tSq_step fun T hT => ?_
  simp only [wipeD, items_tup, items_lst, items_rng, tupleD, seqA_tup, seqA_lst, tSq, tIf', tTs, tO, tV, tK, tTr, truD, tNo, tAn, tOr', tAnV, tOrV', tNoV, tIfE, tN0, tCo, tTu, tLs, tCl, tFn, tMh, tRt, tRt0, tNx, tEx, tSe, tAs, gN, gS, gT, gsc, gs0, tU, i2, i2c, rNegD, intC, absD, minD, isD, eqi, eqs, eqb, nei, nes, neb, DL.rIsD, DL.rIsnD, rAddD, rMulD, tMe, tMe0, tBk, tCt, outD, EndsD.xk, startD, optP_some, List.map_cons, List.map_nil, List.length_cons, List.length_nil, List.cons_append, List.nil_append, List.append_nil, List.set_cons_zero, List.set_cons_succ, List.set_nil, List.getElem?_cons_zero, List.getElem?_cons_succ, List.replicate_succ, List.replicate_zero, Nat.zero_add, Nat.reduceAdd, Nat.reduceSub, decide_eq_true_eq, Bool.not_eq_true', decide_eq_false_iff_not]
  refine ⟨by rw [sizeLine_eq]; decide, st, cs, 8, rfl, s, by decide, by decide, fun r N r0 r1 e1 z1 s1 => ?_⟩
  obtain ⟨w, hw, iw, lw⟩ := nw_at r0 r1
  simp only [wipeD, items_tup, items_lst, items_rng, tupleD, seqA_tup, seqA_lst, tSq, tIf', tTs, tO, tV, tK, tTr, truD, tNo, tAn, tOr', tAnV, tOrV', tNoV, tIfE, tN0, tCo, tTu, tLs, tCl, tFn, tMh, tRt, tRt0, tNx, tEx, tSe, tAs, gN, gS, gT, gsc, gs0, tU, i2, i2c, rNegD, intC, absD, minD, isD, eqi, eqs, eqb, nei, nes, neb, DL.rIsD, DL.rIsnD, rAddD, rMulD, tMe, tMe0, tBk, tCt, outD, EndsD.xk, startD, optP_some, List.map_cons, List.map_nil, List.length_cons, List.length_nil, List.cons_append, List.nil_append, List.append_nil, List.set_cons_zero, List.set_cons_succ, List.set_nil, List.getElem?_cons_zero, List.getElem?_cons_succ, List.replicate_succ, List.replicate_zero, Nat.zero_add, Nat.reduceAdd, Nat.reduceSub, decide_eq_true_eq, Bool.not_eq_true', decide_eq_false_iff_not, rIx_lst, hw]
  subst hT
  try dsimp only
  refine tSq_step fun T hT => ?_
  simp only [tTry, wipeD, items_tup, items_lst, items_rng, tupleD, seqA_tup, seqA_lst, tSq, tIf', tTs, tO, tV, tK, tTr, truD, tNo, tAn, tOr', tAnV, tOrV', tNoV, tIfE, tN0, tCo, tTu, tLs, tCl, tFn, tMh, tRt, tRt0, tNx, tEx, tSe, tAs, gN, gS, gT, gsc, gs0, tU, i2, i2c, rNegD, intC, absD, minD, isD, eqi, eqs, eqb, nei, nes, neb, DL.rIsD, DL.rIsnD, rAddD, rMulD, tMe, tMe0, tBk, tCt, outD, EndsD.xk, startD, optP_some, List.map_cons, List.map_nil, List.length_cons, List.length_nil, List.cons_append, List.nil_append, List.append_nil, List.set_cons_zero, List.set_cons_succ, List.set_nil, List.getElem?_cons_zero, List.getElem?_cons_succ, List.replicate_succ, List.replicate_zero, Nat.zero_add, Nat.reduceAdd, Nat.reduceSub, decide_eq_true_eq, Bool.not_eq_true', decide_eq_false_iff_not, objD]
  refine ⟨⟨_, rfl, rfl⟩, A, w, rfl, lw, ?_⟩
  rw [if_neg (by rw [iw]; exact Bool.false_ne_true)]
  refine ⟨true, Z.x_BadWord_BadWord, fun _ a dx hdx => ?_, fun e => nomatch e⟩
  cases dx with
  | none => exact absurd (hdx rfl) (by simp)
  | some dd =>
    have e4 : (bindCd (some 3) (excD a (He.ga K "BadWord") (some dd) [("word", .str w)]) [some (D.ref st), some (algD K A), some (D.str w), none])[3]? = some (some (.exc a (He.ga K "BadWord") dd ["word"] [.str w])) := rfl
    have e2 : (bindCd (some 3) (excD a (He.ga K "BadWord") (some dd) [("word", .str w)]) [some (D.ref st), some (algD K A), some (D.str w), none])[2]? = some (some (.str w)) := rfl
    simp only [wipeD, items_tup, items_lst, items_rng, tupleD, seqA_tup, seqA_lst, tSq, tIf', tTs, tO, tV, tK, tTr, truD, tNo, tAn, tOr', tAnV, tOrV', tNoV, tIfE, tN0, tCo, tTu, tLs, tCl, tFn, tMh, tRt, tRt0, tNx, tEx, tSe, tAs, gN, gS, gT, gsc, gs0, tU, i2, i2c, rNegD, intC, absD, minD, isD, eqi, eqs, eqb, nei, nes, neb, DL.rIsD, DL.rIsnD, rAddD, rMulD, tMe, tMe0, tBk, tCt, outD, EndsD.xk, startD, optP_some, List.map_cons, List.map_nil, List.length_cons, List.length_nil, List.cons_append, List.nil_append, List.append_nil, List.set_cons_zero, List.set_cons_succ, List.set_nil, List.getElem?_cons_zero, List.getElem?_cons_succ, List.replicate_succ, List.replicate_zero, Nat.zero_add, Nat.reduceAdd, Nat.reduceSub, decide_eq_true_eq, Bool.not_eq_true', decide_eq_false_iff_not, e4, e2, tIsE, true_and]
    refine ⟨.inl rfl, _, _, rfl, Z.k_BadWord_BadTable, ?_⟩
    simp only [wipeD, items_tup, items_lst, items_rng, tupleD, seqA_tup, seqA_lst, tSq, tIf', tTs, tO, tV, tK, tTr, truD, tNo, tAn, tOr', tAnV, tOrV', tNoV, tIfE, tN0, tCo, tTu, tLs, tCl, tFn, tMh, tRt, tRt0, tNx, tEx, tSe, tAs, gN, gS, gT, gsc, gs0, tU, i2, i2c, rNegD, intC, absD, minD, isD, eqi, eqs, eqb, nei, nes, neb, DL.rIsD, DL.rIsnD, rAddD, rMulD, tMe, tMe0, tBk, tCt, outD, EndsD.xk, startD, optP_some, List.map_cons, List.map_nil, List.length_cons, List.length_nil, List.cons_append, List.nil_append, List.append_nil, List.set_cons_zero, List.set_cons_succ, List.set_nil, List.getElem?_cons_zero, List.getElem?_cons_succ, List.replicate_succ, List.replicate_zero, Nat.zero_add, Nat.reduceAdd, Nat.reduceSub, decide_eq_true_eq, Bool.not_eq_true', decide_eq_false_iff_not, e4, Bool.false_eq_true, if_false, true_and]
    refine ⟨.inl rfl, _, _, rfl, Z.k_BadWord_SayError, ?_⟩
    simp only [wipeD, items_tup, items_lst, items_rng, tupleD, seqA_tup, seqA_lst, tSq, tIf', tTs, tO, tV, tK, tTr, truD, tNo, tAn, tOr', tAnV, tOrV', tNoV, tIfE, tN0, tCo, tTu, tLs, tCl, tFn, tMh, tRt, tRt0, tNx, tEx, tSe, tAs, gN, gS, gT, gsc, gs0, tU, i2, i2c, rNegD, intC, absD, minD, isD, eqi, eqs, eqb, nei, nes, neb, DL.rIsD, DL.rIsnD, rAddD, rMulD, tMe, tMe0, tBk, tCt, outD, EndsD.xk, startD, optP_some, List.map_cons, List.map_nil, List.length_cons, List.length_nil, List.cons_append, List.nil_append, List.append_nil, List.set_cons_zero, List.set_cons_succ, List.set_nil, List.getElem?_cons_zero, List.getElem?_cons_succ, List.replicate_succ, List.replicate_zero, Nat.zero_add, Nat.reduceAdd, Nat.reduceSub, decide_eq_true_eq, Bool.not_eq_true', decide_eq_false_iff_not, e4, e2, tXfd, Bool.true_eq_false, if_false, true_and]
    refine ⟨.inl rfl, _, rfl, ?_⟩
    simp only [wipeD, items_tup, items_lst, items_rng, tupleD, seqA_tup, seqA_lst, tSq, tIf', tTs, tO, tV, tK, tTr, truD, tNo, tAn, tOr', tAnV, tOrV', tNoV, tIfE, tN0, tCo, tTu, tLs, tCl, tFn, tMh, tRt, tRt0, tNx, tEx, tSe, tAs, gN, gS, gT, gsc, gs0, tU, i2, i2c, rNegD, intC, absD, minD, isD, eqi, eqs, eqb, nei, nes, neb, DL.rIsD, DL.rIsnD, rAddD, rMulD, tMe, tMe0, tBk, tCt, outD, EndsD.xk, startD, optP_some, List.map_cons, List.map_nil, List.length_cons, List.length_nil, List.cons_append, List.nil_append, List.append_nil, List.set_cons_zero, List.set_cons_succ, List.set_nil, List.getElem?_cons_zero, List.getElem?_cons_succ, List.replicate_succ, List.replicate_zero, Nat.zero_add, Nat.reduceAdd, Nat.reduceSub, decide_eq_true_eq, Bool.not_eq_true', decide_eq_false_iff_not, tyN_str]
    refine ⟨by decide, ?_⟩
    rw [if_pos (by decide)]
    refine ⟨.inl rfl, _, rfl, ?_⟩
    simp only [wipeD, items_tup, items_lst, items_rng, tupleD, seqA_tup, seqA_lst, tSq, tIf', tTs, tO, tV, tK, tTr, truD, tNo, tAn, tOr', tAnV, tOrV', tNoV, tIfE, tN0, tCo, tTu, tLs, tCl, tFn, tMh, tRt, tRt0, tNx, tEx, tSe, tAs, gN, gS, gT, gsc, gs0, tU, i2, i2c, rNegD, intC, absD, minD, isD, eqi, eqs, eqb, nei, nes, neb, DL.rIsD, DL.rIsnD, rAddD, rMulD, tMe, tMe0, tBk, tCt, outD, EndsD.xk, startD, optP_some, List.map_cons, List.map_nil, List.length_cons, List.length_nil, List.cons_append, List.nil_append, List.append_nil, List.set_cons_zero, List.set_cons_succ, List.set_nil, List.getElem?_cons_zero, List.getElem?_cons_succ, List.replicate_succ, List.replicate_zero, Nat.zero_add, Nat.reduceAdd, Nat.reduceSub, decide_eq_true_eq, Bool.not_eq_true', decide_eq_false_iff_not, e4, e2]
    show ∃ M' d', Fin N _ M' d' ∧ Q d' M'
    refine out_ret ?_
    simp only [decide_true]
    exact h N e1 z1 s1
theorem told_at {A : Alg} {dm dr da db dc : D} (w : Wf A) (hr : NumsAt M dr A.rest) (ha : NumsAt M da A.a) (hb : NumsAt M db A.b) (hc : NumsAt M dc A.c) {k : Nat} (hk : k < 4) :
    ∃ (r : List Int) (d : D), atI [D.tup (iL A.rest), .tup (iL A.a), .tup (iL A.b), .tup (iL A.c)] (k : Int) = some (.tup (iL r)) ∧ atI [dm, dr, da, db, dc] (1 + (k : Int)) = some d ∧ NumsAt M d r ∧ WfR A.n r := by
  match k, hk with
  | 0, _ => exact ⟨_, _, atI_0, atI_1, hr, w.r⟩
  | 1, _ => exact ⟨_, _, atI_1, atI_2, ha, w.a⟩
  | 2, _ => exact ⟨_, _, atI_2, atI_3, hb, w.b⟩
  | 3, _ => exact ⟨_, _, atI_3, atI_4, hc, w.c⟩
theorem p__law_fields (Z : Fc P K mg) (h : sp__law_fields K ds M Q X) : t__law_fields K (outD Q X) (startD N__law_fields ds) M := by
  obtain ⟨A, d, rfl, tc, w, h⟩ := h
  obtain ⟨dm, dr, da, db, dc, xs, h0, h1, hp, hr, ha, hb, hc⟩ := id tc
  have lo := w.lo
  have hi := w.hi
  have hn : (A.n.toNat : Int) = A.n := by omega
  have ml := w.ml
  have xl := hp.length
  have r0 := w.r.rg 0 (by omega) (by omega)
  have rl : ∀ r, WfR A.n r → r.length ≤ 1000 := fun r wr => by have := wr.len; omega
  obtain ⟨d1, e1, e2, e3⟩ := rows_at w hp (x := 0) (by omega) (by omega)
  simp only [N__law_fields, startD, List.map_cons, List.map_nil, List.length_cons, List.length_nil, Nat.zero_add, Nat.reduceAdd, Nat.reduceSub, List.replicate_succ, List.replicate_zero, List.cons_append, List.nil_append]
  unfold t__law_fields
  refine tSq_step fun T hT => ?_
  simp only [wipeD, items_tup, items_lst, items_rng, tupleD, seqA_tup, seqA_lst, tSq, tIf', tTs, tO, tV, tK, tTr, truD, tNo, tAn, tOr', tAnV, tOrV', tNoV, tIfE, tN0, tCo, tTu, tLs, tCl, tFn, tMh, tRt, tRt0, tNx, tEx, tSe, tAs, gN, gS, gT, gsc, gs0, tU, i2, i2c, rNegD, intC, absD, minD, isD, eqi, eqs, eqb, nei, nes, neb, DL.rIsD, DL.rIsnD, rAddD, rMulD, tMe, tMe0, tBk, tCt, outD, EndsD.xk, startD, optP_some, List.map_cons, List.map_nil, List.length_cons, List.length_nil, List.cons_append, List.nil_append, List.append_nil, List.set_cons_zero, List.set_cons_succ, List.set_nil, List.getElem?_cons_zero, List.getElem?_cons_succ, List.replicate_succ, List.replicate_zero, Nat.zero_add, Nat.reduceAdd, Nat.reduceSub, decide_eq_true_eq, Bool.not_eq_true', decide_eq_false_iff_not, ix_eq h0 atI_0]
  subst hT
  refine tSq_step fun T hT => ?_
  simp only [wipeD, items_tup, items_lst, items_rng, tupleD, seqA_tup, seqA_lst, tSq, tIf', tTs, tO, tV, tK, tTr, truD, tNo, tAn, tOr', tAnV, tOrV', tNoV, tIfE, tN0, tCo, tTu, tLs, tCl, tFn, tMh, tRt, tRt0, tNx, tEx, tSe, tAs, gN, gS, gT, gsc, gs0, tU, i2, i2c, rNegD, intC, absD, minD, isD, eqi, eqs, eqb, nei, nes, neb, DL.rIsD, DL.rIsnD, rAddD, rMulD, tMe, tMe0, tBk, tCt, outD, EndsD.xk, startD, optP_some, List.map_cons, List.map_nil, List.length_cons, List.length_nil, List.cons_append, List.nil_append, List.append_nil, List.set_cons_zero, List.set_cons_succ, List.set_nil, List.getElem?_cons_zero, List.getElem?_cons_succ, List.replicate_succ, List.replicate_zero, Nat.zero_add, Nat.reduceAdd, Nat.reduceSub, decide_eq_true_eq, Bool.not_eq_true', decide_eq_false_iff_not, ix_eq h1 e1, ix_eq h0 atI_1, ix_eq hr (w.r.at (x := 0) (by omega) (by omega)), ix_eq e2 (w.mt (x := 0) (by omega) (by omega) r0.1 r0.2).1]
  subst hT
  refine tSq_step fun T hT => ?_
  simp only [wipeD, items_tup, items_lst, items_rng, tupleD, seqA_tup, seqA_lst, tSq, tIf', tTs, tO, tV, tK, tTr, truD, tNo, tAn, tOr', tAnV, tOrV', tNoV, tIfE, tN0, tCo, tTu, tLs, tCl, tFn, tMh, tRt, tRt0, tNx, tEx, tSe, tAs, gN, gS, gT, gsc, gs0, tU, i2, i2c, rNegD, intC, absD, minD, isD, eqi, eqs, eqb, nei, nes, neb, DL.rIsD, DL.rIsnD, rAddD, rMulD, tMe, tMe0, tBk, tCt, outD, EndsD.xk, startD, optP_some, List.map_cons, List.map_nil, List.length_cons, List.length_nil, List.cons_append, List.nil_append, List.append_nil, List.set_cons_zero, List.set_cons_succ, List.set_nil, List.getElem?_cons_zero, List.getElem?_cons_succ, List.replicate_succ, List.replicate_zero, Nat.zero_add, Nat.reduceAdd, Nat.reduceSub, decide_eq_true_eq, Bool.not_eq_true', decide_eq_false_iff_not, tFd, fl_alg, lk_size, Z.f_size, true_and, len_eq h1]
  refine ⟨_, rfl, by rw [tyN_int]; rfl, ?_⟩
  rw [show isInt (D.int A.n) = true from rfl]
  simp only [wipeD, items_tup, items_lst, items_rng, tupleD, seqA_tup, seqA_lst, tSq, tIf', tTs, tO, tV, tK, tTr, truD, tNo, tAn, tOr', tAnV, tOrV', tNoV, tIfE, tN0, tCo, tTu, tLs, tCl, tFn, tMh, tRt, tRt0, tNx, tEx, tSe, tAs, gN, gS, gT, gsc, gs0, tU, i2, i2c, rNegD, intC, absD, minD, isD, eqi, eqs, eqb, nei, nes, neb, DL.rIsD, DL.rIsnD, rAddD, rMulD, tMe, tMe0, tBk, tCt, outD, EndsD.xk, startD, optP_some, List.map_cons, List.map_nil, List.length_cons, List.length_nil, List.cons_append, List.nil_append, List.append_nil, List.set_cons_zero, List.set_cons_succ, List.set_nil, List.getElem?_cons_zero, List.getElem?_cons_succ, List.replicate_succ, List.replicate_zero, Nat.zero_add, Nat.reduceAdd, Nat.reduceSub, decide_eq_true_eq, Bool.not_eq_true', decide_eq_false_iff_not, Bool.true_eq_false, if_false, len_eq h1]
  rw [if_neg (fun q => q (by omega))]
  subst hT
  refine tSq_step fun T hT => ?_
  simp only [wipeD, items_tup, items_lst, items_rng, tupleD, seqA_tup, seqA_lst, tSq, tIf', tTs, tO, tV, tK, tTr, truD, tNo, tAn, tOr', tAnV, tOrV', tNoV, tIfE, tN0, tCo, tTu, tLs, tCl, tFn, tMh, tRt, tRt0, tNx, tEx, tSe, tAs, gN, gS, gT, gsc, gs0, tU, i2, i2c, rNegD, intC, absD, minD, isD, eqi, eqs, eqb, nei, nes, neb, DL.rIsD, DL.rIsnD, rAddD, rMulD, tMe, tMe0, tBk, tCt, outD, EndsD.xk, startD, optP_some, List.map_cons, List.map_nil, List.length_cons, List.length_nil, List.cons_append, List.nil_append, List.append_nil, List.set_cons_zero, List.set_cons_succ, List.set_nil, List.getElem?_cons_zero, List.getElem?_cons_succ, List.replicate_succ, List.replicate_zero, Nat.zero_add, Nat.reduceAdd, Nat.reduceSub, decide_eq_true_eq, Bool.not_eq_true', decide_eq_false_iff_not, tFd, fl_alg, lk_meet, Z.f_meet, true_and, len_eq h1, tyN_tup, len_eq (seqA_tup (xs := rowsD A.meet))]
  refine ⟨by decide, ?_⟩
  rw [if_neg (by decide), if_neg (fun q => q (by simp only [rowsD, List.length_map]; omega))]
  subst hT
  refine tSq_step fun T hT => ?_
  simp only [tFo, tIR1, wipeD, items_tup, items_lst, items_rng, tupleD, seqA_tup, seqA_lst, tSq, tIf', tTs, tO, tV, tK, tTr, truD, tNo, tAn, tOr', tAnV, tOrV', tNoV, tIfE, tN0, tCo, tTu, tLs, tCl, tFn, tMh, tRt, tRt0, tNx, tEx, tSe, tAs, gN, gS, gT, gsc, gs0, tU, i2, i2c, rNegD, intC, absD, minD, isD, eqi, eqs, eqb, nei, nes, neb, DL.rIsD, DL.rIsnD, rAddD, rMulD, tMe, tMe0, tBk, tCt, outD, EndsD.xk, startD, optP_some, List.map_cons, List.map_nil, List.length_cons, List.length_nil, List.cons_append, List.nil_append, List.append_nil, List.set_cons_zero, List.set_cons_succ, List.set_nil, List.getElem?_cons_zero, List.getElem?_cons_succ, List.replicate_succ, List.replicate_zero, Nat.zero_add, Nat.reduceAdd, Nat.reduceSub, decide_eq_true_eq, Bool.not_eq_true', decide_eq_false_iff_not, len_eq h1]
  refine ⟨⟨by omega, by omega⟩, ?_⟩
  rw [Int.toNat_natCast]
  refine forGo_findR (inv := fun δ => ∃ a b c, δ = [some (algD K A), some d, some dm, some (.int (zeroV A)), a, b, c]) (f := fun _ => none) trivial (fun x hx δ hi R hN hR => ?_) (fun hN δ hi => ?_) (fun r hq => ?_) ⟨_, _, _, rfl⟩
  · obtain ⟨a, b, c, rfl⟩ := hi
    obtain ⟨d2, f1, f2, f3⟩ := rows_at w hp (x := x) (by omega) (by omega)
    simp only [wipeD, items_tup, items_lst, items_rng, tupleD, seqA_tup, seqA_lst, tSq, tIf', tTs, tO, tV, tK, tTr, truD, tNo, tAn, tOr', tAnV, tOrV', tNoV, tIfE, tN0, tCo, tTu, tLs, tCl, tFn, tMh, tRt, tRt0, tNx, tEx, tSe, tAs, gN, gS, gT, gsc, gs0, tU, i2, i2c, rNegD, intC, absD, minD, isD, eqi, eqs, eqb, nei, nes, neb, DL.rIsD, DL.rIsnD, rAddD, rMulD, tMe, tMe0, tBk, tCt, outD, EndsD.xk, startD, optP_some, List.map_cons, List.map_nil, List.length_cons, List.length_nil, List.cons_append, List.nil_append, List.append_nil, List.set_cons_zero, List.set_cons_succ, List.set_nil, List.getElem?_cons_zero, List.getElem?_cons_succ, List.replicate_succ, List.replicate_zero, Nat.zero_add, Nat.reduceAdd, Nat.reduceSub, decide_eq_true_eq, Bool.not_eq_true', decide_eq_false_iff_not, tFd, fl_alg, lk_meet, Z.f_meet, true_and, rIx_tup, (w.rowAt (x := x) (by omega) (by omega)).1, ix_eq h1 f1]
    refine ⟨_, _, _, rfl, f2, rl _ f3, ?_⟩
    simp only [wipeD, items_tup, items_lst, items_rng, tupleD, seqA_tup, seqA_lst, tSq, tIf', tTs, tO, tV, tK, tTr, truD, tNo, tAn, tOr', tAnV, tOrV', tNoV, tIfE, tN0, tCo, tTu, tLs, tCl, tFn, tMh, tRt, tRt0, tNx, tEx, tSe, tAs, gN, gS, gT, gsc, gs0, tU, i2, i2c, rNegD, intC, absD, minD, isD, eqi, eqs, eqb, nei, nes, neb, DL.rIsD, DL.rIsnD, rAddD, rMulD, tMe, tMe0, tBk, tCt, outD, EndsD.xk, startD, optP_some, List.map_cons, List.map_nil, List.length_cons, List.length_nil, List.cons_append, List.nil_append, List.append_nil, List.set_cons_zero, List.set_cons_succ, List.set_nil, List.getElem?_cons_zero, List.getElem?_cons_succ, List.replicate_succ, List.replicate_zero, Nat.zero_add, Nat.reduceAdd, Nat.reduceSub, decide_eq_true_eq, Bool.not_eq_true', decide_eq_false_iff_not, decide_true, Bool.true_eq_false, if_false]
    exact hN rfl _ ⟨_, _, _, rfl⟩
  · obtain ⟨a, b, c, rfl⟩ := hi
    subst hT
    try dsimp only
    refine tSq_step fun T hT => ?_
    simp only [wipeD, items_tup, items_lst, items_rng, tupleD, seqA_tup, seqA_lst, tSq, tIf', tTs, tO, tV, tK, tTr, truD, tNo, tAn, tOr', tAnV, tOrV', tNoV, tIfE, tN0, tCo, tTu, tLs, tCl, tFn, tMh, tRt, tRt0, tNx, tEx, tSe, tAs, gN, gS, gT, gsc, gs0, tU, i2, i2c, rNegD, intC, absD, minD, isD, eqi, eqs, eqb, nei, nes, neb, DL.rIsD, DL.rIsnD, rAddD, rMulD, tMe, tMe0, tBk, tCt, outD, EndsD.xk, startD, optP_some, List.map_cons, List.map_nil, List.length_cons, List.length_nil, List.cons_append, List.nil_append, List.append_nil, List.set_cons_zero, List.set_cons_succ, List.set_nil, List.getElem?_cons_zero, List.getElem?_cons_succ, List.replicate_succ, List.replicate_zero, Nat.zero_add, Nat.reduceAdd, Nat.reduceSub, decide_eq_true_eq, Bool.not_eq_true', decide_eq_false_iff_not, tFd, fl_alg, lk_rest, lk_a, lk_b, lk_c, Z.f_rest, Z.f_a, Z.f_b, Z.f_c, true_and]
    refine ⟨by rw [sizeLine_eq]; decide, ?_⟩
    subst hT
    refine tSq_step fun T hT => ?_
    simp only [tFo, tIR1, wipeD, items_tup, items_lst, items_rng, tupleD, seqA_tup, seqA_lst, tSq, tIf', tTs, tO, tV, tK, tTr, truD, tNo, tAn, tOr', tAnV, tOrV', tNoV, tIfE, tN0, tCo, tTu, tLs, tCl, tFn, tMh, tRt, tRt0, tNx, tEx, tSe, tAs, gN, gS, gT, gsc, gs0, tU, i2, i2c, rNegD, intC, absD, minD, isD, eqi, eqs, eqb, nei, nes, neb, DL.rIsD, DL.rIsnD, rAddD, rMulD, tMe, tMe0, tBk, tCt, outD, EndsD.xk, startD, optP_some, List.map_cons, List.map_nil, List.length_cons, List.length_nil, List.cons_append, List.nil_append, List.append_nil, List.set_cons_zero, List.set_cons_succ, List.set_nil, List.getElem?_cons_zero, List.getElem?_cons_succ, List.replicate_succ, List.replicate_zero, Nat.zero_add, Nat.reduceAdd, Nat.reduceSub, decide_eq_true_eq, Bool.not_eq_true', decide_eq_false_iff_not]
    refine ⟨⟨by decide, by decide⟩, ?_⟩
    refine forGo_findR (n := 4) (inv := fun δ => ∃ a c, δ = [some (algD K A), some d, some dm, some (.int (zeroV A)), a, some (.lst [D.tup (iL A.rest), .tup (iL A.a), .tup (iL A.b), .tup (iL A.c)]), c]) (f := fun _ => none) trivial (fun k hk δ hi R hN hR => ?_) (fun hN δ hi => ?_) (fun r hq => ?_) ⟨_, _, rfl⟩
    · obtain ⟨a, c, rfl⟩ := hi
      obtain ⟨r, dk, k1, k2, k3, k4⟩ := told_at (dm := dm) w hr ha hb hc hk
      simp only [wipeD, items_tup, items_lst, items_rng, tupleD, seqA_tup, seqA_lst, tSq, tIf', tTs, tO, tV, tK, tTr, truD, tNo, tAn, tOr', tAnV, tOrV', tNoV, tIfE, tN0, tCo, tTu, tLs, tCl, tFn, tMh, tRt, tRt0, tNx, tEx, tSe, tAs, gN, gS, gT, gsc, gs0, tU, i2, i2c, rNegD, intC, absD, minD, isD, eqi, eqs, eqb, nei, nes, neb, DL.rIsD, DL.rIsnD, rAddD, rMulD, tMe, tMe0, tBk, tCt, outD, EndsD.xk, startD, optP_some, List.map_cons, List.map_nil, List.length_cons, List.length_nil, List.cons_append, List.nil_append, List.append_nil, List.set_cons_zero, List.set_cons_succ, List.set_nil, List.getElem?_cons_zero, List.getElem?_cons_succ, List.replicate_succ, List.replicate_zero, Nat.zero_add, Nat.reduceAdd, Nat.reduceSub, decide_eq_true_eq, Bool.not_eq_true', decide_eq_false_iff_not, rIx_lst, k1, ix_eq h0 k2]
      refine ⟨_, _, _, rfl, k3, rl _ k4, ?_⟩
      simp only [wipeD, items_tup, items_lst, items_rng, tupleD, seqA_tup, seqA_lst, tSq, tIf', tTs, tO, tV, tK, tTr, truD, tNo, tAn, tOr', tAnV, tOrV', tNoV, tIfE, tN0, tCo, tTu, tLs, tCl, tFn, tMh, tRt, tRt0, tNx, tEx, tSe, tAs, gN, gS, gT, gsc, gs0, tU, i2, i2c, rNegD, intC, absD, minD, isD, eqi, eqs, eqb, nei, nes, neb, DL.rIsD, DL.rIsnD, rAddD, rMulD, tMe, tMe0, tBk, tCt, outD, EndsD.xk, startD, optP_some, List.map_cons, List.map_nil, List.length_cons, List.length_nil, List.cons_append, List.nil_append, List.append_nil, List.set_cons_zero, List.set_cons_succ, List.set_nil, List.getElem?_cons_zero, List.getElem?_cons_succ, List.replicate_succ, List.replicate_zero, Nat.zero_add, Nat.reduceAdd, Nat.reduceSub, decide_eq_true_eq, Bool.not_eq_true', decide_eq_false_iff_not, decide_true, Bool.true_eq_false, if_false]
      exact hN rfl _ ⟨_, _, rfl⟩
    · obtain ⟨a, c, rfl⟩ := hi
      subst hT
      try dsimp only
      refine tSq_step fun T hT => ?_
      simp only [tFo, tIR1, wipeD, items_tup, items_lst, items_rng, tupleD, seqA_tup, seqA_lst, tSq, tIf', tTs, tO, tV, tK, tTr, truD, tNo, tAn, tOr', tAnV, tOrV', tNoV, tIfE, tN0, tCo, tTu, tLs, tCl, tFn, tMh, tRt, tRt0, tNx, tEx, tSe, tAs, gN, gS, gT, gsc, gs0, tU, i2, i2c, rNegD, intC, absD, minD, isD, eqi, eqs, eqb, nei, nes, neb, DL.rIsD, DL.rIsnD, rAddD, rMulD, tMe, tMe0, tBk, tCt, outD, EndsD.xk, startD, optP_some, List.map_cons, List.map_nil, List.length_cons, List.length_nil, List.cons_append, List.nil_append, List.append_nil, List.set_cons_zero, List.set_cons_succ, List.set_nil, List.getElem?_cons_zero, List.getElem?_cons_succ, List.replicate_succ, List.replicate_zero, Nat.zero_add, Nat.reduceAdd, Nat.reduceSub, decide_eq_true_eq, Bool.not_eq_true', decide_eq_false_iff_not]
      refine ⟨⟨by decide, by decide⟩, ?_⟩
      refine forGo_findR (n := 3) (inv := fun δ => ∃ a b c, δ = [some (algD K A), some d, some dm, some (.int (zeroV A)), a, b, c]) (f := fun _ => none) trivial (fun k hk δ hi R hN hR => ?_) (fun hN δ hi => ?_) (fun r hq => ?_) ⟨_, _, _, rfl⟩
      · obtain ⟨a, b, c, rfl⟩ := hi
        obtain ⟨dk, k1, k2⟩ := way_at (dm := dm) (dr := dr) ha hb hc hk
        obtain ⟨_, w2, w3⟩ := ways_at hk
        simp only [wipeD, items_tup, items_lst, items_rng, tupleD, seqA_tup, seqA_lst, tSq, tIf', tTs, tO, tV, tK, tTr, truD, tNo, tAn, tOr', tAnV, tOrV', tNoV, tIfE, tN0, tCo, tTu, tLs, tCl, tFn, tMh, tRt, tRt0, tNx, tEx, tSe, tAs, gN, gS, gT, gsc, gs0, tU, i2, i2c, rNegD, intC, absD, minD, isD, eqi, eqs, eqb, nei, nes, neb, DL.rIsD, DL.rIsnD, rAddD, rMulD, tMe, tMe0, tBk, tCt, outD, EndsD.xk, startD, optP_some, List.map_cons, List.map_nil, List.length_cons, List.length_nil, List.cons_append, List.nil_append, List.append_nil, List.set_cons_zero, List.set_cons_succ, List.set_nil, List.getElem?_cons_zero, List.getElem?_cons_succ, List.replicate_succ, List.replicate_zero, Nat.zero_add, Nat.reduceAdd, Nat.reduceSub, decide_eq_true_eq, Bool.not_eq_true', decide_eq_false_iff_not, objD]
        refine ⟨⟨_, rfl, rfl⟩, abc_at hk ⟨A, _, rfl, w3, ?_⟩⟩
        rw [if_pos w2]
        simp only [wipeD, items_tup, items_lst, items_rng, tupleD, seqA_tup, seqA_lst, tSq, tIf', tTs, tO, tV, tK, tTr, truD, tNo, tAn, tOr', tAnV, tOrV', tNoV, tIfE, tN0, tCo, tTu, tLs, tCl, tFn, tMh, tRt, tRt0, tNx, tEx, tSe, tAs, gN, gS, gT, gsc, gs0, tU, i2, i2c, rNegD, intC, absD, minD, isD, eqi, eqs, eqb, nei, nes, neb, DL.rIsD, DL.rIsnD, rAddD, rMulD, tMe, tMe0, tBk, tCt, outD, EndsD.xk, startD, optP_some, List.map_cons, List.map_nil, List.length_cons, List.length_nil, List.cons_append, List.nil_append, List.append_nil, List.set_cons_zero, List.set_cons_succ, List.set_nil, List.getElem?_cons_zero, List.getElem?_cons_succ, List.replicate_succ, List.replicate_zero, Nat.zero_add, Nat.reduceAdd, Nat.reduceSub, decide_eq_true_eq, Bool.not_eq_true', decide_eq_false_iff_not, ix_eq h0 k1]
        refine ⟨_, _, _, rfl, k2, rl _ (w.way _), ?_⟩
        simp only [wipeD, items_tup, items_lst, items_rng, tupleD, seqA_tup, seqA_lst, tSq, tIf', tTs, tO, tV, tK, tTr, truD, tNo, tAn, tOr', tAnV, tOrV', tNoV, tIfE, tN0, tCo, tTu, tLs, tCl, tFn, tMh, tRt, tRt0, tNx, tEx, tSe, tAs, gN, gS, gT, gsc, gs0, tU, i2, i2c, rNegD, intC, absD, minD, isD, eqi, eqs, eqb, nei, nes, neb, DL.rIsD, DL.rIsnD, rAddD, rMulD, tMe, tMe0, tBk, tCt, outD, EndsD.xk, startD, optP_some, List.map_cons, List.map_nil, List.length_cons, List.length_nil, List.cons_append, List.nil_append, List.append_nil, List.set_cons_zero, List.set_cons_succ, List.set_nil, List.getElem?_cons_zero, List.getElem?_cons_succ, List.replicate_succ, List.replicate_zero, Nat.zero_add, Nat.reduceAdd, Nat.reduceSub, decide_eq_true_eq, Bool.not_eq_true', decide_eq_false_iff_not, decide_true, Bool.true_eq_false, if_false]
        exact hN rfl _ ⟨_, _, _, rfl⟩
      · obtain ⟨a, b, c, rfl⟩ := hi
        subst hT
        simp only [wipeD, items_tup, items_lst, items_rng, tupleD, seqA_tup, seqA_lst, tSq, tIf', tTs, tO, tV, tK, tTr, truD, tNo, tAn, tOr', tAnV, tOrV', tNoV, tIfE, tN0, tCo, tTu, tLs, tCl, tFn, tMh, tRt, tRt0, tNx, tEx, tSe, tAs, gN, gS, gT, gsc, gs0, tU, i2, i2c, rNegD, intC, absD, minD, isD, eqi, eqs, eqb, nei, nes, neb, DL.rIsD, DL.rIsnD, rAddD, rMulD, tMe, tMe0, tBk, tCt, outD, EndsD.xk, startD, optP_some, List.map_cons, List.map_nil, List.length_cons, List.length_nil, List.cons_append, List.nil_append, List.append_nil, List.set_cons_zero, List.set_cons_succ, List.set_nil, List.getElem?_cons_zero, List.getElem?_cons_succ, List.replicate_succ, List.replicate_zero, Nat.zero_add, Nat.reduceAdd, Nat.reduceSub, decide_eq_true_eq, Bool.not_eq_true', decide_eq_false_iff_not, objD]
        refine ⟨⟨_, rfl, rfl⟩, A, rfl, w, ⟨_, rfl, rfl⟩, A, rfl, w, by rw [sizeLine_eq]; decide, ?_⟩
        simp only [wipeD, items_tup, items_lst, items_rng, tupleD, seqA_tup, seqA_lst, tSq, tIf', tTs, tO, tV, tK, tTr, truD, tNo, tAn, tOr', tAnV, tOrV', tNoV, tIfE, tN0, tCo, tTu, tLs, tCl, tFn, tMh, tRt, tRt0, tNx, tEx, tSe, tAs, gN, gS, gT, gsc, gs0, tU, i2, i2c, rNegD, intC, absD, minD, isD, eqi, eqs, eqb, nei, nes, neb, DL.rIsD, DL.rIsnD, rAddD, rMulD, tMe, tMe0, tBk, tCt, outD, EndsD.xk, startD, optP_some, List.map_cons, List.map_nil, List.length_cons, List.length_nil, List.cons_append, List.nil_append, List.append_nil, List.set_cons_zero, List.set_cons_succ, List.set_nil, List.getElem?_cons_zero, List.getElem?_cons_succ, List.replicate_succ, List.replicate_zero, Nat.zero_add, Nat.reduceAdd, Nat.reduceSub, decide_eq_true_eq, Bool.not_eq_true', decide_eq_false_iff_not, ix_eq h0 atI_1, ix_eq hr (w.r.at w.zero.1 w.zero.2)]
        refine ⟨by rw [sizeLine_eq]; decide, [zeroV A, gi A.rest (zeroV A)], [zeroV A, gi A.rest (zeroV A)], _, rfl, rfl, (by show 2 ≤ 1000; decide), ?_⟩
        rw [decide_eq_true rfl]
        exact out_ret h
      · rw [ff_none (fun _ _ => rfl)] at hq
        cases hq
    · rw [ff_none (fun _ _ => rfl)] at hq
      cases hq
  · rw [ff_none (fun _ _ => rfl)] at hq
    cases hq
end K63
namespace K63
open PySem PySem.Spec PyProof.Rows L2 DL
variable [B : Obs] {K : PySem.W.Frag} {mg : Str → Option Value} {P : Program} {ds : List D} {M : Md} {Q : VD} {X : XD}
theorem ne_same2 {s : Str} {i : Int} (hs : PyData.canLay0 (.str s) = true) (h : Q (.bl false) M) : DL.rNeD (.tup [.str s, .int i]) (.tup [.str s, .int i]) M Q := by
  have sh : SeqAt.shaped (.tuple [.str s, .int i]) = true := by
    unfold SeqAt.shaped
    rw [Bool.and_eq_true]
    refine ⟨?_, decide_eq_true ?_⟩
    · show (PyData.canLay0 (.str s) && (PyData.canLay0 (.int i) && PyData.canLayAll0 [])) = true
      rw [hs]
      rfl
    · show max 0 (max 0 0) + 1 ≤ 64
      decide
  refine ⟨.tuple [.str s, .int i], .tuple [.str s, .int i], .tup (.cons (.str s) (.cons (.int i) .nil)), .tup (.cons (.str s) (.cons (.int i) .nil)), sh, sh, ?_⟩
  have e : PyData.eqv (.tuple [.str s, .int i]) (.tuple [.str s, .int i]) = true := by
    show ((s == s) && ((i == i) && true)) = true
    simp
  rw [e]
  exact h
theorem log_of {i : Int} (h : i.natAbs ≤ 1000000) : i.natAbs.log2 < 1920 := by
  by_cases e : i.natAbs = 0
  · rw [e]
    decide
  · have h2 := (Nat.log2_lt e (k := 1920)).mpr (Nat.lt_of_le_of_lt h (Nat.lt_of_lt_of_le (show 1000000 < 2 ^ 20 from by decide) (Nat.pow_le_pow_right (by decide) (by decide))))
    exact h2
theorem p__law_joined (h : sp__law_joined K ds M Q X) : t__law_joined K (outD Q X) (startD N__law_joined ds) M := by
  obtain ⟨st, cs, A, t, rfl, s, w, tc, h⟩ := h
  have lo := w.lo
  have hi := w.hi
  have rl := w.r.len
  obtain ⟨dm, dr, da, db, dc, xs, h0, h1, hp, hr, ha, hb, hc⟩ := (tc M Ext.refl).ex
  simp only [N__law_joined, startD, List.map_cons, List.map_nil, List.length_cons, List.length_nil, Nat.zero_add, Nat.reduceAdd, Nat.reduceSub, List.replicate_succ, List.replicate_zero, List.cons_append, List.nil_append]
  unfold t__law_joined
  refine tSq_step fun T hT => ?_
  simp only [wipeD, items_tup, items_lst, items_rng, tupleD, seqA_tup, seqA_lst, tSq, tIf', tTs, tO, tV, tK, tTr, truD, tNo, tAn, tOr', tAnV, tOrV', tNoV, tIfE, tN0, tCo, tTu, tLs, tCl, tFn, tMh, tRt, tRt0, tNx, tEx, tSe, tAs, gN, gS, gT, gsc, gs0, tU, i2, i2c, rNegD, intC, absD, minD, isD, eqi, eqs, eqb, nei, nes, neb, DL.rIsD, DL.rIsnD, rAddD, rMulD, tMe, tMe0, tBk, tCt, outD, EndsD.xk, startD, optP_some, List.map_cons, List.map_nil, List.length_cons, List.length_nil, List.cons_append, List.nil_append, List.append_nil, List.set_cons_zero, List.set_cons_succ, List.set_nil, List.getElem?_cons_zero, List.getElem?_cons_succ, List.replicate_succ, List.replicate_zero, Nat.zero_add, Nat.reduceAdd, Nat.reduceSub, decide_eq_true_eq, Bool.not_eq_true', decide_eq_false_iff_not, ix_eq h0 atI_1, len_eq hr, iL_len, rl]
  subst hT
  refine tSq_step fun T hT => ?_
  simp only [tFo, tIR1, wipeD, items_tup, items_lst, items_rng, tupleD, seqA_tup, seqA_lst, tSq, tIf', tTs, tO, tV, tK, tTr, truD, tNo, tAn, tOr', tAnV, tOrV', tNoV, tIfE, tN0, tCo, tTu, tLs, tCl, tFn, tMh, tRt, tRt0, tNx, tEx, tSe, tAs, gN, gS, gT, gsc, gs0, tU, i2, i2c, rNegD, intC, absD, minD, isD, eqi, eqs, eqb, nei, nes, neb, DL.rIsD, DL.rIsnD, rAddD, rMulD, tMe, tMe0, tBk, tCt, outD, EndsD.xk, startD, optP_some, List.map_cons, List.map_nil, List.length_cons, List.length_nil, List.cons_append, List.nil_append, List.append_nil, List.set_cons_zero, List.set_cons_succ, List.set_nil, List.getElem?_cons_zero, List.getElem?_cons_succ, List.replicate_succ, List.replicate_zero, Nat.zero_add, Nat.reduceAdd, Nat.reduceSub, decide_eq_true_eq, Bool.not_eq_true', decide_eq_false_iff_not]
  refine ⟨⟨by decide, by decide⟩, ?_⟩
  refine forGo_range (n := 3) (P := fun k δ N => (∃ a b c e, δ = [some (D.ref st), some (algD K A), some t, some (.int A.n), a, b, c, e]) ∧ Ext st cs M N ∧ (∀ a, M a = none → N a = none) ∧ StOk N st cs) (fun δ N hP => ?_) (fun k hk δ N hP R hR => ⟨trivial, ?_⟩) ⟨⟨_, _, _, _, rfl⟩, Ext.refl, fun _ h => h, s⟩
  · obtain ⟨⟨a, b, c, e, rfl⟩, e1, z1, s1⟩ := hP
    subst hT
    simp only [wipeD, items_tup, items_lst, items_rng, tupleD, seqA_tup, seqA_lst, tSq, tIf', tTs, tO, tV, tK, tTr, truD, tNo, tAn, tOr', tAnV, tOrV', tNoV, tIfE, tN0, tCo, tTu, tLs, tCl, tFn, tMh, tRt, tRt0, tNx, tEx, tSe, tAs, gN, gS, gT, gsc, gs0, tU, i2, i2c, rNegD, intC, absD, minD, isD, eqi, eqs, eqb, nei, nes, neb, DL.rIsD, DL.rIsnD, rAddD, rMulD, tMe, tMe0, tBk, tCt, outD, EndsD.xk, startD, optP_some, List.map_cons, List.map_nil, List.length_cons, List.length_nil, List.cons_append, List.nil_append, List.append_nil, List.set_cons_zero, List.set_cons_succ, List.set_nil, List.getElem?_cons_zero, List.getElem?_cons_succ, List.replicate_succ, List.replicate_zero, Nat.zero_add, Nat.reduceAdd, Nat.reduceSub, decide_eq_true_eq, Bool.not_eq_true', decide_eq_false_iff_not]
    exact ⟨trivial, out_ret (h N e1 z1 s1)⟩
  · obtain ⟨⟨a, b, c, e, rfl⟩, e1, z1, s1⟩ := hP
    simp only [wipeD, items_tup, items_lst, items_rng, tupleD, seqA_tup, seqA_lst, tSq, tIf', tTs, tO, tV, tK, tTr, truD, tNo, tAn, tOr', tAnV, tOrV', tNoV, tIfE, tN0, tCo, tTu, tLs, tCl, tFn, tMh, tRt, tRt0, tNx, tEx, tSe, tAs, gN, gS, gT, gsc, gs0, tU, i2, i2c, rNegD, intC, absD, minD, isD, eqi, eqs, eqb, nei, nes, neb, DL.rIsD, DL.rIsnD, rAddD, rMulD, tMe, tMe0, tBk, tCt, outD, EndsD.xk, startD, optP_some, List.map_cons, List.map_nil, List.length_cons, List.length_nil, List.cons_append, List.nil_append, List.append_nil, List.set_cons_zero, List.set_cons_succ, List.set_nil, List.getElem?_cons_zero, List.getElem?_cons_succ, List.replicate_succ, List.replicate_zero, Nat.zero_add, Nat.reduceAdd, Nat.reduceSub, decide_eq_true_eq, Bool.not_eq_true', decide_eq_false_iff_not]
    refine ⟨st, cs, A.n, rfl, s1, by omega, hi, fun x N2 bx e2 z2 s2 => ?_⟩
    simp only [wipeD, items_tup, items_lst, items_rng, tupleD, seqA_tup, seqA_lst, tSq, tIf', tTs, tO, tV, tK, tTr, truD, tNo, tAn, tOr', tAnV, tOrV', tNoV, tIfE, tN0, tCo, tTu, tLs, tCl, tFn, tMh, tRt, tRt0, tNx, tEx, tSe, tAs, gN, gS, gT, gsc, gs0, tU, i2, i2c, rNegD, intC, absD, minD, isD, eqi, eqs, eqb, nei, nes, neb, DL.rIsD, DL.rIsnD, rAddD, rMulD, tMe, tMe0, tBk, tCt, outD, EndsD.xk, startD, optP_some, List.map_cons, List.map_nil, List.length_cons, List.length_nil, List.cons_append, List.nil_append, List.append_nil, List.set_cons_zero, List.set_cons_succ, List.set_nil, List.getElem?_cons_zero, List.getElem?_cons_succ, List.replicate_succ, List.replicate_zero, Nat.zero_add, Nat.reduceAdd, Nat.reduceSub, decide_eq_true_eq, Bool.not_eq_true', decide_eq_false_iff_not]
    refine ⟨st, cs, A.n, rfl, s2, by omega, hi, fun y N3 b_y e3 z3 s3 => ?_⟩
    have eE : Ext st cs M N3 := (e1.trans e2).trans e3
    have eZ : ∀ a, M a = none → N3 a = none := fun a ha => z3 a (z2 a (z1 a ha))
    have fin : ∀ δ', (∃ a b c e, δ' = [some (D.ref st), some (algD K A), some t, some (.int A.n), a, b, c, e]) → R δ' N3 := fun δ' h' => hR δ' N3 ⟨h', eE, eZ, s3⟩
    simp only [wipeD, items_tup, items_lst, items_rng, tupleD, seqA_tup, seqA_lst, tSq, tIf', tTs, tO, tV, tK, tTr, truD, tNo, tAn, tOr', tAnV, tOrV', tNoV, tIfE, tN0, tCo, tTu, tLs, tCl, tFn, tMh, tRt, tRt0, tNx, tEx, tSe, tAs, gN, gS, gT, gsc, gs0, tU, i2, i2c, rNegD, intC, absD, minD, isD, eqi, eqs, eqb, nei, nes, neb, DL.rIsD, DL.rIsnD, rAddD, rMulD, tMe, tMe0, tBk, tCt, outD, EndsD.xk, startD, optP_some, List.map_cons, List.map_nil, List.length_cons, List.length_nil, List.cons_append, List.nil_append, List.append_nil, List.set_cons_zero, List.set_cons_succ, List.set_nil, List.getElem?_cons_zero, List.getElem?_cons_succ, List.replicate_succ, List.replicate_zero, Nat.zero_add, Nat.reduceAdd, Nat.reduceSub, decide_eq_true_eq, Bool.not_eq_true', decide_eq_false_iff_not]
    have tj : ∀ (d : D) (Q' : VD), d = (if 0 ≤ x ∧ x < A.n then (if 0 ≤ y ∧ y < A.n then D.tup [.str "join", .int (joinV A x y)] else .tup [.str "element", .int y]) else .tup [.str "element", .int x]) → Q' d N3 → ∀ Xd, sp__law_try_join K [algD K A, .int x, .int y] N3 Q' Xd := fun d Q' e hq Xd => ⟨A, x, y, rfl, w, log_of bx, log_of b_y, by rw [← e]; exact hq⟩
    split
    · rename_i q
      refine ⟨by rw [sizeLine_eq]; decide, tj (.tup [.str "element", .int x]) _ (by rw [if_neg (by omega)]) (ne_same2 (by decide +kernel) ?_) _⟩
      simp only [wipeD, items_tup, items_lst, items_rng, tupleD, seqA_tup, seqA_lst, tSq, tIf', tTs, tO, tV, tK, tTr, truD, tNo, tAn, tOr', tAnV, tOrV', tNoV, tIfE, tN0, tCo, tTu, tLs, tCl, tFn, tMh, tRt, tRt0, tNx, tEx, tSe, tAs, gN, gS, gT, gsc, gs0, tU, i2, i2c, rNegD, intC, absD, minD, isD, eqi, eqs, eqb, nei, nes, neb, DL.rIsD, DL.rIsnD, rAddD, rMulD, tMe, tMe0, tBk, tCt, outD, EndsD.xk, startD, optP_some, List.map_cons, List.map_nil, List.length_cons, List.length_nil, List.cons_append, List.nil_append, List.append_nil, List.set_cons_zero, List.set_cons_succ, List.set_nil, List.getElem?_cons_zero, List.getElem?_cons_succ, List.replicate_succ, List.replicate_zero, Nat.zero_add, Nat.reduceAdd, Nat.reduceSub, decide_eq_true_eq, Bool.not_eq_true', decide_eq_false_iff_not, Bool.false_eq_true, if_false]
      exact fin _ ⟨_, _, _, _, rfl⟩
    · rename_i q
      split
      · rename_i q2
        refine ⟨by rw [sizeLine_eq]; decide, tj (.tup [.str "element", .int x]) _ (by rw [if_neg (by omega)]) (ne_same2 (by decide +kernel) ?_) _⟩
        simp only [wipeD, items_tup, items_lst, items_rng, tupleD, seqA_tup, seqA_lst, tSq, tIf', tTs, tO, tV, tK, tTr, truD, tNo, tAn, tOr', tAnV, tOrV', tNoV, tIfE, tN0, tCo, tTu, tLs, tCl, tFn, tMh, tRt, tRt0, tNx, tEx, tSe, tAs, gN, gS, gT, gsc, gs0, tU, i2, i2c, rNegD, intC, absD, minD, isD, eqi, eqs, eqb, nei, nes, neb, DL.rIsD, DL.rIsnD, rAddD, rMulD, tMe, tMe0, tBk, tCt, outD, EndsD.xk, startD, optP_some, List.map_cons, List.map_nil, List.length_cons, List.length_nil, List.cons_append, List.nil_append, List.append_nil, List.set_cons_zero, List.set_cons_succ, List.set_nil, List.getElem?_cons_zero, List.getElem?_cons_succ, List.replicate_succ, List.replicate_zero, Nat.zero_add, Nat.reduceAdd, Nat.reduceSub, decide_eq_true_eq, Bool.not_eq_true', decide_eq_false_iff_not, Bool.false_eq_true, if_false]
        exact fin _ ⟨_, _, _, _, rfl⟩
      · rename_i q2
        split
        · rename_i q3
          refine ⟨by rw [sizeLine_eq]; decide, tj (.tup [.str "element", .int y]) _ (by rw [if_pos (by omega), if_neg (by omega)]) (ne_same2 (by decide +kernel) ?_) _⟩
          simp only [wipeD, items_tup, items_lst, items_rng, tupleD, seqA_tup, seqA_lst, tSq, tIf', tTs, tO, tV, tK, tTr, truD, tNo, tAn, tOr', tAnV, tOrV', tNoV, tIfE, tN0, tCo, tTu, tLs, tCl, tFn, tMh, tRt, tRt0, tNx, tEx, tSe, tAs, gN, gS, gT, gsc, gs0, tU, i2, i2c, rNegD, intC, absD, minD, isD, eqi, eqs, eqb, nei, nes, neb, DL.rIsD, DL.rIsnD, rAddD, rMulD, tMe, tMe0, tBk, tCt, outD, EndsD.xk, startD, optP_some, List.map_cons, List.map_nil, List.length_cons, List.length_nil, List.cons_append, List.nil_append, List.append_nil, List.set_cons_zero, List.set_cons_succ, List.set_nil, List.getElem?_cons_zero, List.getElem?_cons_succ, List.replicate_succ, List.replicate_zero, Nat.zero_add, Nat.reduceAdd, Nat.reduceSub, decide_eq_true_eq, Bool.not_eq_true', decide_eq_false_iff_not, Bool.false_eq_true, if_false]
          exact fin _ ⟨_, _, _, _, rfl⟩
        · rename_i q3
          split
          · rename_i q4
            refine ⟨by rw [sizeLine_eq]; decide, tj (.tup [.str "element", .int y]) _ (by rw [if_pos (by omega), if_neg (by omega)]) (ne_same2 (by decide +kernel) ?_) _⟩
            simp only [wipeD, items_tup, items_lst, items_rng, tupleD, seqA_tup, seqA_lst, tSq, tIf', tTs, tO, tV, tK, tTr, truD, tNo, tAn, tOr', tAnV, tOrV', tNoV, tIfE, tN0, tCo, tTu, tLs, tCl, tFn, tMh, tRt, tRt0, tNx, tEx, tSe, tAs, gN, gS, gT, gsc, gs0, tU, i2, i2c, rNegD, intC, absD, minD, isD, eqi, eqs, eqb, nei, nes, neb, DL.rIsD, DL.rIsnD, rAddD, rMulD, tMe, tMe0, tBk, tCt, outD, EndsD.xk, startD, optP_some, List.map_cons, List.map_nil, List.length_cons, List.length_nil, List.cons_append, List.nil_append, List.append_nil, List.set_cons_zero, List.set_cons_succ, List.set_nil, List.getElem?_cons_zero, List.getElem?_cons_succ, List.replicate_succ, List.replicate_zero, Nat.zero_add, Nat.reduceAdd, Nat.reduceSub, decide_eq_true_eq, Bool.not_eq_true', decide_eq_false_iff_not, Bool.false_eq_true, if_false]
            exact fin _ ⟨_, _, _, _, rfl⟩
          · rename_i q4
            refine ⟨A, t, x, y, rfl, tc N3 eE, w, by omega, by omega, by omega, by omega, by rw [sizeLine_eq]; decide, tj (.tup [.str "join", .int (joinV A x y)]) _ (by rw [if_pos (by omega), if_pos (by omega)]) (ne_same2 (by decide +kernel) ?_) _⟩
            simp only [wipeD, items_tup, items_lst, items_rng, tupleD, seqA_tup, seqA_lst, tSq, tIf', tTs, tO, tV, tK, tTr, truD, tNo, tAn, tOr', tAnV, tOrV', tNoV, tIfE, tN0, tCo, tTu, tLs, tCl, tFn, tMh, tRt, tRt0, tNx, tEx, tSe, tAs, gN, gS, gT, gsc, gs0, tU, i2, i2c, rNegD, intC, absD, minD, isD, eqi, eqs, eqb, nei, nes, neb, DL.rIsD, DL.rIsnD, rAddD, rMulD, tMe, tMe0, tBk, tCt, outD, EndsD.xk, startD, optP_some, List.map_cons, List.map_nil, List.length_cons, List.length_nil, List.cons_append, List.nil_append, List.append_nil, List.set_cons_zero, List.set_cons_succ, List.set_nil, List.getElem?_cons_zero, List.getElem?_cons_succ, List.replicate_succ, List.replicate_zero, Nat.zero_add, Nat.reduceAdd, Nat.reduceSub, decide_eq_true_eq, Bool.not_eq_true', decide_eq_false_iff_not, Bool.false_eq_true, if_false]
            exact fin _ ⟨_, _, _, _, rfl⟩
end K63
namespace K63
open PySem PySem.Spec PyProof.Rows L2 DL
variable [B : Obs] {K : PySem.W.Frag} {mg : Str → Option Value} {P : Program} {ds : List D} {M : Md} {Q : VD} {X : XD}
def tryL (K : PySem.W.Frag) : List ClaD := [⟨.ref (He.ga K "BadSize"), some 1, fun a cls d => tSq (tIf' (tOr' (tTr (tIsE K (okE K) a cls d (tCo (tV 1) (tCo (tK (.ref (He.ga K "BadTable"))) tN0)))) (tNo (tTr (tIsE K (okE K) a cls d (tCo (tV 1) (tCo (tK (.ref (He.ga K "SayError"))) tN0)))))) (tRt (tTu (tCo (tK (.str "other")) (tCo (tK (.int 0)) tN0)))) tNx) (tRt (tTu (tCo (tK (.str "size")) (tCo (tIfE (tTr (tFn (sp__law_plain K) [] (tCo (tXfd (okE K) a cls d "size" (tV 1)) tN0))) (tXfd (okE K) a cls d "size" (tV 1)) (tK (.str "no number"))) tN0))))⟩, ⟨.ref (He.ga K "BadTable"), some 1, fun a cls d => tSq (tIf' (tOr' (tTr (tIsE K (okE K) a cls d (tCo (tV 1) (tCo (tK (.ref (He.ga K "BadElement"))) tN0)))) (tNo (tTr (tIsE K (okE K) a cls d (tCo (tV 1) (tCo (tK (.ty "ValueError")) tN0)))))) (tRt (tTu (tCo (tK (.str "other")) (tCo (tK (.int 0)) tN0)))) tNx) (tRt (tTu (tCo (tK (.str "table")) (tCo (tIfE (tTr (tIsE K (okE K) a cls d (tCo (tV 1) (tCo (tK (.ref (He.ga K "SayError"))) tN0)))) (tXfd (okE K) a cls d "word" (tV 1)) (tK (.int 0))) tN0))))⟩, ⟨.ref (He.ga K "SayError"), none, fun a cls d => tRt (tTu (tCo (tK (.str "other")) (tCo (tK (.int 0)) tN0)))⟩]
theorem badSize (Z : Fc P K mg) {N : Md} {z : Int} {E : EndsD} {δ : SD} (hδ : δ.length = 2) (h : E.rt (.tup [.str "size", .int z]) N) : wAllD K E (tryL K) (He.ga K "BadSize") [("size", .int z)] δ N := by
  refine ⟨true, Z.x_BadSize_BadSize, fun _ a dx hdx => ?_, fun e => nomatch e⟩
  cases dx with
  | none => exact absurd (hdx rfl) (by simp)
  | some dd =>
    have e4 : (bindCd (some 1) (excD a (He.ga K "BadSize") (some dd) [("size", .int z)]) δ)[1]? = some (some (.exc a (He.ga K "BadSize") dd ["size"] [.int z])) := by
      show (δ.set 1 _)[1]? = _
      rw [List.getElem?_set_self (by omega)]
      rfl
    simp only [wipeD, items_tup, items_lst, items_rng, tupleD, seqA_tup, seqA_lst, tSq, tIf', tTs, tO, tV, tK, tTr, truD, tNo, tAn, tOr', tAnV, tOrV', tNoV, tIfE, tN0, tCo, tTu, tLs, tCl, tFn, tMh, tRt, tRt0, tNx, tEx, tSe, tAs, gN, gS, gT, gsc, gs0, tU, i2, i2c, rNegD, intC, absD, minD, isD, eqi, eqs, eqb, nei, nes, neb, DL.rIsD, DL.rIsnD, rAddD, rMulD, tMe, tMe0, tBk, tCt, outD, EndsD.xk, startD, optP_some, List.map_cons, List.map_nil, List.length_cons, List.length_nil, List.cons_append, List.nil_append, List.append_nil, List.set_cons_zero, List.set_cons_succ, List.set_nil, List.getElem?_cons_zero, List.getElem?_cons_succ, List.replicate_succ, List.replicate_zero, Nat.zero_add, Nat.reduceAdd, Nat.reduceSub, decide_eq_true_eq, Bool.not_eq_true', decide_eq_false_iff_not, e4, tIsE, true_and]
    refine ⟨.inr (.inl rfl), _, _, rfl, Z.k_BadSize_BadTable, ?_⟩
    simp only [wipeD, items_tup, items_lst, items_rng, tupleD, seqA_tup, seqA_lst, tSq, tIf', tTs, tO, tV, tK, tTr, truD, tNo, tAn, tOr', tAnV, tOrV', tNoV, tIfE, tN0, tCo, tTu, tLs, tCl, tFn, tMh, tRt, tRt0, tNx, tEx, tSe, tAs, gN, gS, gT, gsc, gs0, tU, i2, i2c, rNegD, intC, absD, minD, isD, eqi, eqs, eqb, nei, nes, neb, DL.rIsD, DL.rIsnD, rAddD, rMulD, tMe, tMe0, tBk, tCt, outD, EndsD.xk, startD, optP_some, List.map_cons, List.map_nil, List.length_cons, List.length_nil, List.cons_append, List.nil_append, List.append_nil, List.set_cons_zero, List.set_cons_succ, List.set_nil, List.getElem?_cons_zero, List.getElem?_cons_succ, List.replicate_succ, List.replicate_zero, Nat.zero_add, Nat.reduceAdd, Nat.reduceSub, decide_eq_true_eq, Bool.not_eq_true', decide_eq_false_iff_not, e4, Bool.false_eq_true, if_false, true_and]
    refine ⟨.inr (.inl rfl), _, _, rfl, Z.k_BadSize_SayError, ?_⟩
    simp only [wipeD, items_tup, items_lst, items_rng, tupleD, seqA_tup, seqA_lst, tSq, tIf', tTs, tO, tV, tK, tTr, truD, tNo, tAn, tOr', tAnV, tOrV', tNoV, tIfE, tN0, tCo, tTu, tLs, tCl, tFn, tMh, tRt, tRt0, tNx, tEx, tSe, tAs, gN, gS, gT, gsc, gs0, tU, i2, i2c, rNegD, intC, absD, minD, isD, eqi, eqs, eqb, nei, nes, neb, DL.rIsD, DL.rIsnD, rAddD, rMulD, tMe, tMe0, tBk, tCt, outD, EndsD.xk, startD, optP_some, List.map_cons, List.map_nil, List.length_cons, List.length_nil, List.cons_append, List.nil_append, List.append_nil, List.set_cons_zero, List.set_cons_succ, List.set_nil, List.getElem?_cons_zero, List.getElem?_cons_succ, List.replicate_succ, List.replicate_zero, Nat.zero_add, Nat.reduceAdd, Nat.reduceSub, decide_eq_true_eq, Bool.not_eq_true', decide_eq_false_iff_not, e4, tXfd, Bool.true_eq_false, if_false, true_and]
    refine ⟨.inr (.inl rfl), _, rfl, _, rfl, by rw [tyN_int]; rfl, ?_⟩
    rw [show isInt (D.int z) = true from rfl]
    simp only [wipeD, items_tup, items_lst, items_rng, tupleD, seqA_tup, seqA_lst, tSq, tIf', tTs, tO, tV, tK, tTr, truD, tNo, tAn, tOr', tAnV, tOrV', tNoV, tIfE, tN0, tCo, tTu, tLs, tCl, tFn, tMh, tRt, tRt0, tNx, tEx, tSe, tAs, gN, gS, gT, gsc, gs0, tU, i2, i2c, rNegD, intC, absD, minD, isD, eqi, eqs, eqb, nei, nes, neb, DL.rIsD, DL.rIsnD, rAddD, rMulD, tMe, tMe0, tBk, tCt, outD, EndsD.xk, startD, optP_some, List.map_cons, List.map_nil, List.length_cons, List.length_nil, List.cons_append, List.nil_append, List.append_nil, List.set_cons_zero, List.set_cons_succ, List.set_nil, List.getElem?_cons_zero, List.getElem?_cons_succ, List.replicate_succ, List.replicate_zero, Nat.zero_add, Nat.reduceAdd, Nat.reduceSub, decide_eq_true_eq, Bool.not_eq_true', decide_eq_false_iff_not, if_true]
    exact ⟨.inr (.inl rfl), _, rfl, by rw [sizeLine_eq]; decide, h⟩
theorem badTable (Z : Fc P K mg) {N : Md} {z : Str} {E : EndsD} {δ : SD} (hδ : δ.length = 2) (h : E.rt (.tup [.str "table", .str z]) N) : wAllD K E (tryL K) (He.ga K "BadTable") [("word", .str z)] δ N := by
  refine ⟨false, Z.x_BadTable_BadSize, (fun e => nomatch e), fun _ => ⟨true, Z.x_BadTable_BadTable, fun _ a dx hdx => ?_, fun e => nomatch e⟩⟩
  cases dx with
  | none => exact absurd (hdx rfl) (by simp)
  | some dd =>
    have e4 : (bindCd (some 1) (excD a (He.ga K "BadTable") (some dd) [("word", .str z)]) δ)[1]? = some (some (.exc a (He.ga K "BadTable") dd ["word"] [.str z])) := by
      show (δ.set 1 _)[1]? = _
      rw [List.getElem?_set_self (by omega)]
      rfl
    simp only [wipeD, items_tup, items_lst, items_rng, tupleD, seqA_tup, seqA_lst, tSq, tIf', tTs, tO, tV, tK, tTr, truD, tNo, tAn, tOr', tAnV, tOrV', tNoV, tIfE, tN0, tCo, tTu, tLs, tCl, tFn, tMh, tRt, tRt0, tNx, tEx, tSe, tAs, gN, gS, gT, gsc, gs0, tU, i2, i2c, rNegD, intC, absD, minD, isD, eqi, eqs, eqb, nei, nes, neb, DL.rIsD, DL.rIsnD, rAddD, rMulD, tMe, tMe0, tBk, tCt, outD, EndsD.xk, startD, optP_some, List.map_cons, List.map_nil, List.length_cons, List.length_nil, List.cons_append, List.nil_append, List.append_nil, List.set_cons_zero, List.set_cons_succ, List.set_nil, List.getElem?_cons_zero, List.getElem?_cons_succ, List.replicate_succ, List.replicate_zero, Nat.zero_add, Nat.reduceAdd, Nat.reduceSub, decide_eq_true_eq, Bool.not_eq_true', decide_eq_false_iff_not, e4, tIsE, true_and]
    refine ⟨.inr (.inr (.inl rfl)), _, _, rfl, Z.k_BadTable_BadElement, ?_⟩
    simp only [wipeD, items_tup, items_lst, items_rng, tupleD, seqA_tup, seqA_lst, tSq, tIf', tTs, tO, tV, tK, tTr, truD, tNo, tAn, tOr', tAnV, tOrV', tNoV, tIfE, tN0, tCo, tTu, tLs, tCl, tFn, tMh, tRt, tRt0, tNx, tEx, tSe, tAs, gN, gS, gT, gsc, gs0, tU, i2, i2c, rNegD, intC, absD, minD, isD, eqi, eqs, eqb, nei, nes, neb, DL.rIsD, DL.rIsnD, rAddD, rMulD, tMe, tMe0, tBk, tCt, outD, EndsD.xk, startD, optP_some, List.map_cons, List.map_nil, List.length_cons, List.length_nil, List.cons_append, List.nil_append, List.append_nil, List.set_cons_zero, List.set_cons_succ, List.set_nil, List.getElem?_cons_zero, List.getElem?_cons_succ, List.replicate_succ, List.replicate_zero, Nat.zero_add, Nat.reduceAdd, Nat.reduceSub, decide_eq_true_eq, Bool.not_eq_true', decide_eq_false_iff_not, e4, Bool.false_eq_true, if_false, true_and]
    refine ⟨.inr (.inr (.inl rfl)), _, _, rfl, Z.k_BadTable_ValueError, ?_⟩
    simp only [wipeD, items_tup, items_lst, items_rng, tupleD, seqA_tup, seqA_lst, tSq, tIf', tTs, tO, tV, tK, tTr, truD, tNo, tAn, tOr', tAnV, tOrV', tNoV, tIfE, tN0, tCo, tTu, tLs, tCl, tFn, tMh, tRt, tRt0, tNx, tEx, tSe, tAs, gN, gS, gT, gsc, gs0, tU, i2, i2c, rNegD, intC, absD, minD, isD, eqi, eqs, eqb, nei, nes, neb, DL.rIsD, DL.rIsnD, rAddD, rMulD, tMe, tMe0, tBk, tCt, outD, EndsD.xk, startD, optP_some, List.map_cons, List.map_nil, List.length_cons, List.length_nil, List.cons_append, List.nil_append, List.append_nil, List.set_cons_zero, List.set_cons_succ, List.set_nil, List.getElem?_cons_zero, List.getElem?_cons_succ, List.replicate_succ, List.replicate_zero, Nat.zero_add, Nat.reduceAdd, Nat.reduceSub, decide_eq_true_eq, Bool.not_eq_true', decide_eq_false_iff_not, e4, Bool.true_eq_false, if_false, true_and]
    refine ⟨.inr (.inr (.inl rfl)), _, _, rfl, Z.k_BadTable_SayError, ?_⟩
    simp only [wipeD, items_tup, items_lst, items_rng, tupleD, seqA_tup, seqA_lst, tSq, tIf', tTs, tO, tV, tK, tTr, truD, tNo, tAn, tOr', tAnV, tOrV', tNoV, tIfE, tN0, tCo, tTu, tLs, tCl, tFn, tMh, tRt, tRt0, tNx, tEx, tSe, tAs, gN, gS, gT, gsc, gs0, tU, i2, i2c, rNegD, intC, absD, minD, isD, eqi, eqs, eqb, nei, nes, neb, DL.rIsD, DL.rIsnD, rAddD, rMulD, tMe, tMe0, tBk, tCt, outD, EndsD.xk, startD, optP_some, List.map_cons, List.map_nil, List.length_cons, List.length_nil, List.cons_append, List.nil_append, List.append_nil, List.set_cons_zero, List.set_cons_succ, List.set_nil, List.getElem?_cons_zero, List.getElem?_cons_succ, List.replicate_succ, List.replicate_zero, Nat.zero_add, Nat.reduceAdd, Nat.reduceSub, decide_eq_true_eq, Bool.not_eq_true', decide_eq_false_iff_not, e4, tXfd, if_true, true_and]
    exact ⟨.inr (.inr (.inl rfl)), _, rfl, by rw [sizeLine_eq]; decide, h⟩
theorem paired_mono {xs : List D} {m : List (List Int)} {N : Md} (h : Paired (fun x ns => NumsAt M x ns) xs m) (k : ∀ x ns, NumsAt M x ns → NumsAt N x ns) : Paired (fun x ns => NumsAt N x ns) xs m := paired_imp k h
theorem p__law_try (Z : Fc P K mg) (h : sp__law_try K ds M Q X) : t__law_try K (outD Q X) (startD N__law_try ds) M := by
  obtain ⟨d, m, r, a, b, c, rfl, ⟨dm, dr, da, db, dc, xs, h0, h1, hp, hr, ha, hb, hc⟩, lr, lm, h⟩ := h
  simp only [N__law_try, startD, List.map_cons, List.map_nil, List.length_cons, List.length_nil, Nat.zero_add, Nat.reduceAdd, Nat.reduceSub, List.replicate_succ, List.replicate_zero, List.cons_append, List.nil_append]
  unfold t__law_try
  rw [show [⟨.ref (He.ga K "BadSize"), some 1, fun a cls d => tSq (tIf' (tOr' (tTr (tIsE K (okE K) a cls d (tCo (tV 1) (tCo (tK (.ref (He.ga K "BadTable"))) tN0)))) (tNo (tTr (tIsE K (okE K) a cls d (tCo (tV 1) (tCo (tK (.ref (He.ga K "SayError"))) tN0)))))) (tRt (tTu (tCo (tK (.str "other")) (tCo (tK (.int 0)) tN0)))) tNx) (tRt (tTu (tCo (tK (.str "size")) (tCo (tIfE (tTr (tFn (sp__law_plain K) [] (tCo (tXfd (okE K) a cls d "size" (tV 1)) tN0))) (tXfd (okE K) a cls d "size" (tV 1)) (tK (.str "no number"))) tN0))))⟩, ⟨.ref (He.ga K "BadTable"), some 1, fun a cls d => tSq (tIf' (tOr' (tTr (tIsE K (okE K) a cls d (tCo (tV 1) (tCo (tK (.ref (He.ga K "BadElement"))) tN0)))) (tNo (tTr (tIsE K (okE K) a cls d (tCo (tV 1) (tCo (tK (.ty "ValueError")) tN0)))))) (tRt (tTu (tCo (tK (.str "other")) (tCo (tK (.int 0)) tN0)))) tNx) (tRt (tTu (tCo (tK (.str "table")) (tCo (tIfE (tTr (tIsE K (okE K) a cls d (tCo (tV 1) (tCo (tK (.ref (He.ga K "SayError"))) tN0)))) (tXfd (okE K) a cls d "word" (tV 1)) (tK (.int 0))) tN0))))⟩, ⟨.ref (He.ga K "SayError"), none, fun a cls d => tRt (tTu (tCo (tK (.str "other")) (tCo (tK (.int 0)) tN0)))⟩] = tryL K from rfl]
  refine tSq_step fun T hT => ?_
  simp only [tTry, tMk, wipeD, items_tup, items_lst, items_rng, tupleD, seqA_tup, seqA_lst, tSq, tIf', tTs, tO, tV, tK, tTr, truD, tNo, tAn, tOr', tAnV, tOrV', tNoV, tIfE, tN0, tCo, tTu, tLs, tCl, tFn, tMh, tRt, tRt0, tNx, tEx, tSe, tAs, gN, gS, gT, gsc, gs0, tU, i2, i2c, rNegD, intC, absD, minD, isD, eqi, eqs, eqb, nei, nes, neb, DL.rIsD, DL.rIsnD, rAddD, rMulD, tMe, tMe0, tBk, tCt, outD, EndsD.xk, startD, optP_some, List.map_cons, List.map_nil, List.length_cons, List.length_nil, List.cons_append, List.nil_append, List.append_nil, List.set_cons_zero, List.set_cons_succ, List.set_nil, List.getElem?_cons_zero, List.getElem?_cons_succ, List.replicate_succ, List.replicate_zero, Nat.zero_add, Nat.reduceAdd, Nat.reduceSub, decide_eq_true_eq, Bool.not_eq_true', decide_eq_false_iff_not, ix_eq h0 atI_0, ix_eq h0 atI_1, ix_eq h0 atI_2, ix_eq h0 atI_3, ix_eq h0 atI_4]
  intro p hpn
  have kp : ∀ x ns, NumsAt M x ns → NumsAt (put M p (.ins (CA K) [])) x ns := fun x ns q => seqA_put q hpn
  have back : ∀ {w : MC} {d : D}, Q d M → ∃ M' d', Fin (put M p w) d M' d' ∧ Q d' M' := fun {w d} q => ⟨M, d, .less fun b v e => by
    rw [put_ne (fun z => by subst z; rw [hpn] at e; cases e)]
    exact e, q⟩
  refine ⟨p, dm, dr, da, db, dc, xs, m, r, a, b, c, rfl, put_same, seqA_put h1 hpn, paired_mono hp kp, kp _ _ hr, kp _ _ ha, kp _ _ hb, kp _ _ hc, lr, lm, ?_⟩
  unfold dueV at h
  split
  · rename_i q
    rw [if_pos q] at h
    exact badSize Z rfl (back h)
  · rename_i q
    rw [if_neg q] at h
    split
    · rename_i w q2
      rw [q2] at h
      exact badTable Z rfl (back h)
    · rename_i q2
      rw [q2] at h
      refine ⟨rfl, _, _, .less fun _ _ z => z, ?_⟩
      subst hT
      simp only [wipeD, items_tup, items_lst, items_rng, tupleD, seqA_tup, seqA_lst, tSq, tIf', tTs, tO, tV, tK, tTr, truD, tNo, tAn, tOr', tAnV, tOrV', tNoV, tIfE, tN0, tCo, tTu, tLs, tCl, tFn, tMh, tRt, tRt0, tNx, tEx, tSe, tAs, gN, gS, gT, gsc, gs0, tU, i2, i2c, rNegD, intC, absD, minD, isD, eqi, eqs, eqb, nei, nes, neb, DL.rIsD, DL.rIsnD, rAddD, rMulD, tMe, tMe0, tBk, tCt, outD, EndsD.xk, startD, optP_some, List.map_cons, List.map_nil, List.length_cons, List.length_nil, List.cons_append, List.nil_append, List.append_nil, List.set_cons_zero, List.set_cons_succ, List.set_nil, List.getElem?_cons_zero, List.getElem?_cons_succ, List.replicate_succ, List.replicate_zero, Nat.zero_add, Nat.reduceAdd, Nat.reduceSub, decide_eq_true_eq, Bool.not_eq_true', decide_eq_false_iff_not, put_put]
      exact ⟨by rw [sizeLine_eq]; decide, back h⟩
end K63
namespace K63
open PySem PySem.Spec PyProof.Rows L2 DL
variable [B : Obs] {K : PySem.W.Frag} {mg : Str → Option Value} {P : Program} {ds : List D} {M : Md} {Q : VD} {X : XD}
theorem p__law_cells (h : sp__law_cells K ds M Q X) : t__law_cells K (outD Q X) (startD N__law_cells ds) M := by
  obtain ⟨ns, rfl, hl, h⟩ := h
  have cl : (DL.cutD ns none (some 63)).length ≤ 63 := by
    unfold DL.cutD
    rw [List.length_take, List.length_drop]
    omega
  simp only [t__law_cells, N__law_cells, wipeD, items_tup, items_lst, items_rng, tupleD, seqA_tup, seqA_lst, tSq, tIf', tTs, tO, tV, tK, tTr, truD, tNo, tAn, tOr', tAnV, tOrV', tNoV, tIfE, tN0, tCo, tTu, tLs, tCl, tFn, tMh, tRt, tRt0, tNx, tEx, tSe, tAs, gN, gS, gT, gsc, gs0, tU, i2, i2c, rNegD, intC, absD, minD, isD, eqi, eqs, eqb, nei, nes, neb, DL.rIsD, DL.rIsnD, rAddD, rMulD, tMe, tMe0, tBk, tCt, outD, EndsD.xk, startD, optP_some, List.map_cons, List.map_nil, List.length_cons, List.length_nil, List.cons_append, List.nil_append, List.append_nil, List.set_cons_zero, List.set_cons_succ, List.set_nil, List.getElem?_cons_zero, List.getElem?_cons_succ, List.replicate_succ, List.replicate_zero, Nat.zero_add, Nat.reduceAdd, Nat.reduceSub, decide_eq_true_eq, Bool.not_eq_true', decide_eq_false_iff_not, tLsM]
  refine tLcM_ints (ns := DL.cutD ns none (some 63)) (d0 := .lst (iL (DL.cutD ns none (some 63)))) (f := fun i => .int (if i < 0 then -i else i)) (fun Q' hQ => ?_) rfl (by rw [sizeLine_eq]; omega) (fun n hn p c hp Q' hQ => ?_) (fun p hp => ?_)
  · simp only [tSlc, tP0, tP1, rSlD, wipeD, items_tup, items_lst, items_rng, tupleD, seqA_tup, seqA_lst, tSq, tIf', tTs, tO, tV, tK, tTr, truD, tNo, tAn, tOr', tAnV, tOrV', tNoV, tIfE, tN0, tCo, tTu, tLs, tCl, tFn, tMh, tRt, tRt0, tNx, tEx, tSe, tAs, gN, gS, gT, gsc, gs0, tU, i2, i2c, rNegD, intC, absD, minD, isD, eqi, eqs, eqb, nei, nes, neb, DL.rIsD, DL.rIsnD, rAddD, rMulD, tMe, tMe0, tBk, tCt, outD, EndsD.xk, startD, optP_some, List.map_cons, List.map_nil, List.length_cons, List.length_nil, List.cons_append, List.nil_append, List.append_nil, List.set_cons_zero, List.set_cons_succ, List.set_nil, List.getElem?_cons_zero, List.getElem?_cons_succ, List.replicate_succ, List.replicate_zero, Nat.zero_add, Nat.reduceAdd, Nat.reduceSub, decide_eq_true_eq, Bool.not_eq_true', decide_eq_false_iff_not]
    exact hQ
  · simp only [wipeD, items_tup, items_lst, items_rng, tupleD, seqA_tup, seqA_lst, tSq, tIf', tTs, tO, tV, tK, tTr, truD, tNo, tAn, tOr', tAnV, tOrV', tNoV, tIfE, tN0, tCo, tTu, tLs, tCl, tFn, tMh, tRt, tRt0, tNx, tEx, tSe, tAs, gN, gS, gT, gsc, gs0, tU, i2, i2c, rNegD, intC, absD, minD, isD, eqi, eqs, eqb, nei, nes, neb, DL.rIsD, DL.rIsnD, rAddD, rMulD, tMe, tMe0, tBk, tCt, outD, EndsD.xk, startD, optP_some, List.map_cons, List.map_nil, List.length_cons, List.length_nil, List.cons_append, List.nil_append, List.append_nil, List.set_cons_zero, List.set_cons_succ, List.set_nil, List.getElem?_cons_zero, List.getElem?_cons_succ, List.replicate_succ, List.replicate_zero, Nat.zero_add, Nat.reduceAdd, Nat.reduceSub, decide_eq_true_eq, Bool.not_eq_true', decide_eq_false_iff_not]
    exact hQ
  · refine ⟨by rw [sizeLine_eq]; decide, fun q hq => out_ret (h q p _ ⟨(DL.cutD ns none (some 63)).map fun i => if i < 0 then -i else i, 0, 0, put_same, ?_, by omega⟩)⟩
    have ne : p ≠ q := fun e => by
      subst e
      rw [put_same] at hq
      cases hq
    rw [put_ne ne, put_same]
    unfold iL
    rw [List.map_map]
    rfl
theorem or_lt {a b : Int} {n : Nat} (a0 : 0 ≤ a) (a1 : a < 2 ^ n) (b0 : 0 ≤ b) (b1 : b < 2 ^ n) : 0 ≤ Builtin.bitOr a b ∧ Builtin.bitOr a b < 2 ^ n := by
  rw [bitOr_nn a0 b0]
  have h1 : a.toNat < 2 ^ n := by
    have : ((a.toNat : Nat) : Int) < ((2 ^ n : Nat) : Int) := by rw [Int.toNat_of_nonneg a0]; push_cast; exact a1
    exact Int.ofNat_lt.mp this
  have h2 : b.toNat < 2 ^ n := by
    have : ((b.toNat : Nat) : Int) < ((2 ^ n : Nat) : Int) := by rw [Int.toNat_of_nonneg b0]; push_cast; exact b1
    exact Int.ofNat_lt.mp this
  have h3 := Nat.or_lt_two_pow h1 h2
  refine ⟨Int.natCast_nonneg _, ?_⟩
  have : ((a.toNat ||| b.toNat : Nat) : Int) < ((2 ^ n : Nat) : Int) := Int.ofNat_lt.mpr h3
  push_cast at this
  exact this
theorem p__law_before (h : sp__law_before K ds M Q X) : t__law_before K (outD Q X) (startD N__law_before ds) M := by
  obtain ⟨d, ns, e, rfl, hd, hl, h⟩ := h
  simp only [t__law_before, N__law_before, tFo, tIR1, wipeD, items_tup, items_lst, items_rng, tupleD, seqA_tup, seqA_lst, tSq, tIf', tTs, tO, tV, tK, tTr, truD, tNo, tAn, tOr', tAnV, tOrV', tNoV, tIfE, tN0, tCo, tTu, tLs, tCl, tFn, tMh, tRt, tRt0, tNx, tEx, tSe, tAs, gN, gS, gT, gsc, gs0, tU, i2, i2c, rNegD, intC, absD, minD, isD, eqi, eqs, eqb, nei, nes, neb, DL.rIsD, DL.rIsnD, rAddD, rMulD, tMe, tMe0, tBk, tCt, outD, EndsD.xk, startD, optP_some, List.map_cons, List.map_nil, List.length_cons, List.length_nil, List.cons_append, List.nil_append, List.append_nil, List.set_cons_zero, List.set_cons_succ, List.set_nil, List.getElem?_cons_zero, List.getElem?_cons_succ, List.replicate_succ, List.replicate_zero, Nat.zero_add, Nat.reduceAdd, Nat.reduceSub, decide_eq_true_eq, Bool.not_eq_true', decide_eq_false_iff_not, len_eq hd, iL_len]
  refine ⟨⟨by omega, by omega⟩, ?_⟩
  rw [Int.toNat_natCast]
  refine forGo_range (P := fun k δ N => N = M ∧ ∃ (r : Int) (a : Option D), δ = [some d, some (.int e), some (.int r), a] ∧ 0 ≤ r ∧ r < 2 ^ ns.length) (fun δ N hP => ?_) (fun k hk δ N hP R hR => ⟨trivial, ?_⟩) ⟨rfl, 0, _, rfl, by omega, by
    have : (0 : Int) < 2 ^ ns.length := Int.pow_pos (by decide)
    exact this⟩
  · obtain ⟨rfl, r, a, rfl, r0, r1⟩ := hP
    simp only [wipeD, items_tup, items_lst, items_rng, tupleD, seqA_tup, seqA_lst, tSq, tIf', tTs, tO, tV, tK, tTr, truD, tNo, tAn, tOr', tAnV, tOrV', tNoV, tIfE, tN0, tCo, tTu, tLs, tCl, tFn, tMh, tRt, tRt0, tNx, tEx, tSe, tAs, gN, gS, gT, gsc, gs0, tU, i2, i2c, rNegD, intC, absD, minD, isD, eqi, eqs, eqb, nei, nes, neb, DL.rIsD, DL.rIsnD, rAddD, rMulD, tMe, tMe0, tBk, tCt, outD, EndsD.xk, startD, optP_some, List.map_cons, List.map_nil, List.length_cons, List.length_nil, List.cons_append, List.nil_append, List.append_nil, List.set_cons_zero, List.set_cons_succ, List.set_nil, List.getElem?_cons_zero, List.getElem?_cons_succ, List.replicate_succ, List.replicate_zero, Nat.zero_add, Nat.reduceAdd, Nat.reduceSub, decide_eq_true_eq, Bool.not_eq_true', decide_eq_false_iff_not]
    exact ⟨trivial, out_ret (h r r0 r1)⟩
  · obtain ⟨rfl, r, a, rfl, r0, r1⟩ := hP
    have e1 : atI (iL ns) k = some (.int (gi ns k)) := atI_iL (by omega) (by omega)
    simp only [wipeD, items_tup, items_lst, items_rng, tupleD, seqA_tup, seqA_lst, tSq, tIf', tTs, tO, tV, tK, tTr, truD, tNo, tAn, tOr', tAnV, tOrV', tNoV, tIfE, tN0, tCo, tTu, tLs, tCl, tFn, tMh, tRt, tRt0, tNx, tEx, tSe, tAs, gN, gS, gT, gsc, gs0, tU, i2, i2c, rNegD, intC, absD, minD, isD, eqi, eqs, eqb, nei, nes, neb, DL.rIsD, DL.rIsnD, rAddD, rMulD, tMe, tMe0, tBk, tCt, outD, EndsD.xk, startD, optP_some, List.map_cons, List.map_nil, List.length_cons, List.length_nil, List.cons_append, List.nil_append, List.append_nil, List.set_cons_zero, List.set_cons_succ, List.set_nil, List.getElem?_cons_zero, List.getElem?_cons_succ, List.replicate_succ, List.replicate_zero, Nat.zero_add, Nat.reduceAdd, Nat.reduceSub, decide_eq_true_eq, Bool.not_eq_true', decide_eq_false_iff_not, ix_eq hd e1, rAndD, rOrD, rShlD, i2c]
    split
    · have b1 : (1 : Int) * 2 ^ k < 2 ^ ns.length := by
        rw [Int.one_mul]
        exact Int.pow_lt_pow_of_lt (by decide) hk
      have b0 : (0 : Int) ≤ 1 * 2 ^ k := by
        rw [Int.one_mul]
        exact Int.le_of_lt (Int.pow_pos (by decide))
      have o := or_lt r0 r1 b0 b1
      refine ⟨⟨by omega, by omega, by decide⟩, hR _ _ ⟨rfl, _, _, rfl, ?_, ?_⟩⟩
      · rw [Int.toNat_natCast]
        exact o.1
      · rw [Int.toNat_natCast]
        exact o.2
    · exact hR _ _ ⟨rfl, r, _, rfl, r0, r1⟩
end K63
namespace K63
open PySem PySem.Spec PyProof.Rows L2 DL
variable [B : Obs] {K : PySem.W.Frag} {mg : Str → Option Value} {P : Program} {ds : List D} {M : Md} {Q : VD} {X : XD}
theorem gi_set {r : List Int} {k : Nat} {v i : Int} (hk : k < r.length) (h0 : 0 ≤ i) : gi (r.set k v) i = if k = i.toNat then v else gi r i := by
  unfold gi
  rw [List.getD_eq_getElem?_getD, List.getD_eq_getElem?_getD, List.getElem?_set]
  by_cases e : k = i.toNat
  · rw [if_pos e, if_pos e, if_pos (by omega)]
    rfl
  · rw [if_neg e, if_neg e]
theorem WfR.set {n : Int} {r : List Int} (w : WfR n r) {k : Nat} {v : Int} (hk : k < r.length) (h0 : 0 ≤ v) (h1 : v < n) : WfR n (r.set k v) := ⟨by rw [List.length_set]; exact w.len, fun i i0 i1 => by
  rw [gi_set hk i0]
  split
  · exact ⟨h0, h1⟩
  · exact w.rg i i0 i1⟩
theorem rgD_eq {n : Int} : rgD n = iL (rgI n) := by
  unfold rgD iL rgI
  rw [List.map_map]
  rfl
theorem wf_rgI {n : Int} (h : 0 ≤ n) : WfR n (rgI n) := ⟨by rw [rgI_len]; omega, fun i i0 i1 => by
  have e : gi (rgI n) i = i := by
    unfold gi rgI
    rw [List.getD_eq_getElem?_getD, List.getElem?_map, List.getElem?_range (by omega)]
    show ((i.toNat : Nat) : Int) = i
    omega
  rw [e]
  exact ⟨i0, i1⟩⟩
theorem p__law_shuffle (h : sp__law_shuffle K ds M Q X) : t__law_shuffle K (outD Q X) (startD N__law_shuffle ds) M := by
  obtain ⟨st, cs, n, rfl, s, n0, n1, h⟩ := h
  obtain ⟨ns0, i0, c0, hst, hcs, _⟩ := s.ex
  simp only [N__law_shuffle, startD, List.map_cons, List.map_nil, List.length_cons, List.length_nil, Nat.zero_add, Nat.reduceAdd, Nat.reduceSub, List.replicate_succ, List.replicate_zero, List.cons_append, List.nil_append]
  unfold t__law_shuffle
  refine tSq_step fun T hT => ?_
  simp only [tLsRg, wipeD, items_tup, items_lst, items_rng, tupleD, seqA_tup, seqA_lst, tSq, tIf', tTs, tO, tV, tK, tTr, truD, tNo, tAn, tOr', tAnV, tOrV', tNoV, tIfE, tN0, tCo, tTu, tLs, tCl, tFn, tMh, tRt, tRt0, tNx, tEx, tSe, tAs, gN, gS, gT, gsc, gs0, tU, i2, i2c, rNegD, intC, absD, minD, isD, eqi, eqs, eqb, nei, nes, neb, DL.rIsD, DL.rIsnD, rAddD, rMulD, tMe, tMe0, tBk, tCt, outD, EndsD.xk, startD, optP_some, List.map_cons, List.map_nil, List.length_cons, List.length_nil, List.cons_append, List.nil_append, List.append_nil, List.set_cons_zero, List.set_cons_succ, List.set_nil, List.getElem?_cons_zero, List.getElem?_cons_succ, List.replicate_succ, List.replicate_zero, Nat.zero_add, Nat.reduceAdd, Nat.reduceSub, decide_eq_true_eq, Bool.not_eq_true', decide_eq_false_iff_not, if_true]
  refine ⟨by omega, by omega, fun p hp => ?_⟩
  have ps : p ≠ st := fun e => by subst e; rw [hp] at hst; cases hst
  have pc : p ≠ cs := fun e => by subst e; rw [hp] at hcs; cases hcs
  -- what is written at p does not matter
  have put_ok : ∀ {N : Md} {w : MC}, Ext st cs M N → Free1 p M N → StOk N st cs → Ext st cs M (put N p w) ∧ Free1 p M (put N p w) ∧ StOk (put N p w) st cs := fun {N w} e f s => ⟨⟨fun a c ha n1 n2 => by
      rw [put_ne (fun z => by subst z; rw [hp] at ha; cases ha)]
      exact e.at_ a c ha n1 n2⟩, ⟨fun a ha n1 => by rw [put_ne n1]; exact f.at_ a ha n1⟩, by
      obtain ⟨ns, i, c, e1, e2, e3⟩ := s.ex
      exact ⟨ns, i, c, by rw [put_ne (Ne.symm ps)]; exact e1, by rw [put_ne (Ne.symm pc)]; exact e2, e3⟩⟩
  subst hT
  refine tSq_step fun T hT => ?_
  simp only [tFo, tIR1, wipeD, items_tup, items_lst, items_rng, tupleD, seqA_tup, seqA_lst, tSq, tIf', tTs, tO, tV, tK, tTr, truD, tNo, tAn, tOr', tAnV, tOrV', tNoV, tIfE, tN0, tCo, tTu, tLs, tCl, tFn, tMh, tRt, tRt0, tNx, tEx, tSe, tAs, gN, gS, gT, gsc, gs0, tU, i2, i2c, rNegD, intC, absD, minD, isD, eqi, eqs, eqb, nei, nes, neb, DL.rIsD, DL.rIsnD, rAddD, rMulD, tMe, tMe0, tBk, tCt, outD, EndsD.xk, startD, optP_some, List.map_cons, List.map_nil, List.length_cons, List.length_nil, List.cons_append, List.nil_append, List.append_nil, List.set_cons_zero, List.set_cons_succ, List.set_nil, List.getElem?_cons_zero, List.getElem?_cons_succ, List.replicate_succ, List.replicate_zero, Nat.zero_add, Nat.reduceAdd, Nat.reduceSub, decide_eq_true_eq, Bool.not_eq_true', decide_eq_false_iff_not]
  refine ⟨⟨by omega, by omega⟩, ?_⟩
  obtain ⟨q1, q2, q3⟩ := put_ok (w := .lst (rgD n)) Ext.refl ⟨fun _ h _ => h⟩ s
  refine forGo_range (P := fun k δ N => (∃ a b c, δ = [some (.ref st), some (.int n), some (.ref p), a, b, c]) ∧ Ext st cs M N ∧ Free1 p M N ∧ StOk N st cs ∧ ∃ ns, N p = some (.lst (iL ns)) ∧ WfR n ns) (fun δ N hP => ?_) (fun k hk δ N hP R hR => ⟨trivial, ?_⟩) ⟨⟨_, _, _, rfl⟩, q1, q2, q3, rgI n, by rw [put_same, rgD_eq], wf_rgI (by omega)⟩
  · obtain ⟨⟨a, b, c, rfl⟩, e1, f1, s1, ns, hN, wf⟩ := hP
    subst hT
    simp only [wipeD, items_tup, items_lst, items_rng, tupleD, seqA_tup, seqA_lst, tSq, tIf', tTs, tO, tV, tK, tTr, truD, tNo, tAn, tOr', tAnV, tOrV', tNoV, tIfE, tN0, tCo, tTu, tLs, tCl, tFn, tMh, tRt, tRt0, tNx, tEx, tSe, tAs, gN, gS, gT, gsc, gs0, tU, i2, i2c, rNegD, intC, absD, minD, isD, eqi, eqs, eqb, nei, nes, neb, DL.rIsD, DL.rIsnD, rAddD, rMulD, tMe, tMe0, tBk, tCt, outD, EndsD.xk, startD, optP_some, List.map_cons, List.map_nil, List.length_cons, List.length_nil, List.cons_append, List.nil_append, List.append_nil, List.set_cons_zero, List.set_cons_succ, List.set_nil, List.getElem?_cons_zero, List.getElem?_cons_succ, List.replicate_succ, List.replicate_zero, Nat.zero_add, Nat.reduceAdd, Nat.reduceSub, decide_eq_true_eq, Bool.not_eq_true', decide_eq_false_iff_not]
    exact ⟨trivial, out_ret (h p N ns hp e1 f1 s1 hN wf)⟩
  · obtain ⟨⟨a, b, c, rfl⟩, e1, f1, s1, ns, hN, wf⟩ := hP
    have wl := wf.len
    simp only [wipeD, items_tup, items_lst, items_rng, tupleD, seqA_tup, seqA_lst, tSq, tIf', tTs, tO, tV, tK, tTr, truD, tNo, tAn, tOr', tAnV, tOrV', tNoV, tIfE, tN0, tCo, tTu, tLs, tCl, tFn, tMh, tRt, tRt0, tNx, tEx, tSe, tAs, gN, gS, gT, gsc, gs0, tU, i2, i2c, rNegD, intC, absD, minD, isD, eqi, eqs, eqb, nei, nes, neb, DL.rIsD, DL.rIsnD, rAddD, rMulD, tMe, tMe0, tBk, tCt, outD, EndsD.xk, startD, optP_some, List.map_cons, List.map_nil, List.length_cons, List.length_nil, List.cons_append, List.nil_append, List.append_nil, List.set_cons_zero, List.set_cons_succ, List.set_nil, List.getElem?_cons_zero, List.getElem?_cons_succ, List.replicate_succ, List.replicate_zero, Nat.zero_add, Nat.reduceAdd, Nat.reduceSub, decide_eq_true_eq, Bool.not_eq_true', decide_eq_false_iff_not]
    refine ⟨st, cs, n - k, rfl, s1, by omega, by omega, fun r N2 r0 r1 e2 z2 s2 => ?_⟩
    have hN2 : N2 p = some (.lst (iL ns)) := e2.at_ p _ hN ps pc
    have bk := wf.rg k (by omega) (by omega)
    have bo := wf.rg (k + r) (by omega) (by omega)
    have e3 : Ext st cs M N2 := e1.trans e2
    have f3 : Free1 p M N2 := ⟨fun a ha na => z2 a (f1.at_ a ha na)⟩
    simp only [wipeD, items_tup, items_lst, items_rng, tupleD, seqA_tup, seqA_lst, tSq, tIf', tTs, tO, tV, tK, tTr, truD, tNo, tAn, tOr', tAnV, tOrV', tNoV, tIfE, tN0, tCo, tTu, tLs, tCl, tFn, tMh, tRt, tRt0, tNx, tEx, tSe, tAs, gN, gS, gT, gsc, gs0, tU, i2, i2c, rNegD, intC, absD, minD, isD, eqi, eqs, eqb, nei, nes, neb, DL.rIsD, DL.rIsnD, rAddD, rMulD, tMe, tMe0, tBk, tCt, outD, EndsD.xk, startD, optP_some, List.map_cons, List.map_nil, List.length_cons, List.length_nil, List.cons_append, List.nil_append, List.append_nil, List.set_cons_zero, List.set_cons_succ, List.set_nil, List.getElem?_cons_zero, List.getElem?_cons_succ, List.replicate_succ, List.replicate_zero, Nat.zero_add, Nat.reduceAdd, Nat.reduceSub, decide_eq_true_eq, Bool.not_eq_true', decide_eq_false_iff_not, ix_eq (seqA_ref hN2) (wf.at (x := k) (by omega) (by omega)), ix_eq (seqA_ref hN2) (wf.at (x := k + r) (by omega) (by omega)), setD_eq hN2 (j := k) (by omega) (by rw [iL_len]; omega), iL_set]
    have wf2 := wf.set (k := (k : Int).toNat) (by omega) bo.1 bo.2
    obtain ⟨g1, g2, g3⟩ := put_ok (w := .lst (iL (ns.set (k : Int).toNat (gi ns (k + r))))) e3 f3 s2
    rw [setD_eq put_same (j := k + r) (by omega) (by rw [iL_len, List.length_set]; omega), iL_set]
    obtain ⟨k1, k2, k3⟩ := put_ok (w := .lst (iL ((ns.set (k : Int).toNat (gi ns (k + r))).set (k + r : Int).toNat (gi ns k)))) g1 g2 g3
    exact hR _ _ ⟨⟨_, _, _, rfl⟩, k1, k2, k3, _, put_same, wf2.set (by rw [List.length_set]; omega) bk.1 bk.2⟩
end K63
namespace K63
open PySem PySem.Spec PyProof.Rows L2 DL
variable [B : Obs] {K : PySem.W.Frag} {mg : Str → Option Value} {P : Program} {ds : List D} {M : Md} {Q : VD} {X : XD}
theorem ne_nil {a : List Int} (h : Q (.bl (!decide (a = []))) M) : DL.rNeD (.lst (iL a)) (.lst []) M Q := by
  have sh : ∀ ns : List Int, SeqAt.shaped (.list (ns.map PyData.int)) = true := fun ns => by
    unfold SeqAt.shaped
    rw [Bool.and_eq_true]
    refine ⟨can_ints ns, decide_eq_true ?_⟩
    show PyData.depthAll (ns.map PyData.int) + 1 ≤ 64
    rw [dep_ints]
    omega
  refine ⟨.list (a.map .int), .list [], .lst (pys_ints a), .lst .nil, sh a, sh [], ?_⟩
  show Q (.bl (!PyData.eqvAll (a.map PyData.int) (([] : List Int).map PyData.int))) M
  rw [eqv_ints]
  exact h
def badRows (L : List (List Int)) (n : Int) : Bool := L.any fun x => !rowB x n
theorem bad_row {ns : List Int} {n : Int} : rowB ns n = false ↔ ((ns.length : Int) ≠ n ∨ ns.filter (fun i => decide (i < 0) || decide (n ≤ i)) ≠ []) := by
  unfold rowB
  constructor
  · intro h
    by_cases e : (ns.length : Int) = n
    · refine .inr fun q => ?_
      rw [decide_eq_true e, Bool.true_and] at h
      have : (ns.all fun i => decide (0 ≤ i) && decide (i < n)) = true := List.all_eq_true.mpr fun i hi => by
        have := List.filter_eq_nil_iff.mp q i hi
        simp at this
        simp
        omega
      rw [this] at h
      cases h
    · exact .inl e
  · rintro (h | h)
    · rw [decide_eq_false h, Bool.false_and]
    · cases q : (ns.all fun i => decide (0 ≤ i) && decide (i < n)) with
      | false => rw [Bool.and_false]
      | true =>
        exfalso
        apply h
        rw [List.filter_eq_nil_iff]
        intro i hi
        have := List.all_eq_true.mp q i hi
        simp at this
        simp
        omega
def shapeIn : TSd := tSq (tSe (tLcF (.one 7) (tIS (tV 5)) (tOr' (tTs (tO rLtD (tV 7) (tK (.int 0)))) (tTs (tO rGeD (tV 7) (tV 1)))) (tV 7) [7]) 6) (tIf' (tOr' (tTs (tO rNeD (tCl lenD (tCo (tV 5) tN0)) (tV 1))) (tTs (tO rNeD (tV 6) (tLs tN0)))) (tSe (tK (.bl true)) 4) tNx)
theorem shape_rows {d dk : D} {n k : Int} {w0 : Bool} {ys : List D} {L : List (List Int)} {a b c : Option D} {E : EndsD} (hy : seqA M dk = some ys) (hp : Paired (fun x ns => NumsAt M x ns) ys L) (hL : ∀ x ∈ L, x.length ≤ 1000)
    (h : ∀ a b c, E.nx [some d, some (.int n), some (.int k), some dk, some (.bl (w0 || badRows L n)), a, b, c] M) : tFo (tIS (tV 3)) (gN 5) shapeIn E [some d, some (.int n), some (.int k), some dk, some (.bl w0), a, b, c] M := by
  simp only [tFo, tIS, wipeD, items_tup, items_lst, items_rng, tupleD, seqA_tup, seqA_lst, tSq, tIf', tTs, tO, tV, tK, tTr, truD, tNo, tAn, tOr', tAnV, tOrV', tNoV, tIfE, tN0, tCo, tTu, tLs, tCl, tFn, tMh, tRt, tRt0, tNx, tEx, tSe, tAs, gN, gS, gT, gsc, gs0, tU, i2, i2c, rNegD, intC, absD, minD, isD, eqi, eqs, eqb, nei, nes, neb, DL.rIsD, DL.rIsnD, rAddD, rMulD, tMe, tMe0, tBk, tCt, outD, EndsD.xk, startD, optP_some, List.map_cons, List.map_nil, List.length_cons, List.length_nil, List.cons_append, List.nil_append, List.append_nil, List.set_cons_zero, List.set_cons_succ, List.set_nil, List.getElem?_cons_zero, List.getElem?_cons_succ, List.replicate_succ, List.replicate_zero, Nat.zero_add, Nat.reduceAdd, Nat.reduceSub, decide_eq_true_eq, Bool.not_eq_true', decide_eq_false_iff_not, items_eq hy]
  refine forGo_at (P := fun j δ N => N = M ∧ ∃ a b c, δ = [some d, some (.int n), some (.int k), some dk, some (.bl (w0 || badRows (L.take j) n)), a, b, c]) (fun δ N hP => ?_) (fun j hj δ N hP R hR => ?_) ⟨rfl, a, b, c, by simp [badRows]⟩
  · obtain ⟨rfl, a, b, c, rfl⟩ := hP
    refine ⟨hy, ?_⟩
    rw [List.take_of_length_le (by rw [hp.length]; exact Nat.le_refl _)]
    exact h a b c
  · obtain ⟨rfl, a, b, c, rfl⟩ := hP
    refine ⟨hy, ?_⟩
    have hj2 : j < L.length := by rw [← hp.length]; exact hj
    have hx := paired_get hp hj hj2
    have tk : badRows (L.take (j + 1)) n = (badRows (L.take j) n || !rowB L[j] n) := by
      unfold badRows
      rw [List.take_succ_eq_append_getElem hj2, List.any_append]
      simp
    unfold shapeIn
    refine tSq_step fun T hT => ?_
    simp only [wipeD, items_tup, items_lst, items_rng, tupleD, seqA_tup, seqA_lst, tSq, tIf', tTs, tO, tV, tK, tTr, truD, tNo, tAn, tOr', tAnV, tOrV', tNoV, tIfE, tN0, tCo, tTu, tLs, tCl, tFn, tMh, tRt, tRt0, tNx, tEx, tSe, tAs, gN, gS, gT, gsc, gs0, tU, i2, i2c, rNegD, intC, absD, minD, isD, eqi, eqs, eqb, nei, nes, neb, DL.rIsD, DL.rIsnD, rAddD, rMulD, tMe, tMe0, tBk, tCt, outD, EndsD.xk, startD, optP_some, List.map_cons, List.map_nil, List.length_cons, List.length_nil, List.cons_append, List.nil_append, List.append_nil, List.set_cons_zero, List.set_cons_succ, List.set_nil, List.getElem?_cons_zero, List.getElem?_cons_succ, List.replicate_succ, List.replicate_zero, Nat.zero_add, Nat.reduceAdd, Nat.reduceSub, decide_eq_true_eq, Bool.not_eq_true', decide_eq_false_iff_not]
    refine tLcF_filt (d0 := ys[j]) (ns := L[j]) (b := fun i => decide (i < 0) || decide (n ≤ i)) (fun Q' hQ => by simp only [wipeD, items_tup, items_lst, items_rng, tupleD, seqA_tup, seqA_lst, tSq, tIf', tTs, tO, tV, tK, tTr, truD, tNo, tAn, tOr', tAnV, tOrV', tNoV, tIfE, tN0, tCo, tTu, tLs, tCl, tFn, tMh, tRt, tRt0, tNx, tEx, tSe, tAs, gN, gS, gT, gsc, gs0, tU, i2, i2c, rNegD, intC, absD, minD, isD, eqi, eqs, eqb, nei, nes, neb, DL.rIsD, DL.rIsnD, rAddD, rMulD, tMe, tMe0, tBk, tCt, outD, EndsD.xk, startD, optP_some, List.map_cons, List.map_nil, List.length_cons, List.length_nil, List.cons_append, List.nil_append, List.append_nil, List.set_cons_zero, List.set_cons_succ, List.set_nil, List.getElem?_cons_zero, List.getElem?_cons_succ, List.replicate_succ, List.replicate_zero, Nat.zero_add, Nat.reduceAdd, Nat.reduceSub, decide_eq_true_eq, Bool.not_eq_true', decide_eq_false_iff_not]; exact hQ) hx (by have := hL L[j] (List.getElem_mem _); rw [sizeLine_eq]; omega) (fun i hi p c' hp' Q' hQ => ?_) (by simp [wipeD]) ?_
    · simp only [wipeD, items_tup, items_lst, items_rng, tupleD, seqA_tup, seqA_lst, tSq, tIf', tTs, tO, tV, tK, tTr, truD, tNo, tAn, tOr', tAnV, tOrV', tNoV, tIfE, tN0, tCo, tTu, tLs, tCl, tFn, tMh, tRt, tRt0, tNx, tEx, tSe, tAs, gN, gS, gT, gsc, gs0, tU, i2, i2c, rNegD, intC, absD, minD, isD, eqi, eqs, eqb, nei, nes, neb, DL.rIsD, DL.rIsnD, rAddD, rMulD, tMe, tMe0, tBk, tCt, outD, EndsD.xk, startD, optP_some, List.map_cons, List.map_nil, List.length_cons, List.length_nil, List.cons_append, List.nil_append, List.append_nil, List.set_cons_zero, List.set_cons_succ, List.set_nil, List.getElem?_cons_zero, List.getElem?_cons_succ, List.replicate_succ, List.replicate_zero, Nat.zero_add, Nat.reduceAdd, Nat.reduceSub, decide_eq_true_eq, Bool.not_eq_true', decide_eq_false_iff_not]
      split
      · rename_i q
        simpa [q] using hQ
      · rename_i q
        simpa [q] using hQ
    · subst hT
      simp only [wipeD, items_tup, items_lst, items_rng, tupleD, seqA_tup, seqA_lst, tSq, tIf', tTs, tO, tV, tK, tTr, truD, tNo, tAn, tOr', tAnV, tOrV', tNoV, tIfE, tN0, tCo, tTu, tLs, tCl, tFn, tMh, tRt, tRt0, tNx, tEx, tSe, tAs, gN, gS, gT, gsc, gs0, tU, i2, i2c, rNegD, intC, absD, minD, isD, eqi, eqs, eqb, nei, nes, neb, DL.rIsD, DL.rIsnD, rAddD, rMulD, tMe, tMe0, tBk, tCt, outD, EndsD.xk, startD, optP_some, List.map_cons, List.map_nil, List.length_cons, List.length_nil, List.cons_append, List.nil_append, List.append_nil, List.set_cons_zero, List.set_cons_succ, List.set_nil, List.getElem?_cons_zero, List.getElem?_cons_succ, List.replicate_succ, List.replicate_zero, Nat.zero_add, Nat.reduceAdd, Nat.reduceSub, decide_eq_true_eq, Bool.not_eq_true', decide_eq_false_iff_not, len_eq hx, iL_len]
      split
      · rename_i q
        have z : rowB L[j] n = false := bad_row.mpr (.inl q)
        refine hR _ _ ⟨rfl, some ys[j], some (.lst (iL (L[j].filter fun i => decide (i < 0) || decide (n ≤ i)))), c, ?_⟩
        rw [tk, z]
        simp
      · rename_i q
        refine ⟨by rw [sizeLine_eq]; decide, ne_nil ?_⟩
        have q := Decidable.not_not.mp q
        simp only [wipeD, items_tup, items_lst, items_rng, tupleD, seqA_tup, seqA_lst, tSq, tIf', tTs, tO, tV, tK, tTr, truD, tNo, tAn, tOr', tAnV, tOrV', tNoV, tIfE, tN0, tCo, tTu, tLs, tCl, tFn, tMh, tRt, tRt0, tNx, tEx, tSe, tAs, gN, gS, gT, gsc, gs0, tU, i2, i2c, rNegD, intC, absD, minD, isD, eqi, eqs, eqb, nei, nes, neb, DL.rIsD, DL.rIsnD, rAddD, rMulD, tMe, tMe0, tBk, tCt, outD, EndsD.xk, startD, optP_some, List.map_cons, List.map_nil, List.length_cons, List.length_nil, List.cons_append, List.nil_append, List.append_nil, List.set_cons_zero, List.set_cons_succ, List.set_nil, List.getElem?_cons_zero, List.getElem?_cons_succ, List.replicate_succ, List.replicate_zero, Nat.zero_add, Nat.reduceAdd, Nat.reduceSub, decide_eq_true_eq, Bool.not_eq_true', decide_eq_false_iff_not]
        split
        · rename_i q2
          have z : rowB L[j] n = false := bad_row.mpr (.inr q2)
          refine hR _ _ ⟨rfl, some ys[j], some (.lst (iL (L[j].filter fun i => decide (i < 0) || decide (n ≤ i)))), c, ?_⟩
          rw [tk, z]
          simp
        · rename_i q2
          have z : rowB L[j] n = true := by
            cases e : rowB L[j] n with
            | true => rfl
            | false => exact absurd (bad_row.mp e) (fun t => t.elim (fun t => t q) q2)
          refine hR _ _ ⟨rfl, some ys[j], some (.lst (iL (L[j].filter fun i => decide (i < 0) || decide (n ≤ i)))), c, ?_⟩
          rw [tk, z]
          simp
end K63
namespace K63
open PySem PySem.Spec PyProof.Rows L2 DL
variable [B : Obs] {K : PySem.W.Frag} {mg : Str → Option Value} {P : Program} {ds : List D} {M : Md} {Q : VD} {X : XD}
def rowsK (m : List (List Int)) (r a b c : List Int) : Nat → List (List Int)
  | 0 => m
  | 1 => [r]
  | 2 => [a]
  | 3 => [b]
  | _ => [c]
def nameK : Nat → Str
  | 0 => "meet"
  | 1 => "rest"
  | 2 => "a"
  | 3 => "b"
  | _ => "c"
def wrongK (m : List (List Int)) (r a b c : List Int) (k : Nat) : Bool := (decide (k = 0) && !decide ((m.length : Int) = r.length)) || badRows (rowsK m r a b c k) r.length
def shF (m : List (List Int)) (r a b c : List Int) (k : Nat) : Option D := if wrongK m r a b c k = true then some (.tup [.str "table", .str (nameK k)]) else none
theorem badT_eq {m : List (List Int)} {r a b c : List Int} : (match badT m r a b c with
    | some w => D.tup [.str "table", .str w]
    | none => .tup [.str "made", .int 0]) = orN (ff 5 (shF m r a b c)) (.tup [.str "made", .int 0]) := by
  have e : ff 5 (shF m r a b c) = (shF m r a b c 0).or ((shF m r a b c 1).or ((shF m r a b c 2).or ((shF m r a b c 3).or (shF m r a b c 4)))) := by
    show List.findSome? (shF m r a b c) [0, 1, 2, 3, 4] = _
    simp only [List.findSome?_cons, List.findSome?_nil]
    cases shF m r a b c 0 <;> cases shF m r a b c 1 <;> cases shF m r a b c 2 <;> cases shF m r a b c 3 <;> cases shF m r a b c 4 <;> rfl
  have w0 : wrongK m r a b c 0 = !(decide ((m.length : Int) = r.length) && m.all fun ns => rowB ns r.length) := by
    unfold wrongK badRows rowsK
    rw [Bool.not_and, List.not_all_eq_any_not]
    simp
  have w1 : ∀ x : List Int, badRows [x] r.length = !rowB x r.length := fun x => by simp [badRows]
  rw [e]
  unfold badT shF
  rw [w0, show wrongK m r a b c 1 = !rowB r r.length from by simp [wrongK, rowsK, w1], show wrongK m r a b c 2 = !rowB a r.length from by simp [wrongK, rowsK, w1], show wrongK m r a b c 3 = !rowB b r.length from by simp [wrongK, rowsK, w1], show wrongK m r a b c 4 = !rowB c r.length from by simp [wrongK, rowsK, w1]]
  cases (decide ((m.length : Int) = r.length) && m.all fun ns => rowB ns r.length) <;> cases rowB r r.length <;> cases rowB a r.length <;> cases rowB b r.length <;> cases rowB c r.length <;> rfl
end K63
namespace K63
open PySem PySem.Spec PyProof.Rows L2 DL
variable [B : Obs] {K : PySem.W.Frag} {mg : Str → Option Value} {P : Program} {ds : List D} {M : Md} {Q : VD} {X : XD}
theorem nm_at {k : Nat} (hk : k < 5) : atI [D.str "meet", .str "rest", .str "a", .str "b", .str "c"] (k : Int) = some (.str (nameK k)) := by
  match k, hk with
  | 0, _ => exact atI_0
  | 1, _ => exact atI_1
  | 2, _ => exact atI_2
  | 3, _ => exact atI_3
  | 4, _ => exact atI_4
theorem p__law_shape (h : sp__law_shape K ds M Q X) : t__law_shape K (outD Q X) (startD N__law_shape ds) M := by
  obtain ⟨d, m, r, a, b, c, rfl, ⟨dm, dr, da, db, dc, xs, h0, h1, hp, hr, ha, hb, hc⟩, lr, lm, lx, la, lb, lc, h⟩ := h
  simp only [N__law_shape, startD, List.map_cons, List.map_nil, List.length_cons, List.length_nil, Nat.zero_add, Nat.reduceAdd, Nat.reduceSub, List.replicate_succ, List.replicate_zero, List.cons_append, List.nil_append]
  unfold t__law_shape
  unfold dueV at h
  refine tSq_step fun T hT => ?_
  simp only [wipeD, items_tup, items_lst, items_rng, tupleD, seqA_tup, seqA_lst, tSq, tIf', tTs, tO, tV, tK, tTr, truD, tNo, tAn, tOr', tAnV, tOrV', tNoV, tIfE, tN0, tCo, tTu, tLs, tCl, tFn, tMh, tRt, tRt0, tNx, tEx, tSe, tAs, gN, gS, gT, gsc, gs0, tU, i2, i2c, rNegD, intC, absD, minD, isD, eqi, eqs, eqb, nei, nes, neb, DL.rIsD, DL.rIsnD, rAddD, rMulD, tMe, tMe0, tBk, tCt, outD, EndsD.xk, startD, optP_some, List.map_cons, List.map_nil, List.length_cons, List.length_nil, List.cons_append, List.nil_append, List.append_nil, List.set_cons_zero, List.set_cons_succ, List.set_nil, List.getElem?_cons_zero, List.getElem?_cons_succ, List.replicate_succ, List.replicate_zero, Nat.zero_add, Nat.reduceAdd, Nat.reduceSub, decide_eq_true_eq, Bool.not_eq_true', decide_eq_false_iff_not, ix_eq h0 atI_1, len_eq hr, iL_len]
  subst hT
  refine tSq_step fun T hT => ?_
  simp only [wipeD, items_tup, items_lst, items_rng, tupleD, seqA_tup, seqA_lst, tSq, tIf', tTs, tO, tV, tK, tTr, truD, tNo, tAn, tOr', tAnV, tOrV', tNoV, tIfE, tN0, tCo, tTu, tLs, tCl, tFn, tMh, tRt, tRt0, tNx, tEx, tSe, tAs, gN, gS, gT, gsc, gs0, tU, i2, i2c, rNegD, intC, absD, minD, isD, eqi, eqs, eqb, nei, nes, neb, DL.rIsD, DL.rIsnD, rAddD, rMulD, tMe, tMe0, tBk, tCt, outD, EndsD.xk, startD, optP_some, List.map_cons, List.map_nil, List.length_cons, List.length_nil, List.cons_append, List.nil_append, List.append_nil, List.set_cons_zero, List.set_cons_succ, List.set_nil, List.getElem?_cons_zero, List.getElem?_cons_succ, List.replicate_succ, List.replicate_zero, Nat.zero_add, Nat.reduceAdd, Nat.reduceSub, decide_eq_true_eq, Bool.not_eq_true', decide_eq_false_iff_not, if_true]
  split
  · rename_i q
    rw [if_pos (.inl q)] at h
    exact ⟨by rw [sizeLine_eq]; decide, out_ret h⟩
  rename_i q
  split
  · rename_i q2
    rw [if_pos (.inr q2)] at h
    exact ⟨by rw [sizeLine_eq]; decide, out_ret h⟩
  rename_i q2
  rw [if_neg (fun z => z.elim q q2)] at h
  have h : Q (orN (ff 5 (shF m r a b c)) (.tup [.str "made", .int 0])) M := by
    rw [← badT_eq]
    exact h
  subst hT
  refine tSq_step fun T hT => ?_
  simp only [tFo, tIR1, wipeD, items_tup, items_lst, items_rng, tupleD, seqA_tup, seqA_lst, tSq, tIf', tTs, tO, tV, tK, tTr, truD, tNo, tAn, tOr', tAnV, tOrV', tNoV, tIfE, tN0, tCo, tTu, tLs, tCl, tFn, tMh, tRt, tRt0, tNx, tEx, tSe, tAs, gN, gS, gT, gsc, gs0, tU, i2, i2c, rNegD, intC, absD, minD, isD, eqi, eqs, eqb, nei, nes, neb, DL.rIsD, DL.rIsnD, rAddD, rMulD, tMe, tMe0, tBk, tCt, outD, EndsD.xk, startD, optP_some, List.map_cons, List.map_nil, List.length_cons, List.length_nil, List.cons_append, List.nil_append, List.append_nil, List.set_cons_zero, List.set_cons_succ, List.set_nil, List.getElem?_cons_zero, List.getElem?_cons_succ, List.replicate_succ, List.replicate_zero, Nat.zero_add, Nat.reduceAdd, Nat.reduceSub, decide_eq_true_eq, Bool.not_eq_true', decide_eq_false_iff_not]
  refine ⟨⟨by decide, by decide⟩, ?_⟩
  refine forGo_findR (n := 5) (inv := fun δ => ∃ x1 x2 x3 x4 x5 x6, δ = [some d, some (.int r.length), x1, x2, x3, x4, x5, x6]) (f := shF m r a b c) trivial (fun k hk δ hi R hN hR => ?_) (fun hN δ hi => ?_) (fun v hv => ?_) ⟨_, _, _, _, _, _, rfl⟩
  · obtain ⟨x1, x2, x3, x4, x5, x6, rfl⟩ := hi
    have row1 : ∀ (x : D) (ns : List Int), NumsAt M x ns → ns.length ≤ 1000 → Paired (fun x ns => NumsAt M x ns) [x] [ns] ∧ ∀ y ∈ [ns], y.length ≤ 1000 := fun x ns q l => ⟨.cons q .nil, fun y hy => by
      rw [List.mem_singleton.mp hy]
      exact l⟩
    have tail : ∀ (dR : D) (ys : List D) (w0 : Bool), seqA M dR = some ys → Paired (fun x ns => NumsAt M x ns) ys (rowsK m r a b c k) → (∀ y ∈ rowsK m r a b c k, y.length ≤ 1000) → (w0 || badRows (rowsK m r a b c k) r.length) = wrongK m r a b c k → ∀ (E : EndsD) (x4 x5 x6 : Option D), E.nx = R → E.rt = (outD Q X).rt →
        tSq (tFo (tIS (tV 3)) (gN 5) shapeIn) (tIf' (tTr (tV 4)) (tRt (tTu (tCo (tK (.str "table")) (tCo (tO rIxD (tLs (tCo (tK (.str "meet")) (tCo (tK (.str "rest")) (tCo (tK (.str "a")) (tCo (tK (.str "b")) (tCo (tK (.str "c")) tN0)))))) (tV 2)) tN0)))) tNx) E [some d, some (.int r.length), some (.int k), some dR, some (.bl w0), x4, x5, x6] M := by
      intro dR ys w0 g1 g2 g3 g4 E x4 x5 x6 en er
      refine tSq_step fun T2 hT2 => ?_
      refine shape_rows g1 g2 g3 fun y1 y2 y3 => ?_
      subst hT2
      simp only [wipeD, items_tup, items_lst, items_rng, tupleD, seqA_tup, seqA_lst, tSq, tIf', tTs, tO, tV, tK, tTr, truD, tNo, tAn, tOr', tAnV, tOrV', tNoV, tIfE, tN0, tCo, tTu, tLs, tCl, tFn, tMh, tRt, tRt0, tNx, tEx, tSe, tAs, gN, gS, gT, gsc, gs0, tU, i2, i2c, rNegD, intC, absD, minD, isD, eqi, eqs, eqb, nei, nes, neb, DL.rIsD, DL.rIsnD, rAddD, rMulD, tMe, tMe0, tBk, tCt, outD, EndsD.xk, startD, optP_some, List.map_cons, List.map_nil, List.length_cons, List.length_nil, List.cons_append, List.nil_append, List.append_nil, List.set_cons_zero, List.set_cons_succ, List.set_nil, List.getElem?_cons_zero, List.getElem?_cons_succ, List.replicate_succ, List.replicate_zero, Nat.zero_add, Nat.reduceAdd, Nat.reduceSub, decide_eq_true_eq, Bool.not_eq_true', decide_eq_false_iff_not]
      rw [g4]
      split
      · rename_i q
        refine ⟨by rw [sizeLine_eq]; decide, ?_⟩
        simp only [rIx_lst, nm_at hk, wipeD, items_tup, items_lst, items_rng, tupleD, seqA_tup, seqA_lst, tSq, tIf', tTs, tO, tV, tK, tTr, truD, tNo, tAn, tOr', tAnV, tOrV', tNoV, tIfE, tN0, tCo, tTu, tLs, tCl, tFn, tMh, tRt, tRt0, tNx, tEx, tSe, tAs, gN, gS, gT, gsc, gs0, tU, i2, i2c, rNegD, intC, absD, minD, isD, eqi, eqs, eqb, nei, nes, neb, DL.rIsD, DL.rIsnD, rAddD, rMulD, tMe, tMe0, tBk, tCt, outD, EndsD.xk, startD, optP_some, List.map_cons, List.map_nil, List.length_cons, List.length_nil, List.cons_append, List.nil_append, List.append_nil, List.set_cons_zero, List.set_cons_succ, List.set_nil, List.getElem?_cons_zero, List.getElem?_cons_succ, List.replicate_succ, List.replicate_zero, Nat.zero_add, Nat.reduceAdd, Nat.reduceSub, decide_eq_true_eq, Bool.not_eq_true', decide_eq_false_iff_not]
        refine ⟨by rw [sizeLine_eq]; decide, ?_⟩
        rw [er]
        exact hR _ (if_pos q)
      · rename_i q
        rw [en]
        exact hN (if_neg q) _ ⟨_, _, _, _, _, _, rfl⟩
    by_cases hk0 : k = 0
    · have ix : atI [dm, dr, da, db, dc] (k : Int) = some dm := by rw [hk0]; exact atI_0
      have kz : (k : Int) = 0 := by omega
      refine tSq_step fun T1 hT1 => ?_
      simp only [wipeD, items_tup, items_lst, items_rng, tupleD, seqA_tup, seqA_lst, tSq, tIf', tTs, tO, tV, tK, tTr, truD, tNo, tAn, tOr', tAnV, tOrV', tNoV, tIfE, tN0, tCo, tTu, tLs, tCl, tFn, tMh, tRt, tRt0, tNx, tEx, tSe, tAs, gN, gS, gT, gsc, gs0, tU, i2, i2c, rNegD, intC, absD, minD, isD, eqi, eqs, eqb, nei, nes, neb, DL.rIsD, DL.rIsnD, rAddD, rMulD, tMe, tMe0, tBk, tCt, outD, EndsD.xk, startD, optP_some, List.map_cons, List.map_nil, List.length_cons, List.length_nil, List.cons_append, List.nil_append, List.append_nil, List.set_cons_zero, List.set_cons_succ, List.set_nil, List.getElem?_cons_zero, List.getElem?_cons_succ, List.replicate_succ, List.replicate_zero, Nat.zero_add, Nat.reduceAdd, Nat.reduceSub, decide_eq_true_eq, Bool.not_eq_true', decide_eq_false_iff_not, ix_eq h0 ix]
      refine ⟨by rw [sizeLine_eq]; decide, ?_⟩
      subst hT1
      refine tSq_step fun T1 hT1 => ?_
      simp only [wipeD, items_tup, items_lst, items_rng, tupleD, seqA_tup, seqA_lst, tSq, tIf', tTs, tO, tV, tK, tTr, truD, tNo, tAn, tOr', tAnV, tOrV', tNoV, tIfE, tN0, tCo, tTu, tLs, tCl, tFn, tMh, tRt, tRt0, tNx, tEx, tSe, tAs, gN, gS, gT, gsc, gs0, tU, i2, i2c, rNegD, intC, absD, minD, isD, eqi, eqs, eqb, nei, nes, neb, DL.rIsD, DL.rIsnD, rAddD, rMulD, tMe, tMe0, tBk, tCt, outD, EndsD.xk, startD, optP_some, List.map_cons, List.map_nil, List.length_cons, List.length_nil, List.cons_append, List.nil_append, List.append_nil, List.set_cons_zero, List.set_cons_succ, List.set_nil, List.getElem?_cons_zero, List.getElem?_cons_succ, List.replicate_succ, List.replicate_zero, Nat.zero_add, Nat.reduceAdd, Nat.reduceSub, decide_eq_true_eq, Bool.not_eq_true', decide_eq_false_iff_not, ix_eq h0 atI_0]
      rw [if_pos kz]
      subst hT1
      refine tSq_step fun T1 hT1 => ?_
      simp only [wipeD, items_tup, items_lst, items_rng, tupleD, seqA_tup, seqA_lst, tSq, tIf', tTs, tO, tV, tK, tTr, truD, tNo, tAn, tOr', tAnV, tOrV', tNoV, tIfE, tN0, tCo, tTu, tLs, tCl, tFn, tMh, tRt, tRt0, tNx, tEx, tSe, tAs, gN, gS, gT, gsc, gs0, tU, i2, i2c, rNegD, intC, absD, minD, isD, eqi, eqs, eqb, nei, nes, neb, DL.rIsD, DL.rIsnD, rAddD, rMulD, tMe, tMe0, tBk, tCt, outD, EndsD.xk, startD, optP_some, List.map_cons, List.map_nil, List.length_cons, List.length_nil, List.cons_append, List.nil_append, List.append_nil, List.set_cons_zero, List.set_cons_succ, List.set_nil, List.getElem?_cons_zero, List.getElem?_cons_succ, List.replicate_succ, List.replicate_zero, Nat.zero_add, Nat.reduceAdd, Nat.reduceSub, decide_eq_true_eq, Bool.not_eq_true', decide_eq_false_iff_not, len_eq h1]
      rw [if_pos kz]
      subst hT1
      refine tail dm xs _ h1 (by rw [hk0]; exact hp) (by rw [hk0]; exact lx) ?_ _ _ _ _ rfl rfl
      unfold wrongK
      rw [hp.length, decide_eq_true hk0, Bool.true_and]
    · have kz : ¬ (k : Int) = 0 := by omega
      have ix : ∃ dk, atI [dm, dr, da, db, dc] (k : Int) = some dk ∧ Paired (fun x ns => NumsAt M x ns) [dk] (rowsK m r a b c k) ∧ ∀ y ∈ rowsK m r a b c k, y.length ≤ 1000 := by
        have : k = 1 ∨ k = 2 ∨ k = 3 ∨ k = 4 := by omega
        rcases this with e | e | e | e
        · rw [e]; exact ⟨dr, atI_1, row1 _ _ hr lr⟩
        · rw [e]; exact ⟨da, atI_2, row1 _ _ ha la⟩
        · rw [e]; exact ⟨db, atI_3, row1 _ _ hb lb⟩
        · rw [e]; exact ⟨dc, atI_4, row1 _ _ hc lc⟩
      obtain ⟨dk, i1, i2, i3⟩ := ix
      refine tSq_step fun T1 hT1 => ?_
      simp only [wipeD, items_tup, items_lst, items_rng, tupleD, seqA_tup, seqA_lst, tSq, tIf', tTs, tO, tV, tK, tTr, truD, tNo, tAn, tOr', tAnV, tOrV', tNoV, tIfE, tN0, tCo, tTu, tLs, tCl, tFn, tMh, tRt, tRt0, tNx, tEx, tSe, tAs, gN, gS, gT, gsc, gs0, tU, i2, i2c, rNegD, intC, absD, minD, isD, eqi, eqs, eqb, nei, nes, neb, DL.rIsD, DL.rIsnD, rAddD, rMulD, tMe, tMe0, tBk, tCt, outD, EndsD.xk, startD, optP_some, List.map_cons, List.map_nil, List.length_cons, List.length_nil, List.cons_append, List.nil_append, List.append_nil, List.set_cons_zero, List.set_cons_succ, List.set_nil, List.getElem?_cons_zero, List.getElem?_cons_succ, List.replicate_succ, List.replicate_zero, Nat.zero_add, Nat.reduceAdd, Nat.reduceSub, decide_eq_true_eq, Bool.not_eq_true', decide_eq_false_iff_not, ix_eq h0 i1]
      refine ⟨by rw [sizeLine_eq]; decide, ?_⟩
      subst hT1
      refine tSq_step fun T1 hT1 => ?_
      simp only [wipeD, items_tup, items_lst, items_rng, tupleD, seqA_tup, seqA_lst, tSq, tIf', tTs, tO, tV, tK, tTr, truD, tNo, tAn, tOr', tAnV, tOrV', tNoV, tIfE, tN0, tCo, tTu, tLs, tCl, tFn, tMh, tRt, tRt0, tNx, tEx, tSe, tAs, gN, gS, gT, gsc, gs0, tU, i2, i2c, rNegD, intC, absD, minD, isD, eqi, eqs, eqb, nei, nes, neb, DL.rIsD, DL.rIsnD, rAddD, rMulD, tMe, tMe0, tBk, tCt, outD, EndsD.xk, startD, optP_some, List.map_cons, List.map_nil, List.length_cons, List.length_nil, List.cons_append, List.nil_append, List.append_nil, List.set_cons_zero, List.set_cons_succ, List.set_nil, List.getElem?_cons_zero, List.getElem?_cons_succ, List.replicate_succ, List.replicate_zero, Nat.zero_add, Nat.reduceAdd, Nat.reduceSub, decide_eq_true_eq, Bool.not_eq_true', decide_eq_false_iff_not]
      rw [if_neg kz]
      subst hT1
      refine tSq_step fun T1 hT1 => ?_
      simp only [wipeD, items_tup, items_lst, items_rng, tupleD, seqA_tup, seqA_lst, tSq, tIf', tTs, tO, tV, tK, tTr, truD, tNo, tAn, tOr', tAnV, tOrV', tNoV, tIfE, tN0, tCo, tTu, tLs, tCl, tFn, tMh, tRt, tRt0, tNx, tEx, tSe, tAs, gN, gS, gT, gsc, gs0, tU, i2, i2c, rNegD, intC, absD, minD, isD, eqi, eqs, eqb, nei, nes, neb, DL.rIsD, DL.rIsnD, rAddD, rMulD, tMe, tMe0, tBk, tCt, outD, EndsD.xk, startD, optP_some, List.map_cons, List.map_nil, List.length_cons, List.length_nil, List.cons_append, List.nil_append, List.append_nil, List.set_cons_zero, List.set_cons_succ, List.set_nil, List.getElem?_cons_zero, List.getElem?_cons_succ, List.replicate_succ, List.replicate_zero, Nat.zero_add, Nat.reduceAdd, Nat.reduceSub, decide_eq_true_eq, Bool.not_eq_true', decide_eq_false_iff_not]
      rw [if_neg kz]
      subst hT1
      refine tail (.lst [dk]) [dk] _ rfl i2 i3 ?_ _ _ _ _ rfl rfl
      unfold wrongK
      rw [decide_eq_false hk0, Bool.false_and]
  · obtain ⟨x1, x2, x3, x4, x5, x6, rfl⟩ := hi
    rw [hN] at h
    subst hT
    simp only [wipeD, items_tup, items_lst, items_rng, tupleD, seqA_tup, seqA_lst, tSq, tIf', tTs, tO, tV, tK, tTr, truD, tNo, tAn, tOr', tAnV, tOrV', tNoV, tIfE, tN0, tCo, tTu, tLs, tCl, tFn, tMh, tRt, tRt0, tNx, tEx, tSe, tAs, gN, gS, gT, gsc, gs0, tU, i2, i2c, rNegD, intC, absD, minD, isD, eqi, eqs, eqb, nei, nes, neb, DL.rIsD, DL.rIsnD, rAddD, rMulD, tMe, tMe0, tBk, tCt, outD, EndsD.xk, startD, optP_some, List.map_cons, List.map_nil, List.length_cons, List.length_nil, List.cons_append, List.nil_append, List.append_nil, List.set_cons_zero, List.set_cons_succ, List.set_nil, List.getElem?_cons_zero, List.getElem?_cons_succ, List.replicate_succ, List.replicate_zero, Nat.zero_add, Nat.reduceAdd, Nat.reduceSub, decide_eq_true_eq, Bool.not_eq_true', decide_eq_false_iff_not]
    exact ⟨by rw [sizeLine_eq]; decide, out_ret h⟩
  · rw [hv] at h
    exact out_ret h
end K63
namespace K63
open PySem PySem.Spec PyProof.Rows L2 DL
variable [B : Obs] {K : PySem.W.Frag} {mg : Str → Option Value} {P : Program} {ds : List D} {M : Md} {Q : VD} {X : XD}
/-! ### tables in the store -/
section
variable {N : Md} {S : Addr → Prop} {ok : List Int → Prop} {okl : Nat → Prop} {k : Nat} {t tm : Addr} {d : D} {ns : List Int} {m q : List (List Int)}
theorem RowE.keep (h : RowE M S t tm d ns) (e : ∀ a c, S a → M a = some c → N a = some c) : RowE N S t tm d ns := by
  obtain ⟨p, rfl, s, n1, n2, hp⟩ := h.ex
  exact ⟨p, rfl, s, n1, n2, e p _ s hp⟩
theorem RowE.off (h : RowE M S t tm d ns) {a : Addr} {c : MC} (e : a = t ∨ a = tm) : RowE (put M a c) S t tm d ns := by
  obtain ⟨p, rfl, s, n1, n2, hp⟩ := h.ex
  refine ⟨p, rfl, s, n1, n2, ?_⟩
  rw [put_ne (fun z => by subst z; exact e.elim n1 n2)]
  exact hp
theorem RowE.nums (h : RowE M S t tm d ns) : NumsAt M d ns := by
  obtain ⟨p, rfl, s, n1, n2, hp⟩ := h.ex
  exact seqA_ref hp
theorem TabG.keep (h : TabG M S ok okl k t) (e : ∀ a c, S a → M a = some c → N a = some c) : TabG N S ok okl k t := by
  obtain ⟨tm, rows, rs, s1, s2, ne, h1, h2, h3, h4, h5, h6⟩ := h.ex
  exact ⟨tm, rows, rs, s1, s2, ne, e t _ s1 h1, h2, fun d hd => (h3 d hd).imp fun ns z => ⟨z.1.keep e, z.2⟩, e tm _ s2 h4, h5, fun d hd => (h6 d hd).imp fun ns z => ⟨z.1.keep e, z.2⟩⟩
theorem TabE.keep (h : TabE M S t m q) (e : ∀ a c, S a → M a = some c → N a = some c) : TabE N S t m q := by
  obtain ⟨tm, rows, rs, s1, s2, ne, h1, h3, h4, h6⟩ := h.ex
  exact ⟨tm, rows, rs, s1, s2, ne, e t _ s1 h1, paired_imp (fun _ _ z => z.keep e) h3, e tm _ s2 h4, paired_imp (fun _ _ z => z.keep e) h6⟩
theorem TabG.grow (h : TabG M S ok okl k t) (e : ∀ a c, S a → M a = some c → N a = some c) {p : Addr} {xs : List D} (ht : M t = some (.lst xs)) (f : M p = none) (sp : S p) (hp : N p = some (.lst (iL ns))) (o : ok ns) :
    TabG (put N t (.lst (xs ++ [.ref p]))) S ok okl (k + 1) t := by
  obtain ⟨tm, rows, rs, s1, s2, ne, h1, h2, h3, h4, h5, h6⟩ := h.ex
  rw [ht] at h1
  cases h1
  have pt : p ≠ t := fun z => by subst z; rw [f] at ht; cases ht
  have pm : p ≠ tm := fun z => by subst z; rw [f] at h4; cases h4
  refine ⟨tm, rows, rs ++ [.ref p], s1, s2, ne, put_same, by rw [List.length_append, h2]; rfl, fun d hd => ?_, by rw [put_ne (Ne.symm ne)]; exact e tm _ s2 h4, h5, fun d hd => (h6 d hd).imp fun ns z => ⟨(z.1.keep e).off (.inl rfl), z.2⟩⟩
  rcases List.mem_append.mp hd with hd | hd
  · exact (h3 d hd).imp fun ns z => ⟨(z.1.keep e).off (.inl rfl), z.2⟩
  · rw [List.mem_singleton.mp hd]
    exact ⟨ns, ⟨p, rfl, sp, pt, pm, by rw [put_ne pt]; exact hp⟩, o⟩
theorem paired_snoc {α β : Type} {R : α → β → Prop} {xs : List α} {ys : List β} {x : α} {y : β} (h : Paired R xs ys) (r : R x y) : Paired R (xs ++ [x]) (ys ++ [y]) := by
  induction h with
  | nil => exact .cons r .nil
  | cons r' _ ih => exact .cons r' ih
theorem TabE.grow (h : TabE M S t m q) (e : ∀ a c, S a → M a = some c → N a = some c) {p : Addr} {xs : List D} (ht : M t = some (.lst xs)) (f : M p = none) (sp : S p) (hp : N p = some (.lst (iL ns))) :
    TabE (put N t (.lst (xs ++ [.ref p]))) S t m (q ++ [ns]) := by
  obtain ⟨tm, rows, rs, s1, s2, ne, h1, h3, h4, h6⟩ := h.ex
  rw [ht] at h1
  cases h1
  have pt : p ≠ t := fun z => by subst z; rw [f] at ht; cases ht
  have pm : p ≠ tm := fun z => by subst z; rw [f] at h4; cases h4
  exact ⟨tm, rows, rs ++ [.ref p], s1, s2, ne, put_same, paired_snoc (paired_imp (fun _ _ z => (z.keep e).off (.inl rfl)) h3) ⟨p, rfl, sp, pt, pm, by rw [put_ne pt]; exact hp⟩, by rw [put_ne (Ne.symm ne)]; exact e tm _ s2 h4, paired_imp (fun _ _ z => (z.keep e).off (.inl rfl)) h6⟩
theorem all_paired {α β : Type} {R : α → β → Prop} {C : β → Prop} : ∀ {xs : List α}, (∀ x ∈ xs, ∃ y, R x y ∧ C y) → ∃ ys, Paired R xs ys ∧ ∀ y ∈ ys, C y
  | [], _ => ⟨[], .nil, fun _ h => nomatch h⟩
  | x :: xs, h => by
    obtain ⟨y, r, c⟩ := h x (List.mem_cons_self ..)
    obtain ⟨ys, rs, cs⟩ := all_paired (xs := xs) fun z hz => h z (List.mem_cons_of_mem _ hz)
    refine ⟨y :: ys, .cons r rs, fun z hz => ?_⟩
    rcases List.mem_cons.mp hz with rfl | hz
    · exact c
    · exact cs z hz
theorem paired_all {α β : Type} {R : α → β → Prop} {C : β → Prop} {xs : List α} {ys : List β} (h : Paired R xs ys) (c : ∀ y ∈ ys, C y) : ∀ x ∈ xs, ∃ y, R x y ∧ C y := by
  induction h with
  | nil => exact fun _ h => nomatch h
  | cons r _ ih =>
    intro x hx
    rcases List.mem_cons.mp hx with rfl | hx
    · exact ⟨_, r, c _ (List.mem_cons_self ..)⟩
    · exact ih (fun y hy => c y (List.mem_cons_of_mem _ hy)) x hx
theorem TabG.exact' (h : TabG M S ok okl k t) : ∃ m q, TabE M S t m q ∧ q.length = k ∧ okl m.length ∧ (∀ x ∈ m, ok x) ∧ ∀ x ∈ q, ok x := by
  obtain ⟨tm, rows, rs, s1, s2, ne, h1, h2, h3, h4, h5, h6⟩ := h.ex
  obtain ⟨q, p1, c1⟩ := all_paired h3
  obtain ⟨m, p2, c2⟩ := all_paired h6
  exact ⟨m, q, ⟨tm, rows, rs, s1, s2, ne, h1, p1, h4, p2⟩, by rw [← p1.length]; exact h2, by rw [← p2.length]; exact h5, c2, c1⟩
theorem TabE.gen (h : TabE M S t m q) (hk : q.length = k) (hl : okl m.length) (c2 : ∀ x ∈ m, ok x) (c1 : ∀ x ∈ q, ok x) : TabG M S ok okl k t := by
  obtain ⟨tm, rows, rs, s1, s2, ne, h1, p1, h4, p2⟩ := h.ex
  exact ⟨tm, rows, rs, s1, s2, ne, h1, by rw [p1.length]; exact hk, paired_all p1 c1, h4, by rw [p2.length]; exact hl, paired_all p2 c2⟩
theorem TabE.tab {r a b c : List Int} (h : TabE M S t m [r, a, b, c]) : TabA M (.ref t) m r a b c := by
  obtain ⟨tm, rows, rs, s1, s2, ne, h1, p1, h4, p2⟩ := h.ex
  match rs, p1 with
  | [dr, da, db, dc], .cons r1 (.cons r2 (.cons r3 (.cons r4 .nil))) => exact ⟨.ref tm, dr, da, db, dc, rows, seqA_ref h1, seqA_ref h4, paired_imp (fun _ _ z => z.nums) p2, r1.nums, r2.nums, r3.nums, r4.nums⟩
theorem TabA.tabC {A : Alg} (h : TabA M d A.meet A.rest A.a A.b A.c) : TabC M d A := ⟨h.ex⟩
/-- a row written -/
theorem TabG.write (h : TabG M S ok okl k t) {p : Addr} (hp : (∃ tm, ∃ ns, RowE M S t tm (.ref p) ns ∧ ∃ xs, M t = some (.lst (.ref tm :: xs))) ∧ ok ns) : TabG (put M p (.lst (iL ns))) S ok okl k t := by
  obtain ⟨tm, rows, rs, s1, s2, ne, h1, h2, h3, h4, h5, h6⟩ := h.ex
  obtain ⟨⟨tm', ns0, r0, xs, e1⟩, o⟩ := hp
  rw [h1] at e1
  cases e1
  obtain ⟨p', ep, sp, n1, n2, hpp⟩ := r0.ex
  cases ep
  have row2 : ∀ d, (∃ ns, RowE M S t tm d ns ∧ ok ns) → ∃ ns', RowE (put M p (.lst (iL ns))) S t tm d ns' ∧ ok ns' := fun d ⟨ns1, r1, o1⟩ => by
    obtain ⟨p1, rfl, q1, q2, q3, q4⟩ := r1.ex
    by_cases z : p1 = p
    · subst z
      exact ⟨ns, ⟨p1, rfl, q1, q2, q3, put_same⟩, o⟩
    · exact ⟨ns1, ⟨p1, rfl, q1, q2, q3, by rw [put_ne z]; exact q4⟩, o1⟩
  exact ⟨tm, rows, rs, s1, s2, ne, by rw [put_ne (Ne.symm n1)]; exact h1, h2, fun d hd => row2 d (h3 d hd), by rw [put_ne (Ne.symm n2)]; exact h4, h5, fun d hd => row2 d (h6 d hd)⟩
theorem Bs_new {st cs p : Addr} (s : StOk M st cs) (h : M p = none) : Bs st cs p := by
  obtain ⟨ns, i, c, e1, e2, e3⟩ := s.ex
  exact ⟨fun z => (by subst z; rw [h] at e1; cases e1), fun z => (by subst z; rw [h] at e2; cases e2)⟩
theorem StOk.put {st cs p : Addr} {c : MC} (s : StOk M st cs) (h : Bs st cs p) : StOk (put M p c) st cs := by
  obtain ⟨ns, i, c, e1, e2, e3⟩ := s.ex
  exact ⟨ns, i, c, by rw [put_ne (Ne.symm h.1)]; exact e1, by rw [put_ne (Ne.symm h.2)]; exact e2, e3⟩
theorem WfR.of {n : Int} {r : List Int} (l : (r.length : Int) = n) (h : ∀ x ∈ r, 0 ≤ x ∧ x < n) : WfR n r := ⟨l, fun i i0 i1 => by
  unfold gi
  rw [List.getD_eq_getElem?_getD, List.getElem?_eq_getElem (by omega)]
  exact h _ (List.getElem_mem ..)⟩
theorem WfR.all {n : Int} {r : List Int} (w : WfR n r) : ∀ x ∈ r, 0 ≤ x ∧ x < n := fun x hx => by
  obtain ⟨k, hk, rfl⟩ := List.mem_iff_getElem.mp hx
  have l := w.len
  have := w.rg k (by omega) (by omega)
  rw [gi_get hk] at this
  exact this
end
/-! ### _law_copy -/
theorem p__law_copy (h : sp__law_copy K ds M Q X) : t__law_copy K (outD Q X) (startD N__law_copy ds) M := by
  obtain ⟨d, m, r, a, b, c, rfl, ⟨dm, dr, da, db, dc, xs, h0, h1, hp, hr, ha, hb, hc⟩, lr, lm, lx, la, lb, lc, h⟩ := h
  have lxs := hp.length
  simp only [N__law_copy, startD, List.map_cons, List.map_nil, List.length_cons, List.length_nil, Nat.zero_add, Nat.reduceAdd, Nat.reduceSub, List.replicate_succ, List.replicate_zero, List.cons_append, List.nil_append]
  unfold t__law_copy
  refine tSq_step fun T hT => ?_
  simp only [tLsM, tLcM, tIS, wipeD, items_tup, items_lst, items_rng, tupleD, seqA_tup, seqA_lst, tSq, tIf', tTs, tO, tV, tK, tTr, truD, tNo, tAn, tOr', tAnV, tOrV', tNoV, tIfE, tN0, tCo, tTu, tLs, tCl, tFn, tMh, tRt, tRt0, tNx, tEx, tSe, tAs, gN, gS, gT, gsc, gs0, tU, i2, i2c, rNegD, intC, absD, minD, isD, eqi, eqs, eqb, nei, nes, neb, DL.rIsD, DL.rIsnD, rAddD, rMulD, tMe, tMe0, tBk, tCt, outD, EndsD.xk, startD, optP_some, List.map_cons, List.map_nil, List.length_cons, List.length_nil, List.cons_append, List.nil_append, List.append_nil, List.set_cons_zero, List.set_cons_succ, List.set_nil, List.getElem?_cons_zero, List.getElem?_cons_succ, List.replicate_succ, List.replicate_zero, Nat.zero_add, Nat.reduceAdd, Nat.reduceSub, decide_eq_true_eq, Bool.not_eq_true', decide_eq_false_iff_not, ix_eq h0 atI_0, items_eq h1]
  intro p hpf
  have sub0 : ∀ {N : Md} {w : MC}, Sub M N → Sub M (put N p w) := fun z => z.put hpf
  refine lcGo_at (I := fun acc N => Sub M N ∧ Paired (fun d ns => ∃ q, d = .ref q ∧ M q = none ∧ q ≠ p ∧ N q = some (.lst (iL ns))) acc (m.take acc.length)) (by rw [sizeLine_eq]; omega) (fun acc N hN hI => seqA_sub h1 hI.1) (fun k hk acc N hac hN hI R hR => ?_) (fun acc N hac hN hI => ?_) put_same ⟨sub0 fun _ _ z => z, .nil⟩
  · have hkm : k < m.length := by omega
    have hx : NumsAt M xs[k] m[k] := paired_get hp hk hkm
    simp only [wipeD, items_tup, items_lst, items_rng, tupleD, seqA_tup, seqA_lst, tSq, tIf', tTs, tO, tV, tK, tTr, truD, tNo, tAn, tOr', tAnV, tOrV', tNoV, tIfE, tN0, tCo, tTu, tLs, tCl, tFn, tMh, tRt, tRt0, tNx, tEx, tSe, tAs, gN, gS, gT, gsc, gs0, tU, i2, i2c, rNegD, intC, absD, minD, isD, eqi, eqs, eqb, nei, nes, neb, DL.rIsD, DL.rIsnD, rAddD, rMulD, tMe, tMe0, tBk, tCt, outD, EndsD.xk, startD, optP_some, List.map_cons, List.map_nil, List.length_cons, List.length_nil, List.cons_append, List.nil_append, List.append_nil, List.set_cons_zero, List.set_cons_succ, List.set_nil, List.getElem?_cons_zero, List.getElem?_cons_succ, List.replicate_succ, List.replicate_zero, Nat.zero_add, Nat.reduceAdd, Nat.reduceSub, decide_eq_true_eq, Bool.not_eq_true', decide_eq_false_iff_not, listM, seqA_sub hx hI.1]
    intro q hq
    have qp : q ≠ p := fun z => by subst z; rw [hN] at hq; cases hq
    have hqM := hI.1.free hq
    refine hR _ _ (by rw [put_ne (Ne.symm qp)]; exact hN) ⟨sub0 (hI.1.put hqM), ?_⟩
    have e : m.take (acc ++ [D.ref q]).length = m.take acc.length ++ [m[k]] := by
      rw [List.length_append, hac]
      exact List.take_succ_eq_append_getElem hkm
    rw [e]
    refine paired_snoc (paired_imp (fun d ns ⟨q', z1, z2, z3, z4⟩ => ⟨q', z1, z2, z3, ?_⟩) hI.2) ⟨q, rfl, hqM, qp, by rw [put_ne qp, put_same]⟩
    rw [put_ne z3, put_ne (fun z => by subst z; rw [hq] at z4; cases z4)]
    exact z4
  · obtain ⟨hS, hP⟩ := hI
    rw [hac, lxs, List.take_length] at hP
    refine ⟨by rw [sizeLine_eq]; decide, fun t ht => ?_⟩
    have htM := hS.free ht
    have tp : t ≠ p := fun z => by subst z; rw [hN] at ht; cases ht
    have hE : TabE (put N t (.lst [.ref p])) (fun a => M a = none) t m [] := ⟨p, acc, [], htM, hpf, tp, put_same, .nil, by rw [put_ne (Ne.symm tp)]; exact hN, paired_imp (fun d ns ⟨q', z1, z2, z3, z4⟩ => by
      have qt : q' ≠ t := fun z => by subst z; rw [ht] at z4; cases z4
      exact ⟨q', z1, z2, qt, z3, by rw [put_ne qt]; exact z4⟩) hP⟩
    subst hT
    refine tSq_step fun T hT => ?_
    simp only [tFo, tIR1, wipeD, items_tup, items_lst, items_rng, tupleD, seqA_tup, seqA_lst, tSq, tIf', tTs, tO, tV, tK, tTr, truD, tNo, tAn, tOr', tAnV, tOrV', tNoV, tIfE, tN0, tCo, tTu, tLs, tCl, tFn, tMh, tRt, tRt0, tNx, tEx, tSe, tAs, gN, gS, gT, gsc, gs0, tU, i2, i2c, rNegD, intC, absD, minD, isD, eqi, eqs, eqb, nei, nes, neb, DL.rIsD, DL.rIsnD, rAddD, rMulD, tMe, tMe0, tBk, tCt, outD, EndsD.xk, startD, optP_some, List.map_cons, List.map_nil, List.length_cons, List.length_nil, List.cons_append, List.nil_append, List.append_nil, List.set_cons_zero, List.set_cons_succ, List.set_nil, List.getElem?_cons_zero, List.getElem?_cons_succ, List.replicate_succ, List.replicate_zero, Nat.zero_add, Nat.reduceAdd, Nat.reduceSub, decide_eq_true_eq, Bool.not_eq_true', decide_eq_false_iff_not]
    refine ⟨⟨by decide, by decide⟩, ?_⟩
    refine forGo_range (n := 4) (P := fun j δ N => (∃ x y, δ = [some d, some (.ref t), x, y]) ∧ Sub M N ∧ (∃ xs, N t = some (.lst xs) ∧ xs.length = j + 1) ∧ TabE N (fun a => M a = none) t m ([r, a, b, c].take j)) (fun δ N hP => ?_) (fun j hj δ N hP R hR => ⟨trivial, ?_⟩) ⟨⟨_, _, rfl⟩, hS.put htM, ⟨_, put_same, rfl⟩, hE⟩
    · obtain ⟨⟨x, y, rfl⟩, hS, _, hE⟩ := hP
      subst hT
      simp only [wipeD, items_tup, items_lst, items_rng, tupleD, seqA_tup, seqA_lst, tSq, tIf', tTs, tO, tV, tK, tTr, truD, tNo, tAn, tOr', tAnV, tOrV', tNoV, tIfE, tN0, tCo, tTu, tLs, tCl, tFn, tMh, tRt, tRt0, tNx, tEx, tSe, tAs, gN, gS, gT, gsc, gs0, tU, i2, i2c, rNegD, intC, absD, minD, isD, eqi, eqs, eqb, nei, nes, neb, DL.rIsD, DL.rIsnD, rAddD, rMulD, tMe, tMe0, tBk, tCt, outD, EndsD.xk, startD, optP_some, List.map_cons, List.map_nil, List.length_cons, List.length_nil, List.cons_append, List.nil_append, List.append_nil, List.set_cons_zero, List.set_cons_succ, List.set_nil, List.getElem?_cons_zero, List.getElem?_cons_succ, List.replicate_succ, List.replicate_zero, Nat.zero_add, Nat.reduceAdd, Nat.reduceSub, decide_eq_true_eq, Bool.not_eq_true', decide_eq_false_iff_not]
      exact ⟨trivial, out_ret (h t N hS hE)⟩
    · obtain ⟨⟨x, y, rfl⟩, hS, ⟨ys, hy, ly⟩, hE⟩ := hP
      have hat : ∃ dk ns, atI [dm, dr, da, db, dc] (1 + (j : Int)) = some dk ∧ NumsAt M dk ns ∧ [r, a, b, c].take (j + 1) = [r, a, b, c].take j ++ [ns] := by
        have : j = 0 ∨ j = 1 ∨ j = 2 ∨ j = 3 := by omega
        rcases this with rfl | rfl | rfl | rfl
        · exact ⟨dr, r, atI_1, hr, rfl⟩
        · exact ⟨da, a, atI_2, ha, rfl⟩
        · exact ⟨db, b, atI_3, hb, rfl⟩
        · exact ⟨dc, c, atI_4, hc, rfl⟩
      obtain ⟨dk, ns, i1, i2, i3⟩ := hat
      simp only [wipeD, items_tup, items_lst, items_rng, tupleD, seqA_tup, seqA_lst, tSq, tIf', tTs, tO, tV, tK, tTr, truD, tNo, tAn, tOr', tAnV, tOrV', tNoV, tIfE, tN0, tCo, tTu, tLs, tCl, tFn, tMh, tRt, tRt0, tNx, tEx, tSe, tAs, gN, gS, gT, gsc, gs0, tU, i2, i2c, rNegD, intC, absD, minD, isD, eqi, eqs, eqb, nei, nes, neb, DL.rIsD, DL.rIsnD, rAddD, rMulD, tMe, tMe0, tBk, tCt, outD, EndsD.xk, startD, optP_some, List.map_cons, List.map_nil, List.length_cons, List.length_nil, List.cons_append, List.nil_append, List.append_nil, List.set_cons_zero, List.set_cons_succ, List.set_nil, List.getElem?_cons_zero, List.getElem?_cons_succ, List.replicate_succ, List.replicate_zero, Nat.zero_add, Nat.reduceAdd, Nat.reduceSub, decide_eq_true_eq, Bool.not_eq_true', decide_eq_false_iff_not, ix_eq (seqA_sub h0 hS) i1, listM, seqA_sub i2 hS]
      refine ⟨isLs_ref hy, fun q hq => ?_⟩
      have qt : q ≠ t := fun z => by subst z; rw [hy] at hq; cases hq
      rw [app_eq (by rw [put_ne (Ne.symm qt)]; exact hy)]
      have hqM := hS.free hq
      have e : ∀ a c, M a = none → N a = some c → put N q (.lst (iL ns)) a = some c := fun a c _ z => by
        rw [put_ne (fun y => by subst y; rw [hq] at z; cases z)]
        exact z
      refine ⟨by rw [sizeLine_eq]; omega, hR _ _ ⟨⟨_, _, rfl⟩, (hS.put hqM).put htM, ⟨_, put_same, by rw [List.length_append, ly]; rfl⟩, ?_⟩⟩
      rw [i3]
      exact hE.grow e hy hq hqM put_same
end K63
namespace K63
open PySem PySem.Spec PyProof.Rows L2 DL
variable [B : Obs] {K : PySem.W.Frag} {mg : Str → Option Value} {P : Program} {ds : List D} {M : Md} {Q : VD} {X : XD}
theorem iL_snoc {ns : List Int} {i : Int} : iL ns ++ [D.int i] = iL (ns ++ [i]) := by simp [iL]
theorem p__law_filled (h : sp__law_filled K ds M Q X) : t__law_filled K (outD Q X) (startD N__law_filled ds) M := by
  obtain ⟨st, cs, t, n, k, rfl, s, g, hk, n0, n1, h⟩ := h
  obtain ⟨tm, rows, rs, s1, s2, ne, h1, h2, h3, h4, h5, h6⟩ := g.ex
  simp only [N__law_filled, startD, List.map_cons, List.map_nil, List.length_cons, List.length_nil, Nat.zero_add, Nat.reduceAdd, Nat.reduceSub, List.replicate_succ, List.replicate_zero, List.cons_append, List.nil_append]
  unfold t__law_filled
  refine tSq_step fun T hT => ?_
  simp only [wipeD, items_tup, items_lst, items_rng, tupleD, seqA_tup, seqA_lst, tSq, tIf', tTs, tO, tV, tK, tTr, truD, tNo, tAn, tOr', tAnV, tOrV', tNoV, tIfE, tN0, tCo, tTu, tLs, tCl, tFn, tMh, tRt, tRt0, tNx, tEx, tSe, tAs, gN, gS, gT, gsc, gs0, tU, i2, i2c, rNegD, intC, absD, minD, isD, eqi, eqs, eqb, nei, nes, neb, DL.rIsD, DL.rIsnD, rAddD, rMulD, tMe, tMe0, tBk, tCt, outD, EndsD.xk, startD, optP_some, List.map_cons, List.map_nil, List.length_cons, List.length_nil, List.cons_append, List.nil_append, List.append_nil, List.set_cons_zero, List.set_cons_succ, List.set_nil, List.getElem?_cons_zero, List.getElem?_cons_succ, List.replicate_succ, List.replicate_zero, Nat.zero_add, Nat.reduceAdd, Nat.reduceSub, decide_eq_true_eq, Bool.not_eq_true', decide_eq_false_iff_not, ix_eq (seqA_ref h1) atI_0, len_eq (seqA_ref h4)]
  rw [h5]
  subst hT
  refine tSq_step fun T hT => ?_
  refine ⟨fun w δ N => ∃ j x, w = 4 - j ∧ j ≤ 4 ∧ δ = [some (.ref st), some (.ref t), some (.int n), x] ∧ StOk N st cs ∧ TabN N (Bs st cs) n j t, ⟨4 - k, k, _, rfl, hk, rfl, s, g⟩, ?_⟩
  rintro w δ N ⟨j, x, rfl, hj, rfl, sN, gN⟩
  obtain ⟨tm, rows, rs, s1, s2, ne, h1, h2, h3, h4, h5, h6⟩ := gN.ex
  simp only [wipeD, items_tup, items_lst, items_rng, tupleD, seqA_tup, seqA_lst, tSq, tIf', tTs, tO, tV, tK, tTr, truD, tNo, tAn, tOr', tAnV, tOrV', tNoV, tIfE, tN0, tCo, tTu, tLs, tCl, tFn, tMh, tRt, tRt0, tNx, tEx, tSe, tAs, gN, gS, gT, gsc, gs0, tU, i2, i2c, rNegD, intC, absD, minD, isD, eqi, eqs, eqb, nei, nes, neb, DL.rIsD, DL.rIsnD, rAddD, rMulD, tMe, tMe0, tBk, tCt, outD, EndsD.xk, startD, optP_some, List.map_cons, List.map_nil, List.length_cons, List.length_nil, List.cons_append, List.nil_append, List.append_nil, List.set_cons_zero, List.set_cons_succ, List.set_nil, List.getElem?_cons_zero, List.getElem?_cons_succ, List.replicate_succ, List.replicate_zero, Nat.zero_add, Nat.reduceAdd, Nat.reduceSub, decide_eq_true_eq, Bool.not_eq_true', decide_eq_false_iff_not, len_eq (seqA_ref h1), h2]
  split
  · rename_i c
    refine ⟨isLs_ref h1, ?_⟩
    simp only [tLcM, tIR1, wipeD, items_tup, items_lst, items_rng, tupleD, seqA_tup, seqA_lst, tSq, tIf', tTs, tO, tV, tK, tTr, truD, tNo, tAn, tOr', tAnV, tOrV', tNoV, tIfE, tN0, tCo, tTu, tLs, tCl, tFn, tMh, tRt, tRt0, tNx, tEx, tSe, tAs, gN, gS, gT, gsc, gs0, tU, i2, i2c, rNegD, intC, absD, minD, isD, eqi, eqs, eqb, nei, nes, neb, DL.rIsD, DL.rIsnD, rAddD, rMulD, tMe, tMe0, tBk, tCt, outD, EndsD.xk, startD, optP_some, List.map_cons, List.map_nil, List.length_cons, List.length_nil, List.cons_append, List.nil_append, List.append_nil, List.set_cons_zero, List.set_cons_succ, List.set_nil, List.getElem?_cons_zero, List.getElem?_cons_succ, List.replicate_succ, List.replicate_zero, Nat.zero_add, Nat.reduceAdd, Nat.reduceSub, decide_eq_true_eq, Bool.not_eq_true', decide_eq_false_iff_not]
    refine ⟨⟨by omega, by omega⟩, fun p hp => ?_⟩
    have bp := Bs_new sN hp
    have pt : p ≠ t := fun z => by subst z; rw [h1] at hp; cases hp
    refine lcGo_at (xs := rgL n.toNat) (I := fun acc N' => StOk N' st cs ∧ (∀ a c, Bs st cs a → N a = some c → N' a = some c) ∧ ∃ ns, acc = iL ns ∧ ∀ x ∈ ns, 0 ≤ x ∧ x < n) (by rw [rgL_len, sizeLine_eq]; omega) (fun _ _ _ _ => trivial) (fun i hi acc N' hac hN' hI R hR => ?_) (fun acc N' hac hN' hI => ?_) put_same ⟨sN.put bp, fun a c _ z => by rw [put_ne (fun y => by subst y; rw [hp] at z; cases z)]; exact z, [], rfl, fun _ z => nomatch z⟩
    · obtain ⟨i1, i2, ns, rfl, i3⟩ := hI
      have n2 : 0 < n := by rw [rgL_len] at hi; omega
      simp only [wipeD, items_tup, items_lst, items_rng, tupleD, seqA_tup, seqA_lst, tSq, tIf', tTs, tO, tV, tK, tTr, truD, tNo, tAn, tOr', tAnV, tOrV', tNoV, tIfE, tN0, tCo, tTu, tLs, tCl, tFn, tMh, tRt, tRt0, tNx, tEx, tSe, tAs, gN, gS, gT, gsc, gs0, tU, i2, i2c, rNegD, intC, absD, minD, isD, eqi, eqs, eqb, nei, nes, neb, DL.rIsD, DL.rIsnD, rAddD, rMulD, tMe, tMe0, tBk, tCt, outD, EndsD.xk, startD, optP_some, List.map_cons, List.map_nil, List.length_cons, List.length_nil, List.cons_append, List.nil_append, List.append_nil, List.set_cons_zero, List.set_cons_succ, List.set_nil, List.getElem?_cons_zero, List.getElem?_cons_succ, List.replicate_succ, List.replicate_zero, Nat.zero_add, Nat.reduceAdd, Nat.reduceSub, decide_eq_true_eq, Bool.not_eq_true', decide_eq_false_iff_not]
      refine ⟨st, cs, n, rfl, i1, n2, by omega, fun r N2 r0 r1 e2 z2 s2 => ?_⟩
      refine hR _ _ (e2.at_ p _ hN' bp.1 bp.2) ⟨s2.put bp, fun a c b z => ?_, ns ++ [r], iL_snoc, fun x hx => ?_⟩
      · rw [put_ne (fun y => by subst y; rw [hp] at z; cases z)]
        exact e2.at_ a c (i2 a c b z) b.1 b.2
      · rcases List.mem_append.mp hx with hx | hx
        · exact i3 x hx
        · rw [List.mem_singleton.mp hx]
          exact ⟨r0, r1⟩
    · obtain ⟨i1, i2, ns, rfl, i3⟩ := hI
      have ht : N' t = some (.lst (.ref tm :: rs)) := i2 t _ s1 h1
      rw [app_eq ht]
      refine ⟨by rw [sizeLine_eq, List.length_cons]; omega, 4 - (j + 1), by omega, j + 1, _, rfl, by omega, rfl, i1.put s1, gN.grow i2 h1 hp bp hN' (.of ?_ i3)⟩
      rw [iL_len, rgL_len] at hac
      omega
  · rename_i c
    have : j = 4 := by omega
    subst this
    subst hT
    simp only [wipeD, items_tup, items_lst, items_rng, tupleD, seqA_tup, seqA_lst, tSq, tIf', tTs, tO, tV, tK, tTr, truD, tNo, tAn, tOr', tAnV, tOrV', tNoV, tIfE, tN0, tCo, tTu, tLs, tCl, tFn, tMh, tRt, tRt0, tNx, tEx, tSe, tAs, gN, gS, gT, gsc, gs0, tU, i2, i2c, rNegD, intC, absD, minD, isD, eqi, eqs, eqb, nei, nes, neb, DL.rIsD, DL.rIsnD, rAddD, rMulD, tMe, tMe0, tBk, tCt, outD, EndsD.xk, startD, optP_some, List.map_cons, List.map_nil, List.length_cons, List.length_nil, List.cons_append, List.nil_append, List.append_nil, List.set_cons_zero, List.set_cons_succ, List.set_nil, List.getElem?_cons_zero, List.getElem?_cons_succ, List.replicate_succ, List.replicate_zero, Nat.zero_add, Nat.reduceAdd, Nat.reduceSub, decide_eq_true_eq, Bool.not_eq_true', decide_eq_false_iff_not]
    exact out_ret (h N sN gN)
/-! ### chains -/
theorem TabG.two {N : Md} {S : Addr → Prop} {ok : List Int → Prop} {okl : Nat → Prop} {k : Nat} {t tm : Addr} {rows rs : List D} (s1 : S t) (s2 : S tm) (ne : t ≠ tm) (h1 : N t = some (.lst (.ref tm :: rs))) (h2 : rs.length = k)
    (h3 : ∀ d ∈ rs, ∃ p ns, d = .ref p ∧ S p ∧ p ≠ t ∧ p ≠ tm ∧ N p = some (.lst (iL ns)) ∧ ok ns) (h4 : N tm = some (.lst rows)) (h5 : okl rows.length) (h6 : ∀ d ∈ rows, ∃ p ns, d = .ref p ∧ S p ∧ p ≠ t ∧ p ≠ tm ∧ N p = some (.lst (iL ns)) ∧ ok ns) : TabG N S ok okl k t :=
  ⟨tm, rows, rs, s1, s2, ne, h1, h2, fun d hd => by
    obtain ⟨p, ns, e, a, b, c, f, o⟩ := h3 d hd
    exact ⟨ns, ⟨p, e, a, b, c, f⟩, o⟩, h4, h5, fun d hd => by
    obtain ⟨p, ns, e, a, b, c, f, o⟩ := h6 d hd
    exact ⟨ns, ⟨p, e, a, b, c, f⟩, o⟩⟩
/-- rows of numbers, each a cell, none of them tm -/
def Rows (N : Md) (st cs tm : Addr) (n : Int) (rows : List D) : Prop := ∀ d ∈ rows, ∃ p ns, d = D.ref p ∧ Bs st cs p ∧ p ≠ tm ∧ N p = some (.lst (iL ns)) ∧ WfR n ns
theorem Rows.put {N : Md} {st cs tm : Addr} {n : Int} {rows : List D} (h : Rows N st cs tm n rows) {N' : Md} (k : ∀ a c, Bs st cs a → a ≠ tm → N a = some c → N' a = some c) : Rows N' st cs tm n rows := fun d hd => by
  obtain ⟨p, ns, e, b, c, f, o⟩ := h d hd
  exact ⟨p, ns, e, b, c, k p _ b c f, o⟩
theorem Rows.snoc {N : Md} {st cs tm p : Addr} {n : Int} {rows : List D} {ns : List Int} (h : Rows N st cs tm n rows) (b : Bs st cs p) (pt : p ≠ tm) (f : N p = some (.lst (iL ns))) (w : WfR n ns) : Rows N st cs tm n (rows ++ [.ref p]) := fun d hd => by
  rcases List.mem_append.mp hd with hd | hd
  · exact h d hd
  · exact ⟨p, ns, List.mem_singleton.mp hd, b, pt, f, w⟩
/-- the first of the tables are made: what is left is filled -/
theorem filled_of {N : Md} {st cs tm : Addr} {n : Int} {rows rs : List D} (sN : StOk N st cs) (n0 : 0 ≤ n) (n1 : n ≤ 1000) (bm : Bs st cs tm) (hm : N tm = some (.lst rows)) (lr : (rows.length : Int) = n) (hr : Rows N st cs tm n rows)
    (hs : Rows N st cs tm n rs) (ls : rs.length ≤ 4) {Q : VD} (h : ∀ (t : Addr) (N : Md), StOk N st cs → TabN N (Bs st cs) n 4 t → Q (.ref t) N) {t : Addr} (ht : N t = none) : sp__law_filled K [.ref st, .ref t] (put N t (.lst (.ref tm :: rs))) Q X := by
  have bt := Bs_new sN ht
  have tn : t ≠ tm := fun z => by subst z; rw [hm] at ht; cases ht
  have row : ∀ {l : List D}, Rows N st cs tm n l → ∀ d ∈ l, ∃ p ns, d = D.ref p ∧ Bs st cs p ∧ p ≠ t ∧ p ≠ tm ∧ put N t (.lst (.ref tm :: rs)) p = some (.lst (iL ns)) ∧ WfR n ns := fun {l} hl d hd => by
    obtain ⟨q, ns, e, b, c, f, o⟩ := hl d hd
    have qt : q ≠ t := fun z => by subst z; rw [f] at ht; cases ht
    exact ⟨q, ns, e, b, qt, c, by rw [put_ne qt]; exact f, o⟩
  exact ⟨st, cs, t, n, rs.length, rfl, sN.put bt, .two bt bm tn put_same rfl (row hs) (by rw [put_ne (Ne.symm tn)]; exact hm) lr (row hr), ls, n0, n1, fun N' s' g' => h t N' s' g'⟩
theorem wf_map {n : Int} {g : Int → Int} (h0 : 0 ≤ n) (h : ∀ x, 0 ≤ x → x < n → 0 ≤ g x ∧ g x < n) : WfR n ((rgI n).map g) := .of (by rw [List.length_map, rgI_len]; omega) fun y hy => by
  obtain ⟨x, hx, rfl⟩ := List.mem_map.mp hy
  exact h x (rgI_mem hx).1 (rgI_mem hx).2
/-- the meet's rows so far -/
structure Made (N : Md) (st cs tm : Addr) (n : Int) (k : Nat) : Prop where
  st_ : StOk N st cs
  ex : ∃ rows, N tm = some (.lst rows) ∧ rows.length = k ∧ Rows N st cs tm n rows
theorem Made.step {N N' : Md} {st cs tm p : Addr} {n : Int} {k : Nat} {ns : List Int} {rows : List D} (m : Made N st cs tm n k) (bm : Bs st cs tm) (ht : N tm = some (.lst rows)) (s' : StOk N' st cs) (hp : N p = none) (k' : ∀ a c, Bs st cs a → N a = some c → N' a = some c) (f : N' p = some (.lst (iL ns))) (w : WfR n ns) :
    Made (put N' tm (.lst (rows ++ [.ref p]))) st cs tm n (k + 1) := by
  obtain ⟨rows', e1, e2, e3⟩ := m.ex
  rw [ht] at e1
  cases e1
  have pt : p ≠ tm := fun z => by subst z; rw [ht] at hp; cases hp
  have bp := Bs_new m.st_ hp
  refine ⟨s'.put bm, rows ++ [.ref p], put_same, by rw [List.length_append, e2]; rfl, (e3.put fun a c b1 n1 z => ?_).snoc bp pt (by rw [put_ne pt]; exact f) w⟩
  rw [put_ne n1]
  exact k' a c b1 z
theorem new_keep {N : Md} {p : Addr} {w : MC} (hp : N p = none) : ∀ a c, N a = some c → put N p w a = some c := fun a c z => by
  rw [put_ne (fun y => by subst y; rw [hp] at z; cases z)]
  exact z
theorem p__law_chain (h : sp__law_chain K ds M Q X) : t__law_chain K (outD Q X) (startD N__law_chain ds) M := by
  obtain ⟨st, cs, n, rfl, s, n0, n1, h⟩ := h
  simp only [N__law_chain, startD, List.map_cons, List.map_nil, List.length_cons, List.length_nil, Nat.zero_add, Nat.reduceAdd, Nat.reduceSub, List.replicate_succ, List.replicate_zero, List.cons_append, List.nil_append]
  unfold t__law_chain
  refine tSq_step fun T hT => ?_
  simp only [tLsM, wipeD, items_tup, items_lst, items_rng, tupleD, seqA_tup, seqA_lst, tSq, tIf', tTs, tO, tV, tK, tTr, truD, tNo, tAn, tOr', tAnV, tOrV', tNoV, tIfE, tN0, tCo, tTu, tLs, tCl, tFn, tMh, tRt, tRt0, tNx, tEx, tSe, tAs, gN, gS, gT, gsc, gs0, tU, i2, i2c, rNegD, intC, absD, minD, isD, eqi, eqs, eqb, nei, nes, neb, DL.rIsD, DL.rIsnD, rAddD, rMulD, tMe, tMe0, tBk, tCt, outD, EndsD.xk, startD, optP_some, List.map_cons, List.map_nil, List.length_cons, List.length_nil, List.cons_append, List.nil_append, List.append_nil, List.set_cons_zero, List.set_cons_succ, List.set_nil, List.getElem?_cons_zero, List.getElem?_cons_succ, List.replicate_succ, List.replicate_zero, Nat.zero_add, Nat.reduceAdd, Nat.reduceSub, decide_eq_true_eq, Bool.not_eq_true', decide_eq_false_iff_not]
  refine ⟨by rw [sizeLine_eq]; decide, fun tm htm => ?_⟩
  have bm := Bs_new s htm
  subst hT
  refine tSq_step fun T hT => ?_
  simp only [tFo, tIR1, wipeD, items_tup, items_lst, items_rng, tupleD, seqA_tup, seqA_lst, tSq, tIf', tTs, tO, tV, tK, tTr, truD, tNo, tAn, tOr', tAnV, tOrV', tNoV, tIfE, tN0, tCo, tTu, tLs, tCl, tFn, tMh, tRt, tRt0, tNx, tEx, tSe, tAs, gN, gS, gT, gsc, gs0, tU, i2, i2c, rNegD, intC, absD, minD, isD, eqi, eqs, eqb, nei, nes, neb, DL.rIsD, DL.rIsnD, rAddD, rMulD, tMe, tMe0, tBk, tCt, outD, EndsD.xk, startD, optP_some, List.map_cons, List.map_nil, List.length_cons, List.length_nil, List.cons_append, List.nil_append, List.append_nil, List.set_cons_zero, List.set_cons_succ, List.set_nil, List.getElem?_cons_zero, List.getElem?_cons_succ, List.replicate_succ, List.replicate_zero, Nat.zero_add, Nat.reduceAdd, Nat.reduceSub, decide_eq_true_eq, Bool.not_eq_true', decide_eq_false_iff_not]
  refine ⟨⟨by omega, by omega⟩, ?_⟩
  refine forGo_range (P := fun k δ N => (∃ x y z, δ = [some (.ref st), some (.int n), some (.ref tm), x, y, z]) ∧ Made N st cs tm n k) (fun δ N hP => ?_) (fun k hk δ N hP R hR => ⟨trivial, ?_⟩) ⟨⟨_, _, _, rfl⟩, s.put bm, [], put_same, rfl, fun _ z => nomatch z⟩
  · obtain ⟨⟨x, y, z, rfl⟩, mN⟩ := hP
    obtain ⟨rows, e1, e2, e3⟩ := mN.ex
    have sN := mN.st_
    refine ⟨trivial, ?_⟩
    subst hT
    dsimp only
    refine tSq_step fun T hT => ?_
    simp only [wipeD, items_tup, items_lst, items_rng, tupleD, seqA_tup, seqA_lst, tSq, tIf', tTs, tO, tV, tK, tTr, truD, tNo, tAn, tOr', tAnV, tOrV', tNoV, tIfE, tN0, tCo, tTu, tLs, tCl, tFn, tMh, tRt, tRt0, tNx, tEx, tSe, tAs, gN, gS, gT, gsc, gs0, tU, i2, i2c, rNegD, intC, absD, minD, isD, eqi, eqs, eqb, nei, nes, neb, DL.rIsD, DL.rIsnD, rAddD, rMulD, tMe, tMe0, tBk, tCt, outD, EndsD.xk, startD, optP_some, List.map_cons, List.map_nil, List.length_cons, List.length_nil, List.cons_append, List.nil_append, List.append_nil, List.set_cons_zero, List.set_cons_succ, List.set_nil, List.getElem?_cons_zero, List.getElem?_cons_succ, List.replicate_succ, List.replicate_zero, Nat.zero_add, Nat.reduceAdd, Nat.reduceSub, decide_eq_true_eq, Bool.not_eq_true', decide_eq_false_iff_not]
    refine tLcM_rng (f := fun x => n - 1 - x) (n := n) (fun R hR => hR) (by omega) (by omega) (fun x x0 x1 p c hp Q' hQ => hQ) (fun p hp => ?_)
    have bp := Bs_new sN hp
    have pt : p ≠ tm := fun z => by subst z; rw [e1] at hp; cases hp
    subst hT
    refine tSq_step fun T hT => ?_
    simp only [wipeD, items_tup, items_lst, items_rng, tupleD, seqA_tup, seqA_lst, tSq, tIf', tTs, tO, tV, tK, tTr, truD, tNo, tAn, tOr', tAnV, tOrV', tNoV, tIfE, tN0, tCo, tTu, tLs, tCl, tFn, tMh, tRt, tRt0, tNx, tEx, tSe, tAs, gN, gS, gT, gsc, gs0, tU, i2, i2c, rNegD, intC, absD, minD, isD, eqi, eqs, eqb, nei, nes, neb, DL.rIsD, DL.rIsnD, rAddD, rMulD, tMe, tMe0, tBk, tCt, outD, EndsD.xk, startD, optP_some, List.map_cons, List.map_nil, List.length_cons, List.length_nil, List.cons_append, List.nil_append, List.append_nil, List.set_cons_zero, List.set_cons_succ, List.set_nil, List.getElem?_cons_zero, List.getElem?_cons_succ, List.replicate_succ, List.replicate_zero, Nat.zero_add, Nat.reduceAdd, Nat.reduceSub, decide_eq_true_eq, Bool.not_eq_true', decide_eq_false_iff_not]
    refine ⟨st, cs, 2, rfl, sN.put bp, by decide, by decide, fun r N2 r0 r1 e4 z4 s2 => ?_⟩
    have kk : ∀ a c, Bs st cs a → N a = some c → N2 a = some c := fun a c b z => e4.at_ a c (new_keep hp a c z) b.1 b.2
    simp only [wipeD, items_tup, items_lst, items_rng, tupleD, seqA_tup, seqA_lst, tSq, tIf', tTs, tO, tV, tK, tTr, truD, tNo, tAn, tOr', tAnV, tOrV', tNoV, tIfE, tN0, tCo, tTu, tLs, tCl, tFn, tMh, tRt, tRt0, tNx, tEx, tSe, tAs, gN, gS, gT, gsc, gs0, tU, i2, i2c, rNegD, intC, absD, minD, isD, eqi, eqs, eqb, nei, nes, neb, DL.rIsD, DL.rIsnD, rAddD, rMulD, tMe, tMe0, tBk, tCt, outD, EndsD.xk, startD, optP_some, List.map_cons, List.map_nil, List.length_cons, List.length_nil, List.cons_append, List.nil_append, List.append_nil, List.set_cons_zero, List.set_cons_succ, List.set_nil, List.getElem?_cons_zero, List.getElem?_cons_succ, List.replicate_succ, List.replicate_zero, Nat.zero_add, Nat.reduceAdd, Nat.reduceSub, decide_eq_true_eq, Bool.not_eq_true', decide_eq_false_iff_not]
    split
    · -- the other rest
      refine tLcM_rng (f := fun x => (n - 1) * (if x = 0 then 1 else 0)) (n := n) (fun R hR => hR) (by omega) (by omega) (fun x x0 x1 p c hp Q' hQ => ?_) (fun p2 hp2 => ?_)
      · simp only [wipeD, items_tup, items_lst, items_rng, tupleD, seqA_tup, seqA_lst, tSq, tIf', tTs, tO, tV, tK, tTr, truD, tNo, tAn, tOr', tAnV, tOrV', tNoV, tIfE, tN0, tCo, tTu, tLs, tCl, tFn, tMh, tRt, tRt0, tNx, tEx, tSe, tAs, gN, gS, gT, gsc, gs0, tU, i2, i2c, rNegD, intC, absD, minD, isD, eqi, eqs, eqb, nei, nes, neb, DL.rIsD, DL.rIsnD, rAddD, rMulD, tMe, tMe0, tBk, tCt, outD, EndsD.xk, startD, optP_some, List.map_cons, List.map_nil, List.length_cons, List.length_nil, List.cons_append, List.nil_append, List.append_nil, List.set_cons_zero, List.set_cons_succ, List.set_nil, List.getElem?_cons_zero, List.getElem?_cons_succ, List.replicate_succ, List.replicate_zero, Nat.zero_add, Nat.reduceAdd, Nat.reduceSub, decide_eq_true_eq, Bool.not_eq_true', decide_eq_false_iff_not]
        refine ⟨?_, ?_⟩
        · unfold CMul
          split <;> omega
        · by_cases z : x = 0
          · simp only [z, decide_true, if_true] at hQ ⊢
            exact hQ
          · simp only [z, decide_false, if_false] at hQ ⊢
            exact hQ
      · have bp2 := Bs_new s2 hp2
        have hm2 := kk tm _ bm e1
        have pt2 : p2 ≠ tm := fun z => by subst z; rw [hm2] at hp2; cases hp2
        subst hT
        simp only [tLsM, wipeD, items_tup, items_lst, items_rng, tupleD, seqA_tup, seqA_lst, tSq, tIf', tTs, tO, tV, tK, tTr, truD, tNo, tAn, tOr', tAnV, tOrV', tNoV, tIfE, tN0, tCo, tTu, tLs, tCl, tFn, tMh, tRt, tRt0, tNx, tEx, tSe, tAs, gN, gS, gT, gsc, gs0, tU, i2, i2c, rNegD, intC, absD, minD, isD, eqi, eqs, eqb, nei, nes, neb, DL.rIsD, DL.rIsnD, rAddD, rMulD, tMe, tMe0, tBk, tCt, outD, EndsD.xk, startD, optP_some, List.map_cons, List.map_nil, List.length_cons, List.length_nil, List.cons_append, List.nil_append, List.append_nil, List.set_cons_zero, List.set_cons_succ, List.set_nil, List.getElem?_cons_zero, List.getElem?_cons_succ, List.replicate_succ, List.replicate_zero, Nat.zero_add, Nat.reduceAdd, Nat.reduceSub, decide_eq_true_eq, Bool.not_eq_true', decide_eq_false_iff_not]
        refine ⟨by rw [sizeLine_eq]; decide, fun t ht => ?_⟩
        have k3 := new_keep (w := .lst (iL ((rgI n).map fun x => (n - 1) * (if x = 0 then 1 else 0)))) hp2
        refine filled_of (n := n) (s2.put bp2) n0 (by omega) bm (k3 _ _ hm2) (by omega) (e3.put fun a c b _ z => k3 _ _ (kk a c b z)) (fun d hd => ?_) (by simp) (fun t N sN gN => out_ret (h t N sN gN)) ht
        rw [List.mem_singleton.mp hd]
        refine ⟨p2, _, rfl, bp2, pt2, put_same, wf_map n0 fun x x0 x1 => ?_⟩
        split <;> omega
    · subst hT
      simp only [tLsM, wipeD, items_tup, items_lst, items_rng, tupleD, seqA_tup, seqA_lst, tSq, tIf', tTs, tO, tV, tK, tTr, truD, tNo, tAn, tOr', tAnV, tOrV', tNoV, tIfE, tN0, tCo, tTu, tLs, tCl, tFn, tMh, tRt, tRt0, tNx, tEx, tSe, tAs, gN, gS, gT, gsc, gs0, tU, i2, i2c, rNegD, intC, absD, minD, isD, eqi, eqs, eqb, nei, nes, neb, DL.rIsD, DL.rIsnD, rAddD, rMulD, tMe, tMe0, tBk, tCt, outD, EndsD.xk, startD, optP_some, List.map_cons, List.map_nil, List.length_cons, List.length_nil, List.cons_append, List.nil_append, List.append_nil, List.set_cons_zero, List.set_cons_succ, List.set_nil, List.getElem?_cons_zero, List.getElem?_cons_succ, List.replicate_succ, List.replicate_zero, Nat.zero_add, Nat.reduceAdd, Nat.reduceSub, decide_eq_true_eq, Bool.not_eq_true', decide_eq_false_iff_not]
      refine ⟨by rw [sizeLine_eq]; decide, fun t ht => ?_⟩
      refine filled_of (n := n) s2 n0 (by omega) bm (kk _ _ bm e1) (by omega) (e3.put fun a c b _ z => kk a c b z) (fun d hd => ?_) (by simp) (fun t N sN gN => out_ret (h t N sN gN)) ht
      rw [List.mem_singleton.mp hd]
      exact ⟨p, _, rfl, bp, pt, e4.at_ p _ put_same bp.1 bp.2, wf_map n0 fun x x0 x1 => by omega⟩
  · obtain ⟨⟨x, y, z, rfl⟩, mN⟩ := hP
    obtain ⟨rows, e1, e2, e3⟩ := mN.ex
    simp only [wipeD, items_tup, items_lst, items_rng, tupleD, seqA_tup, seqA_lst, tSq, tIf', tTs, tO, tV, tK, tTr, truD, tNo, tAn, tOr', tAnV, tOrV', tNoV, tIfE, tN0, tCo, tTu, tLs, tCl, tFn, tMh, tRt, tRt0, tNx, tEx, tSe, tAs, gN, gS, gT, gsc, gs0, tU, i2, i2c, rNegD, intC, absD, minD, isD, eqi, eqs, eqb, nei, nes, neb, DL.rIsD, DL.rIsnD, rAddD, rMulD, tMe, tMe0, tBk, tCt, outD, EndsD.xk, startD, optP_some, List.map_cons, List.map_nil, List.length_cons, List.length_nil, List.cons_append, List.nil_append, List.append_nil, List.set_cons_zero, List.set_cons_succ, List.set_nil, List.getElem?_cons_zero, List.getElem?_cons_succ, List.replicate_succ, List.replicate_zero, Nat.zero_add, Nat.reduceAdd, Nat.reduceSub, decide_eq_true_eq, Bool.not_eq_true', decide_eq_false_iff_not]
    refine ⟨isLs_ref e1, ?_⟩
    refine tLcM_rng (f := fun y => if y < (k : Int) then y else (k : Int)) (n := n) (fun R hR => hR) (by omega) (by omega) (fun x x0 x1 p c hp Q' hQ => hQ) (fun p hp => ?_)
    rw [app_eq (new_keep hp _ _ e1)]
    refine ⟨by rw [sizeLine_eq]; omega, hR _ _ ⟨⟨_, _, _, rfl⟩, mN.step bm e1 (mN.st_.put (Bs_new mN.st_ hp)) hp (fun a c _ z => new_keep hp a c z) put_same (wf_map n0 fun x x0 x1 => ?_)⟩⟩
    split <;> omega
end K63
namespace K63
open PySem PySem.Spec PyProof.Rows L2 DL
variable [B : Obs] {K : PySem.W.Frag} {mg : Str → Option Value} {P : Program} {ds : List D} {M : Md} {Q : VD} {X : XD}
theorem and_pp {x y : Int} (hx : 0 ≤ x) (hy : 0 ≤ y) : Builtin.bitAnd x y = ((x.toNat &&& y.toNat : Nat) : Int) := by
  unfold Builtin.bitAnd
  rw [decide_eq_true hx, decide_eq_true hy]
theorem and_le {x y : Int} (hx : 0 ≤ x) (hy : 0 ≤ y) : 0 ≤ Builtin.bitAnd x y ∧ Builtin.bitAnd x y ≤ x := by
  rw [and_pp hx hy]
  have : x.toNat &&& y.toNat ≤ x.toNat := Nat.and_le_left
  omega
theorem xor_lt {x y : Int} {n : Nat} (hx : 0 ≤ x) (x1 : x < 2 ^ n) (hy : 0 ≤ y) (y1 : y < 2 ^ n) : 0 ≤ Builtin.bitXor x y ∧ Builtin.bitXor x y < 2 ^ n := by
  have o := or_lt hx x1 hy y1
  have a := and_le hx hy
  have lo : x ≤ Builtin.bitOr x y := by
    rw [bitOr_nn hx hy]
    have : x.toNat ≤ x.toNat ||| y.toNat := Nat.left_le_or
    omega
  unfold Builtin.bitXor
  omega
theorem p__law_odd_tables (h : sp__law_odd_tables K ds M Q X) : t__law_odd_tables K (outD Q X) (startD N__law_odd_tables ds) M := by
  obtain ⟨st, cs, w, g, rfl, s, w0, w1, h⟩ := h
  simp only [N__law_odd_tables, startD, List.map_cons, List.map_nil, List.length_cons, List.length_nil, Nat.zero_add, Nat.reduceAdd, Nat.reduceSub, List.replicate_succ, List.replicate_zero, List.cons_append, List.nil_append]
  unfold t__law_odd_tables
  refine tSq_step fun T hT => ?_
  simp only [tLsM, wipeD, items_tup, items_lst, items_rng, tupleD, seqA_tup, seqA_lst, tSq, tIf', tTs, tO, tV, tK, tTr, truD, tNo, tAn, tOr', tAnV, tOrV', tNoV, tIfE, tN0, tCo, tTu, tLs, tCl, tFn, tMh, tRt, tRt0, tNx, tEx, tSe, tAs, gN, gS, gT, gsc, gs0, tU, i2, i2c, rNegD, intC, absD, minD, isD, eqi, eqs, eqb, nei, nes, neb, DL.rIsD, DL.rIsnD, rAddD, rMulD, tMe, tMe0, tBk, tCt, outD, EndsD.xk, startD, optP_some, List.map_cons, List.map_nil, List.length_cons, List.length_nil, List.cons_append, List.nil_append, List.append_nil, List.set_cons_zero, List.set_cons_succ, List.set_nil, List.getElem?_cons_zero, List.getElem?_cons_succ, List.replicate_succ, List.replicate_zero, Nat.zero_add, Nat.reduceAdd, Nat.reduceSub, decide_eq_true_eq, Bool.not_eq_true', decide_eq_false_iff_not]
  refine ⟨by rw [sizeLine_eq]; decide, fun tm htm => ?_⟩
  have bm := Bs_new s htm
  have s := s.put (c := .lst []) bm
  have hm : put M tm (.lst []) tm = some (.lst []) := put_same
  generalize put M tm (.lst []) = M1 at s hm ⊢
  subst hT
  refine tSq_step fun T hT => ?_
  simp only [tTs, tO, tV, tK, List.getElem?_cons_zero, List.getElem?_cons_succ, eqi, tIf', decide_eq_true_eq]
  split
  · -- drawn items
    refine tSq_step fun T1 hT1 => ?_
    simp only [wipeD, items_tup, items_lst, items_rng, tupleD, seqA_tup, seqA_lst, tSq, tIf', tTs, tO, tV, tK, tTr, truD, tNo, tAn, tOr', tAnV, tOrV', tNoV, tIfE, tN0, tCo, tTu, tLs, tCl, tFn, tMh, tRt, tRt0, tNx, tEx, tSe, tAs, gN, gS, gT, gsc, gs0, tU, i2, i2c, rNegD, intC, absD, minD, isD, eqi, eqs, eqb, nei, nes, neb, DL.rIsD, DL.rIsnD, rAddD, rMulD, tMe, tMe0, tBk, tCt, outD, EndsD.xk, startD, optP_some, List.map_cons, List.map_nil, List.length_cons, List.length_nil, List.cons_append, List.nil_append, List.append_nil, List.set_cons_zero, List.set_cons_succ, List.set_nil, List.getElem?_cons_zero, List.getElem?_cons_succ, List.replicate_succ, List.replicate_zero, Nat.zero_add, Nat.reduceAdd, Nat.reduceSub, decide_eq_true_eq, Bool.not_eq_true', decide_eq_false_iff_not]
    refine ⟨st, cs, 4, rfl, s, by decide, by decide, fun r N r0 r1 e1 z1 s1 => ?_⟩
    obtain ⟨n, hn⟩ : ∃ n, n = 2 + r := ⟨_, rfl⟩
    try dsimp only
    rw [← hn]
    have hn0 : 0 ≤ n := by omega
    have hn1 : 2 ≤ n := by omega
    have hn2 : n ≤ 32 := by omega
    subst hT1
    try dsimp only
    refine tSq_step fun T1 hT1 => ?_
    simp only [tFo, tIR1, wipeD, items_tup, items_lst, items_rng, tupleD, seqA_tup, seqA_lst, tSq, tIf', tTs, tO, tV, tK, tTr, truD, tNo, tAn, tOr', tAnV, tOrV', tNoV, tIfE, tN0, tCo, tTu, tLs, tCl, tFn, tMh, tRt, tRt0, tNx, tEx, tSe, tAs, gN, gS, gT, gsc, gs0, tU, i2, i2c, rNegD, intC, absD, minD, isD, eqi, eqs, eqb, nei, nes, neb, DL.rIsD, DL.rIsnD, rAddD, rMulD, tMe, tMe0, tBk, tCt, outD, EndsD.xk, startD, optP_some, List.map_cons, List.map_nil, List.length_cons, List.length_nil, List.cons_append, List.nil_append, List.append_nil, List.set_cons_zero, List.set_cons_succ, List.set_nil, List.getElem?_cons_zero, List.getElem?_cons_succ, List.replicate_succ, List.replicate_zero, Nat.zero_add, Nat.reduceAdd, Nat.reduceSub, decide_eq_true_eq, Bool.not_eq_true', decide_eq_false_iff_not]
    refine ⟨⟨by omega, by omega⟩, ?_⟩
    refine forGo_range (P := fun k δ N => (∃ x y, δ = [some (.ref st), some (.int w), some (.bl g), some (.ref tm), some (.int n), x, y]) ∧ Made N st cs tm n k) (fun δ N hP => ?_) (fun k hk δ N hP R hR => ⟨trivial, ?_⟩) ⟨⟨_, _, rfl⟩, s1, [], e1.at_ tm _ hm bm.1 bm.2, rfl, fun _ z => nomatch z⟩
    · obtain ⟨⟨x, y, rfl⟩, mN⟩ := hP
      obtain ⟨rows, f1, f2, f3⟩ := mN.ex
      subst hT1
      simp only [tLsM, wipeD, items_tup, items_lst, items_rng, tupleD, seqA_tup, seqA_lst, tSq, tIf', tTs, tO, tV, tK, tTr, truD, tNo, tAn, tOr', tAnV, tOrV', tNoV, tIfE, tN0, tCo, tTu, tLs, tCl, tFn, tMh, tRt, tRt0, tNx, tEx, tSe, tAs, gN, gS, gT, gsc, gs0, tU, i2, i2c, rNegD, intC, absD, minD, isD, eqi, eqs, eqb, nei, nes, neb, DL.rIsD, DL.rIsnD, rAddD, rMulD, tMe, tMe0, tBk, tCt, outD, EndsD.xk, startD, optP_some, List.map_cons, List.map_nil, List.length_cons, List.length_nil, List.cons_append, List.nil_append, List.append_nil, List.set_cons_zero, List.set_cons_succ, List.set_nil, List.getElem?_cons_zero, List.getElem?_cons_succ, List.replicate_succ, List.replicate_zero, Nat.zero_add, Nat.reduceAdd, Nat.reduceSub, decide_eq_true_eq, Bool.not_eq_true', decide_eq_false_iff_not]
      refine ⟨trivial, by rw [sizeLine_eq]; decide, fun t ht => ?_⟩
      exact filled_of (rs := []) (n := n) mN.st_ hn0 (by omega) bm f1 (by omega) f3 (fun _ z => nomatch z) (by simp) (fun t N sN gN => out_ret (h t N n hn1 hn2 sN gN)) ht
    · obtain ⟨⟨x, y, rfl⟩, mN⟩ := hP
      obtain ⟨rows, f1, f2, f3⟩ := mN.ex
      simp only [tLcM, tIR1, wipeD, items_tup, items_lst, items_rng, tupleD, seqA_tup, seqA_lst, tSq, tIf', tTs, tO, tV, tK, tTr, truD, tNo, tAn, tOr', tAnV, tOrV', tNoV, tIfE, tN0, tCo, tTu, tLs, tCl, tFn, tMh, tRt, tRt0, tNx, tEx, tSe, tAs, gN, gS, gT, gsc, gs0, tU, i2, i2c, rNegD, intC, absD, minD, isD, eqi, eqs, eqb, nei, nes, neb, DL.rIsD, DL.rIsnD, rAddD, rMulD, tMe, tMe0, tBk, tCt, outD, EndsD.xk, startD, optP_some, List.map_cons, List.map_nil, List.length_cons, List.length_nil, List.cons_append, List.nil_append, List.append_nil, List.set_cons_zero, List.set_cons_succ, List.set_nil, List.getElem?_cons_zero, List.getElem?_cons_succ, List.replicate_succ, List.replicate_zero, Nat.zero_add, Nat.reduceAdd, Nat.reduceSub, decide_eq_true_eq, Bool.not_eq_true', decide_eq_false_iff_not]
      refine ⟨isLs_ref f1, ⟨by omega, by omega⟩, fun p hp => ?_⟩
      have bp := Bs_new mN.st_ hp
      refine lcGo_at (xs := rgL n.toNat) (I := fun acc N' => StOk N' st cs ∧ (∀ a c, Bs st cs a → N a = some c → N' a = some c) ∧ ∃ ns, acc = iL ns ∧ ∀ x ∈ ns, 0 ≤ x ∧ x < n) (by rw [rgL_len, sizeLine_eq]; omega) (fun _ _ _ _ => trivial) (fun i hi acc N' hac hN' hI R hR => ?_) (fun acc N' hac hN' hI => ?_) put_same ⟨mN.st_.put bp, fun a c _ z => new_keep hp a c z, [], rfl, fun _ z => nomatch z⟩
      · obtain ⟨i1, i2, ns, rfl, i3⟩ := hI
        simp only [wipeD, items_tup, items_lst, items_rng, tupleD, seqA_tup, seqA_lst, tSq, tIf', tTs, tO, tV, tK, tTr, truD, tNo, tAn, tOr', tAnV, tOrV', tNoV, tIfE, tN0, tCo, tTu, tLs, tCl, tFn, tMh, tRt, tRt0, tNx, tEx, tSe, tAs, gN, gS, gT, gsc, gs0, tU, i2, i2c, rNegD, intC, absD, minD, isD, eqi, eqs, eqb, nei, nes, neb, DL.rIsD, DL.rIsnD, rAddD, rMulD, tMe, tMe0, tBk, tCt, outD, EndsD.xk, startD, optP_some, List.map_cons, List.map_nil, List.length_cons, List.length_nil, List.cons_append, List.nil_append, List.append_nil, List.set_cons_zero, List.set_cons_succ, List.set_nil, List.getElem?_cons_zero, List.getElem?_cons_succ, List.replicate_succ, List.replicate_zero, Nat.zero_add, Nat.reduceAdd, Nat.reduceSub, decide_eq_true_eq, Bool.not_eq_true', decide_eq_false_iff_not]
        refine ⟨st, cs, n, rfl, i1, by omega, by omega, fun r N2 r0 r1 e2 z2 s2 => ?_⟩
        refine hR _ _ (e2.at_ p _ hN' bp.1 bp.2) ⟨s2.put bp, fun a c b z => ?_, ns ++ [r], iL_snoc, fun x hx => ?_⟩
        · rw [put_ne (fun y => by subst y; rw [hp] at z; cases z)]
          exact e2.at_ a c (i2 a c b z) b.1 b.2
        · rcases List.mem_append.mp hx with hx | hx
          · exact i3 x hx
          · rw [List.mem_singleton.mp hx]
            exact ⟨r0, r1⟩
      · obtain ⟨i1, i2, ns, rfl, i3⟩ := hI
        rw [app_eq (i2 tm _ bm f1)]
        rw [iL_len, rgL_len] at hac
        exact ⟨by rw [sizeLine_eq]; omega, hR _ _ ⟨⟨_, _, rfl⟩, mN.step bm f1 i1 hp i2 hN' (.of (by omega) i3)⟩⟩
  · rename_i c0
    subst hT
    try dsimp only [tNx]
    refine tSq_step fun T hT => ?_
    simp only [wipeD, items_tup, items_lst, items_rng, tupleD, seqA_tup, seqA_lst, tSq, tIf', tTs, tO, tV, tK, tTr, truD, tNo, tAn, tOr', tAnV, tOrV', tNoV, tIfE, tN0, tCo, tTu, tLs, tCl, tFn, tMh, tRt, tRt0, tNx, tEx, tSe, tAs, gN, gS, gT, gsc, gs0, tU, i2, i2c, rNegD, intC, absD, minD, isD, eqi, eqs, eqb, nei, nes, neb, DL.rIsD, DL.rIsnD, rAddD, rMulD, tMe, tMe0, tBk, tCt, outD, EndsD.xk, startD, optP_some, List.map_cons, List.map_nil, List.length_cons, List.length_nil, List.cons_append, List.nil_append, List.append_nil, List.set_cons_zero, List.set_cons_succ, List.set_nil, List.getElem?_cons_zero, List.getElem?_cons_succ, List.replicate_succ, List.replicate_zero, Nat.zero_add, Nat.reduceAdd, Nat.reduceSub, decide_eq_true_eq, Bool.not_eq_true', decide_eq_false_iff_not]
    split
    · have hb : ∃ b : Int, (if g = true then (31 : Int) else 8) = b ∧ 0 < b ∧ b ≤ 31 := by
        cases g
        · exact ⟨8, rfl, by decide, by decide⟩
        · exact ⟨31, rfl, by decide, by decide⟩
      obtain ⟨b, eb, b0, b1⟩ := hb
      have go : sp__law_take K [.ref st, .int b] M1 (fun x M1 => match x with
        | .int j => sp__law_chain K [.ref st, .int (2 + j)] M1 (fun d M => ∃ M' d', DL.Fin M d M' d' ∧ Q d' M') (fun C fs M => ∃ M', (∀ (a : Addr) (c : MC), M' a = some c → M a = some c) ∧ X C fs M')
        | _ => False) (fun C fs M => ∃ M', (∀ (a : Addr) (c : MC), M' a = some c → M a = some c) ∧ X C fs M') := by
        refine ⟨st, cs, b, rfl, s, b0, by omega, fun r N r0 r1 e1 z1 s1 => ?_⟩
        exact ⟨st, cs, 2 + r, rfl, s1, by omega, by omega, fun t N' s' g' => out_ret (h t N' _ (by omega) (by omega) s' g')⟩
      cases g
      · cases eb
        obtain ⟨st', cs', b', e1, e2, e3, e4, e5⟩ := go
        exact ⟨st', cs', b', e1, e2, e3, e4, fun r N r0 r1 x1 x2 x3 => e5 r N r0 r1 x1 x2 x3⟩
      · cases eb
        obtain ⟨st', cs', b', e1, e2, e3, e4, e5⟩ := go
        exact ⟨st', cs', b', e1, e2, e3, e4, fun r N r0 r1 x1 x2 x3 => e5 r N r0 r1 x1 x2 x3⟩
    · rename_i c1
      subst hT
      try dsimp only [tNx]
      refine tSq_step fun T hT => ?_
      simp only [wipeD, items_tup, items_lst, items_rng, tupleD, seqA_tup, seqA_lst, tSq, tIf', tTs, tO, tV, tK, tTr, truD, tNo, tAn, tOr', tAnV, tOrV', tNoV, tIfE, tN0, tCo, tTu, tLs, tCl, tFn, tMh, tRt, tRt0, tNx, tEx, tSe, tAs, gN, gS, gT, gsc, gs0, tU, i2, i2c, rNegD, intC, absD, minD, isD, eqi, eqs, eqb, nei, nes, neb, DL.rIsD, DL.rIsnD, rAddD, rMulD, tMe, tMe0, tBk, tCt, outD, EndsD.xk, startD, optP_some, List.map_cons, List.map_nil, List.length_cons, List.length_nil, List.cons_append, List.nil_append, List.append_nil, List.set_cons_zero, List.set_cons_succ, List.set_nil, List.getElem?_cons_zero, List.getElem?_cons_succ, List.replicate_succ, List.replicate_zero, Nat.zero_add, Nat.reduceAdd, Nat.reduceSub, decide_eq_true_eq, Bool.not_eq_true', decide_eq_false_iff_not, rShlD, i2c]
      refine ⟨st, cs, 3, rfl, s, by decide, by decide, fun r N r0 r1 e1 z1 s1 => ⟨⟨by omega, by omega, by decide⟩, ?_⟩⟩
      have hn : (2 : Int) * 2 ^ r.toNat = 2 ^ (r.toNat + 1) := by rw [Int.pow_succ, Int.mul_comm]
      rw [hn]
      have hn1 : (2 : Int) ≤ 2 ^ (r.toNat + 1) ∧ (2 : Int) ^ (r.toNat + 1) ≤ 32 := by
        have : r = 0 ∨ r = 1 ∨ r = 2 := by omega
        rcases this with rfl | rfl | rfl <;> decide
      generalize r.toNat + 1 = e at hn1 ⊢
      obtain ⟨hn1, hn2⟩ := hn1
      have xr : ∀ x y : Int, 0 ≤ x → x < 2 ^ e → 0 ≤ y → y < 2 ^ e → 0 ≤ Builtin.bitXor x y ∧ Builtin.bitXor x y < 2 ^ e := fun x y x0 x1 y0 y1 => xor_lt x0 x1 y0 y1
      obtain ⟨n, hn⟩ : ∃ n : Int, n = 2 ^ e := ⟨_, rfl⟩
      rw [← hn] at hn1 hn2 xr
      rw [← hn]
      subst hT
      try dsimp only
      refine tSq_step fun T hT => ?_
      simp only [tFo, tIR1, wipeD, items_tup, items_lst, items_rng, tupleD, seqA_tup, seqA_lst, tSq, tIf', tTs, tO, tV, tK, tTr, truD, tNo, tAn, tOr', tAnV, tOrV', tNoV, tIfE, tN0, tCo, tTu, tLs, tCl, tFn, tMh, tRt, tRt0, tNx, tEx, tSe, tAs, gN, gS, gT, gsc, gs0, tU, i2, i2c, rNegD, intC, absD, minD, isD, eqi, eqs, eqb, nei, nes, neb, DL.rIsD, DL.rIsnD, rAddD, rMulD, tMe, tMe0, tBk, tCt, outD, EndsD.xk, startD, optP_some, List.map_cons, List.map_nil, List.length_cons, List.length_nil, List.cons_append, List.nil_append, List.append_nil, List.set_cons_zero, List.set_cons_succ, List.set_nil, List.getElem?_cons_zero, List.getElem?_cons_succ, List.replicate_succ, List.replicate_zero, Nat.zero_add, Nat.reduceAdd, Nat.reduceSub, decide_eq_true_eq, Bool.not_eq_true', decide_eq_false_iff_not]
      refine ⟨⟨by omega, by omega⟩, ?_⟩
      refine forGo_range (P := fun k δ N => (∃ x y, δ = [some (.ref st), some (.int w), some (.bl g), some (.ref tm), some (.int n), x, y]) ∧ Made N st cs tm n k) (fun δ N hP => ?_) (fun k hk δ N hP R hR => ⟨trivial, ?_⟩) ⟨⟨_, _, rfl⟩, s1, [], e1.at_ tm _ hm bm.1 bm.2, rfl, fun _ z => nomatch z⟩
      · obtain ⟨⟨x, y, rfl⟩, mN⟩ := hP
        obtain ⟨rows, f1, f2, f3⟩ := mN.ex
        subst hT
        simp only [tLsM, tLsRg, wipeD, items_tup, items_lst, items_rng, tupleD, seqA_tup, seqA_lst, tSq, tIf', tTs, tO, tV, tK, tTr, truD, tNo, tAn, tOr', tAnV, tOrV', tNoV, tIfE, tN0, tCo, tTu, tLs, tCl, tFn, tMh, tRt, tRt0, tNx, tEx, tSe, tAs, gN, gS, gT, gsc, gs0, tU, i2, i2c, rNegD, intC, absD, minD, isD, eqi, eqs, eqb, nei, nes, neb, DL.rIsD, DL.rIsnD, rAddD, rMulD, tMe, tMe0, tBk, tCt, outD, EndsD.xk, startD, optP_some, List.map_cons, List.map_nil, List.length_cons, List.length_nil, List.cons_append, List.nil_append, List.append_nil, List.set_cons_zero, List.set_cons_succ, List.set_nil, List.getElem?_cons_zero, List.getElem?_cons_succ, List.replicate_succ, List.replicate_zero, Nat.zero_add, Nat.reduceAdd, Nat.reduceSub, decide_eq_true_eq, Bool.not_eq_true', decide_eq_false_iff_not, if_true]
        refine ⟨trivial, by omega, by omega, fun p hp => ⟨by rw [sizeLine_eq]; decide, fun t ht => ?_⟩⟩
        have bp := Bs_new mN.st_ hp
        have kk := new_keep (w := .lst (rgD n)) hp
        have pt : p ≠ tm := fun z => by subst z; rw [f1] at hp; cases hp
        refine filled_of (n := n) (mN.st_.put bp) (by omega) (by omega) bm (kk _ _ f1) (by omega) (f3.put fun a c _ _ z => kk a c z) (fun d hd => ?_) (by simp) (fun t N sN gN => out_ret (h t N n hn1 hn2 sN gN)) ht
        rw [List.mem_singleton.mp hd]
        exact ⟨p, _, rfl, bp, pt, by rw [put_same, rgD_eq], wf_rgI (by omega)⟩
      · obtain ⟨⟨x, y, rfl⟩, mN⟩ := hP
        obtain ⟨rows, f1, f2, f3⟩ := mN.ex
        simp only [wipeD, items_tup, items_lst, items_rng, tupleD, seqA_tup, seqA_lst, tSq, tIf', tTs, tO, tV, tK, tTr, truD, tNo, tAn, tOr', tAnV, tOrV', tNoV, tIfE, tN0, tCo, tTu, tLs, tCl, tFn, tMh, tRt, tRt0, tNx, tEx, tSe, tAs, gN, gS, gT, gsc, gs0, tU, i2, i2c, rNegD, intC, absD, minD, isD, eqi, eqs, eqb, nei, nes, neb, DL.rIsD, DL.rIsnD, rAddD, rMulD, tMe, tMe0, tBk, tCt, outD, EndsD.xk, startD, optP_some, List.map_cons, List.map_nil, List.length_cons, List.length_nil, List.cons_append, List.nil_append, List.append_nil, List.set_cons_zero, List.set_cons_succ, List.set_nil, List.getElem?_cons_zero, List.getElem?_cons_succ, List.replicate_succ, List.replicate_zero, Nat.zero_add, Nat.reduceAdd, Nat.reduceSub, decide_eq_true_eq, Bool.not_eq_true', decide_eq_false_iff_not]
        refine ⟨isLs_ref f1, ?_⟩
        refine tLcM_rng (f := fun y => Builtin.bitXor (k : Int) y) (n := n) (fun R hR => hR) (by omega) (by omega) (fun x x0 x1 p c hp Q' hQ => hQ) (fun p hp => ?_)
        rw [app_eq (new_keep hp _ _ f1)]
        exact ⟨by rw [sizeLine_eq]; omega, hR _ _ ⟨⟨_, _, rfl⟩, mN.step bm f1 (mN.st_.put (Bs_new mN.st_ hp)) hp (fun a c _ z => new_keep hp a c z) put_same (wf_map (by omega) fun x x0 x1 => xr _ _ (by omega) (by omega) x0 x1)⟩⟩
end K63
namespace K63
open PySem PySem.Spec PyProof.Rows L2 DL
variable [B : Obs] {K : PySem.W.Frag} {mg : Str → Option Value} {P : Program} {ds : List D} {M : Md} {Q : VD} {X : XD}
theorem Ext.off {st cs : Addr} {N : Md} (e : Ext st cs M N) (z : ∀ a, M a = none → N a = none) : ∀ a, a ≠ st → a ≠ cs → N a = M a := fun a n1 n2 => by
  cases h : M a with
  | none => exact z a h
  | some c => exact e.at_ a c h n1 n2
section
variable {N : Md} {S : Addr → Prop} {n : Int} {t : Addr}
theorem TabN.row (h : TabN N S n 4 t) {x : Int} (x0 : 0 ≤ x) (x1 : x < n) : ∃ tm rows xs p ns, N t = some (.lst (.ref tm :: xs)) ∧ N tm = some (.lst rows) ∧ atI rows x = some (.ref p) ∧ RowE N S t tm (.ref p) ns ∧ WfR n ns ∧ N p = some (.lst (iL ns)) ∧ S p := by
  obtain ⟨tm, rows, rs, s1, s2, ne, h1, h2, h3, h4, h5, h6⟩ := h.ex
  have hx : x.toNat < rows.length := by omega
  obtain ⟨ns, r, w⟩ := h6 _ (List.getElem_mem hx)
  obtain ⟨p, e, sp, n1, n2, hp⟩ := r.ex
  rw [e] at r
  exact ⟨tm, rows, rs, p, ns, h1, h4, by rw [atI_in x0 (by omega), List.getElem?_eq_getElem hx, e], r, w, hp, sp⟩
theorem TabN.tab (h : TabN N S n 4 t) {x : Int} (x0 : 1 ≤ x) (x1 : x < 5) : ∃ tm xs p ns, N t = some (.lst (.ref tm :: xs)) ∧ atI (.ref tm :: xs) x = some (.ref p) ∧ RowE N S t tm (.ref p) ns ∧ WfR n ns ∧ N p = some (.lst (iL ns)) ∧ S p := by
  obtain ⟨tm, rows, rs, s1, s2, ne, h1, h2, h3, h4, h5, h6⟩ := h.ex
  have hx : (x - 1).toNat < rs.length := by omega
  obtain ⟨ns, r, w⟩ := h3 _ (List.getElem_mem hx)
  obtain ⟨p, e, sp, n1, n2, hp⟩ := r.ex
  rw [e] at r
  refine ⟨tm, rs, p, ns, h1, ?_, r, w, hp, sp⟩
  rw [atI_in (by omega) (by rw [List.length_cons]; omega)]
  have e2 : x.toNat = (x - 1).toNat + 1 := by omega
  rw [e2, List.getElem?_cons_succ, List.getElem?_eq_getElem hx, e]
theorem StOk.write {st cs p : Addr} {c : MC} (s : StOk N st cs) (h1 : ¬ S st) (h2 : ¬ S cs) (h : S p) : StOk (DL.put N p c) st cs := s.put ⟨fun z => h1 (z ▸ h), fun z => h2 (z ▸ h)⟩
end
theorem p__law_spoil (h : sp__law_spoil K ds M Q X) : t__law_spoil K (outD Q X) (startD N__law_spoil ds) M := by
  obtain ⟨st, cs, t, n, S, rfl, s, b1, b2, g, n0, n1, h⟩ := h
  simp only [N__law_spoil, startD, List.map_cons, List.map_nil, List.length_cons, List.length_nil, Nat.zero_add, Nat.reduceAdd, Nat.reduceSub, List.replicate_succ, List.replicate_zero, List.cons_append, List.nil_append]
  have kp : ∀ {N N' : Md}, Ext st cs N N' → TabN N S n 4 t → TabN N' S n 4 t := fun e g => g.keep fun a c sa z => e.at_ a c z (fun y => b1 (y ▸ sa)) fun y => b2 (y ▸ sa)
  -- a write into a row, and what still stands
  have wr : ∀ {N : Md} {tm p : Addr} {ns : List Int} {xs : List D} {y v : Int}, StOk N st cs → TabN N S n 4 t → (∀ a, ¬ S a → a ≠ st → a ≠ cs → N a = M a) → RowE N S t tm (.ref p) ns → N t = some (.lst (.ref tm :: xs)) → WfR n ns → S p → 0 ≤ y → y < n → 0 ≤ v → v < n →
      StOk (put N p (.lst (iL (ns.set y.toNat v)))) st cs ∧ TabN (put N p (.lst (iL (ns.set y.toNat v)))) S n 4 t ∧ (∀ a, ¬ S a → a ≠ st → a ≠ cs → put N p (.lst (iL (ns.set y.toNat v))) a = M a) := fun {N tm p ns xs y v} s g e r ht w sp y0 y1 v0 v1 => by
    have := w.len
    exact ⟨s.write b1 b2 sp, g.write ⟨⟨tm, ns, r, xs, ht⟩, w.set (by omega) v0 v1⟩, fun a sa n1 n2 => by
      have ne : a ≠ p := fun z => sa (by rw [z]; exact sp)
      rw [put_ne ne]
      exact e a sa n1 n2⟩
  unfold t__law_spoil
  refine tSq_step fun T hT => ?_
  obtain ⟨tm, xs, p, ns, h1, h2, r, w, hp, sp⟩ := g.tab (x := 1) (by decide) (by decide)
  simp only [wipeD, items_tup, items_lst, items_rng, tupleD, seqA_tup, seqA_lst, tSq, tIf', tTs, tO, tV, tK, tTr, truD, tNo, tAn, tOr', tAnV, tOrV', tNoV, tIfE, tN0, tCo, tTu, tLs, tCl, tFn, tMh, tRt, tRt0, tNx, tEx, tSe, tAs, gN, gS, gT, gsc, gs0, tU, i2_ii, i2c_ii, rNegD, intC, absD, minD, isD, eqi, eqs, eqb, nei, nes, neb, DL.rIsD, DL.rIsnD, addi, muli, tMe, tMe0, tBk, tCt, outD, EndsD.xk, startD, optP_some, List.map_cons, List.map_nil, List.length_cons, List.length_nil, List.cons_append, List.nil_append, List.append_nil, List.set_cons_zero, List.set_cons_succ, List.set_nil, List.getElem?_cons_zero, List.getElem?_cons_succ, List.replicate_succ, List.replicate_zero, Nat.zero_add, Nat.reduceAdd, Nat.reduceSub, decide_eq_true_eq, Bool.not_eq_true', decide_eq_false_iff_not, ix_eq (seqA_ref h1) h2, len_eq (seqA_ref hp), iL_len, w.len]
  subst hT
  refine tSq_step fun T hT => ?_
  simp only [wipeD, items_tup, items_lst, items_rng, tupleD, seqA_tup, seqA_lst, tSq, tIf', tTs, tO, tV, tK, tTr, truD, tNo, tAn, tOr', tAnV, tOrV', tNoV, tIfE, tN0, tCo, tTu, tLs, tCl, tFn, tMh, tRt, tRt0, tNx, tEx, tSe, tAs, gN, gS, gT, gsc, gs0, tU, i2_ii, i2c_ii, rNegD, intC, absD, minD, isD, eqi, eqs, eqb, nei, nes, neb, DL.rIsD, DL.rIsnD, addi, muli, tMe, tMe0, tBk, tCt, outD, EndsD.xk, startD, optP_some, List.map_cons, List.map_nil, List.length_cons, List.length_nil, List.cons_append, List.nil_append, List.append_nil, List.set_cons_zero, List.set_cons_succ, List.set_nil, List.getElem?_cons_zero, List.getElem?_cons_succ, List.replicate_succ, List.replicate_zero, Nat.zero_add, Nat.reduceAdd, Nat.reduceSub, decide_eq_true_eq, Bool.not_eq_true', decide_eq_false_iff_not]
  refine ⟨st, cs, n, rfl, s, n0, by omega, fun x N1 x0 x1 e1 z1 s1 => ?_⟩
  subst hT
  refine tSq_step fun T hT => ?_
  simp only [wipeD, items_tup, items_lst, items_rng, tupleD, seqA_tup, seqA_lst, tSq, tIf', tTs, tO, tV, tK, tTr, truD, tNo, tAn, tOr', tAnV, tOrV', tNoV, tIfE, tN0, tCo, tTu, tLs, tCl, tFn, tMh, tRt, tRt0, tNx, tEx, tSe, tAs, gN, gS, gT, gsc, gs0, tU, i2_ii, i2c_ii, rNegD, intC, absD, minD, isD, eqi, eqs, eqb, nei, nes, neb, DL.rIsD, DL.rIsnD, addi, muli, tMe, tMe0, tBk, tCt, outD, EndsD.xk, startD, optP_some, List.map_cons, List.map_nil, List.length_cons, List.length_nil, List.cons_append, List.nil_append, List.append_nil, List.set_cons_zero, List.set_cons_succ, List.set_nil, List.getElem?_cons_zero, List.getElem?_cons_succ, List.replicate_succ, List.replicate_zero, Nat.zero_add, Nat.reduceAdd, Nat.reduceSub, decide_eq_true_eq, Bool.not_eq_true', decide_eq_false_iff_not]
  refine ⟨st, cs, n, rfl, s1, n0, by omega, fun y N2 y0 y1 e2 z2 s2 => ?_⟩
  subst hT
  refine tSq_step fun T hT => ?_
  simp only [wipeD, items_tup, items_lst, items_rng, tupleD, seqA_tup, seqA_lst, tSq, tIf', tTs, tO, tV, tK, tTr, truD, tNo, tAn, tOr', tAnV, tOrV', tNoV, tIfE, tN0, tCo, tTu, tLs, tCl, tFn, tMh, tRt, tRt0, tNx, tEx, tSe, tAs, gN, gS, gT, gsc, gs0, tU, i2_ii, i2c_ii, rNegD, intC, absD, minD, isD, eqi, eqs, eqb, nei, nes, neb, DL.rIsD, DL.rIsnD, addi, muli, tMe, tMe0, tBk, tCt, outD, EndsD.xk, startD, optP_some, List.map_cons, List.map_nil, List.length_cons, List.length_nil, List.cons_append, List.nil_append, List.append_nil, List.set_cons_zero, List.set_cons_succ, List.set_nil, List.getElem?_cons_zero, List.getElem?_cons_succ, List.replicate_succ, List.replicate_zero, Nat.zero_add, Nat.reduceAdd, Nat.reduceSub, decide_eq_true_eq, Bool.not_eq_true', decide_eq_false_iff_not]
  refine ⟨st, cs, n, rfl, s2, n0, by omega, fun v N3 v0 v1 e3 z3 s3 => ?_⟩
  subst hT
  refine tSq_step fun T hT => ?_
  simp only [wipeD, items_tup, items_lst, items_rng, tupleD, seqA_tup, seqA_lst, tSq, tIf', tTs, tO, tV, tK, tTr, truD, tNo, tAn, tOr', tAnV, tOrV', tNoV, tIfE, tN0, tCo, tTu, tLs, tCl, tFn, tMh, tRt, tRt0, tNx, tEx, tSe, tAs, gN, gS, gT, gsc, gs0, tU, i2_ii, i2c_ii, rNegD, intC, absD, minD, isD, eqi, eqs, eqb, nei, nes, neb, DL.rIsD, DL.rIsnD, addi, muli, tMe, tMe0, tBk, tCt, outD, EndsD.xk, startD, optP_some, List.map_cons, List.map_nil, List.length_cons, List.length_nil, List.cons_append, List.nil_append, List.append_nil, List.set_cons_zero, List.set_cons_succ, List.set_nil, List.getElem?_cons_zero, List.getElem?_cons_succ, List.replicate_succ, List.replicate_zero, Nat.zero_add, Nat.reduceAdd, Nat.reduceSub, decide_eq_true_eq, Bool.not_eq_true', decide_eq_false_iff_not]
  refine ⟨st, cs, 6, rfl, s3, by decide, by omega, fun q N4 q0 q1 e4 z4 s4 => ?_⟩
  subst hT
  have e14 : Ext st cs M N4 := e1.trans (e2.trans (e3.trans e4))
  have off : ∀ a, ¬ S a → a ≠ st → a ≠ cs → N4 a = M a := fun a _ => e14.off (fun a ha => z4 a (z3 a (z2 a (z1 a ha)))) a
  have g4 := kp e14 g
  clear e14 e1 e2 e3 e4 z1 z2 z3 z4 s1 s2 s3
  simp only [wipeD, items_tup, items_lst, items_rng, tupleD, seqA_tup, seqA_lst, tSq, tIf', tTs, tO, tV, tK, tTr, truD, tNo, tAn, tOr', tAnV, tOrV', tNoV, tIfE, tN0, tCo, tTu, tLs, tCl, tFn, tMh, tRt, tRt0, tNx, tEx, tSe, tAs, gN, gS, gT, gsc, gs0, tU, i2_ii, i2c_ii, rNegD, intC, absD, minD, isD, eqi, eqs, eqb, nei, nes, neb, DL.rIsD, DL.rIsnD, addi, muli, tMe, tMe0, tBk, tCt, outD, EndsD.xk, startD, optP_some, List.map_cons, List.map_nil, List.length_cons, List.length_nil, List.cons_append, List.nil_append, List.append_nil, List.set_cons_zero, List.set_cons_succ, List.set_nil, List.getElem?_cons_zero, List.getElem?_cons_succ, List.replicate_succ, List.replicate_zero, Nat.zero_add, Nat.reduceAdd, Nat.reduceSub, decide_eq_true_eq, Bool.not_eq_true', decide_eq_false_iff_not]
  split
  · obtain ⟨tm, rows, xs, p, ns, h1, h2, h3, r, w, hp, sp⟩ := g4.row x0 x1
    simp only [ix_eq (seqA_ref h1) atI_0, ix_eq (seqA_ref h2) h3, setD_eq hp (j := y) y0 (by rw [iL_len]; have := w.len; omega), iL_set]
    obtain ⟨s5, g5, off5⟩ := wr (y := y) (v := v) s4 g4 off r h1 w sp y0 y1 v0 v1
    split
    · obtain ⟨tm, rows, xs, p2, ns2, h1, h2, h3, r, w, hp, sp⟩ := g5.row y0 y1
      simp only [wipeD, items_tup, items_lst, items_rng, tupleD, seqA_tup, seqA_lst, tSq, tIf', tTs, tO, tV, tK, tTr, truD, tNo, tAn, tOr', tAnV, tOrV', tNoV, tIfE, tN0, tCo, tTu, tLs, tCl, tFn, tMh, tRt, tRt0, tNx, tEx, tSe, tAs, gN, gS, gT, gsc, gs0, tU, i2_ii, i2c_ii, rNegD, intC, absD, minD, isD, eqi, eqs, eqb, nei, nes, neb, DL.rIsD, DL.rIsnD, addi, muli, tMe, tMe0, tBk, tCt, outD, EndsD.xk, startD, optP_some, List.map_cons, List.map_nil, List.length_cons, List.length_nil, List.cons_append, List.nil_append, List.append_nil, List.set_cons_zero, List.set_cons_succ, List.set_nil, List.getElem?_cons_zero, List.getElem?_cons_succ, List.replicate_succ, List.replicate_zero, Nat.zero_add, Nat.reduceAdd, Nat.reduceSub, decide_eq_true_eq, Bool.not_eq_true', decide_eq_false_iff_not, ix_eq (seqA_ref h1) atI_0, ix_eq (seqA_ref h2) h3, setD_eq hp (j := x) x0 (by rw [iL_len]; have := w.len; omega), iL_set]
      obtain ⟨s6, g6, off6⟩ := wr (y := x) (v := v) s5 g5 off5 r h1 w sp x0 x1 v0 v1
      exact out_nx (h _ s6 g6 off6)
    · exact out_nx (h _ s5 g5 off5)
  · obtain ⟨tm, xs, p, ns, h1, h2, r, w, hp, sp⟩ := g4.tab (x := q - 1) (by omega) (by omega)
    simp only [wipeD, items_tup, items_lst, items_rng, tupleD, seqA_tup, seqA_lst, tSq, tIf', tTs, tO, tV, tK, tTr, truD, tNo, tAn, tOr', tAnV, tOrV', tNoV, tIfE, tN0, tCo, tTu, tLs, tCl, tFn, tMh, tRt, tRt0, tNx, tEx, tSe, tAs, gN, gS, gT, gsc, gs0, tU, i2_ii, i2c_ii, rNegD, intC, absD, minD, isD, eqi, eqs, eqb, nei, nes, neb, DL.rIsD, DL.rIsnD, addi, muli, tMe, tMe0, tBk, tCt, outD, EndsD.xk, startD, optP_some, List.map_cons, List.map_nil, List.length_cons, List.length_nil, List.cons_append, List.nil_append, List.append_nil, List.set_cons_zero, List.set_cons_succ, List.set_nil, List.getElem?_cons_zero, List.getElem?_cons_succ, List.replicate_succ, List.replicate_zero, Nat.zero_add, Nat.reduceAdd, Nat.reduceSub, decide_eq_true_eq, Bool.not_eq_true', decide_eq_false_iff_not, ix_eq (seqA_ref h1) h2, setD_eq hp (j := x) x0 (by rw [iL_len]; have := w.len; omega), iL_set]
    obtain ⟨s5, g5, off5⟩ := wr (y := x) (v := v) s4 g4 off r h1 w sp x0 x1 v0 v1
    exact out_nx (h _ s5 g5 off5)
end K63
namespace K63
open PySem PySem.Spec PyProof.Rows L2 DL
variable [B : Obs] {K : PySem.W.Frag} {mg : Str → Option Value} {P : Program} {ds : List D} {M : Md} {Q : VD} {X : XD}
theorem mulM_eq {i k : Int} : rMulM (.lst [.int i]) (.int k) M Q = ((-(2 ^ 63) ≤ k ∧ k < 2 ^ 63) ∧ 1 * k.toNat ≤ sizeLine ∧ ∀ p, M p = none → Q (.ref p) (put M p (.lst (iL (List.replicate k.toNat i))))) := by
  have e : (List.replicate k.toNat [D.int i]).flatten = iL (List.replicate k.toNat i) := by
    unfold iL
    rw [List.map_replicate]
    generalize k.toNat = n
    induction n with
    | zero => rfl
    | succ n ih =>
      rw [List.replicate_succ, List.replicate_succ, List.flatten_cons, ih]
      rfl
  show ((-(2 ^ 63) ≤ k ∧ k < 2 ^ 63) ∧ 1 * k.toNat ≤ sizeLine ∧ ∀ p, M p = none → Q (.ref p) (put M p (.lst (List.replicate k.toNat [D.int i]).flatten))) = _
  rw [e]
structure WaysP (N : Md) (st cs p : Addr) (n k : Nat) : Prop where
  ex : ∃ ws, N p = some (.lst ws) ∧ ws.length = k ∧ ∀ d ∈ ws, ∃ (q : Addr) (ns : List Int), d = D.ref q ∧ Bs st cs q ∧ q ≠ p ∧ N q = some (.lst (iL ns)) ∧ ns.length = n
theorem WaysP.keep {N N' : Md} {st cs p : Addr} {n k : Nat} (h : WaysP N st cs p n k) (bp : Bs st cs p) (e : Ext st cs N N') : WaysP N' st cs p n k := by
  obtain ⟨ws, h1, h2, h3⟩ := h.ex
  refine ⟨ws, e.at_ p _ h1 bp.1 bp.2, h2, fun d hd => ?_⟩
  obtain ⟨q, ns, a, b, c, f, l⟩ := h3 d hd
  exact ⟨q, ns, a, b, c, e.at_ q _ f b.1 b.2, l⟩
theorem WaysP.write {N : Md} {st cs p q : Addr} {n k : Nat} {ns : List Int} (h : WaysP N st cs p n k) (ne : q ≠ p) (l : ns.length = n) : WaysP (put N q (.lst (iL ns))) st cs p n k := by
  obtain ⟨ws, h1, h2, h3⟩ := h.ex
  refine ⟨ws, by rw [put_ne (Ne.symm ne)]; exact h1, h2, fun d hd => ?_⟩
  obtain ⟨q', ns', a, b, c, f, l'⟩ := h3 d hd
  by_cases z : q' = q
  · exact ⟨q', ns, a, b, c, by rw [z, put_same], l⟩
  · exact ⟨q', ns', a, b, c, by rw [put_ne z]; exact f, l'⟩
theorem WaysP.app {N : Md} {st cs p q : Addr} {n k : Nat} {ns : List Int} {ws : List D} (h : WaysP N st cs p n k) (e : N p = some (.lst ws)) (b : Bs st cs q) (ne : q ≠ p) (f : N q = some (.lst (iL ns))) (l : ns.length = n) : WaysP (put N p (.lst (ws ++ [.ref q]))) st cs p n (k + 1) := by
  obtain ⟨ws', h1, h2, h3⟩ := h.ex
  rw [e] at h1
  cases h1
  refine ⟨_, put_same, by rw [List.length_append, h2]; rfl, fun d hd => ?_⟩
  rcases List.mem_append.mp hd with hd | hd
  · obtain ⟨q', ns', a, b, c, f, l'⟩ := h3 d hd
    exact ⟨q', ns', a, b, c, by rw [put_ne c]; exact f, l'⟩
  · exact ⟨q, ns, List.mem_singleton.mp hd, b, ne, by rw [put_ne ne]; exact f, l⟩
theorem p__law_draw_steps (h : sp__law_draw_steps K ds M Q X) : t__law_draw_steps K (outD Q X) (startD N__law_draw_steps ds) M := by
  obtain ⟨st, cs, n, rfl, s, n0, n1, h⟩ := h
  simp only [N__law_draw_steps, startD, List.map_cons, List.map_nil, List.length_cons, List.length_nil, Nat.zero_add, Nat.reduceAdd, Nat.reduceSub, List.replicate_succ, List.replicate_zero, List.cons_append, List.nil_append]
  unfold t__law_draw_steps
  refine tSq_step fun T hT => ?_
  simp only [wipeD, items_tup, items_lst, items_rng, tupleD, seqA_tup, seqA_lst, tSq, tIf', tTs, tO, tV, tK, tTr, truD, tNo, tAn, tOr', tAnV, tOrV', tNoV, tIfE, tN0, tCo, tTu, tLs, tCl, tFn, tMh, tRt, tRt0, tNx, tEx, tSe, tAs, gN, gS, gT, gsc, gs0, tU, i2_ii, i2c_ii, rNegD, intC, absD, minD, isD, eqi, eqs, eqb, nei, nes, neb, DL.rIsD, DL.rIsnD, addi, muli, tMe, tMe0, tBk, tCt, outD, EndsD.xk, startD, optP_some, List.map_cons, List.map_nil, List.length_cons, List.length_nil, List.cons_append, List.nil_append, List.append_nil, List.set_cons_zero, List.set_cons_succ, List.set_nil, List.getElem?_cons_zero, List.getElem?_cons_succ, List.replicate_succ, List.replicate_zero, Nat.zero_add, Nat.reduceAdd, Nat.reduceSub, decide_eq_true_eq, Bool.not_eq_true', decide_eq_false_iff_not]
  refine ⟨st, cs, 3, rfl, s, by decide, by decide, fun r N r0 r1 e1 z1 s1 => ?_⟩
  obtain ⟨th, hth⟩ : ∃ th, th = 2 + r := ⟨_, rfl⟩
  rw [addi, ← hth]
  have t0 : 0 < th := by omega
  have t1 : th < 1000000 := by omega
  clear e1 z1 s
  subst hT
  refine tSq_step fun T hT => ?_
  simp only [tLsM, wipeD, items_tup, items_lst, items_rng, tupleD, seqA_tup, seqA_lst, tSq, tIf', tTs, tO, tV, tK, tTr, truD, tNo, tAn, tOr', tAnV, tOrV', tNoV, tIfE, tN0, tCo, tTu, tLs, tCl, tFn, tMh, tRt, tRt0, tNx, tEx, tSe, tAs, gN, gS, gT, gsc, gs0, tU, i2_ii, i2c_ii, rNegD, intC, absD, minD, isD, eqi, eqs, eqb, nei, nes, neb, DL.rIsD, DL.rIsnD, addi, muli, tMe, tMe0, tBk, tCt, outD, EndsD.xk, startD, optP_some, List.map_cons, List.map_nil, List.length_cons, List.length_nil, List.cons_append, List.nil_append, List.append_nil, List.set_cons_zero, List.set_cons_succ, List.set_nil, List.getElem?_cons_zero, List.getElem?_cons_succ, List.replicate_succ, List.replicate_zero, Nat.zero_add, Nat.reduceAdd, Nat.reduceSub, decide_eq_true_eq, Bool.not_eq_true', decide_eq_false_iff_not]
  refine ⟨by rw [sizeLine_eq]; decide, fun p hp => ?_⟩
  have bp := Bs_new s1 hp
  subst hT
  refine tSq_step fun T hT => ?_
  simp only [tFo, tIR1, wipeD, items_tup, items_lst, items_rng, tupleD, seqA_tup, seqA_lst, tSq, tIf', tTs, tO, tV, tK, tTr, truD, tNo, tAn, tOr', tAnV, tOrV', tNoV, tIfE, tN0, tCo, tTu, tLs, tCl, tFn, tMh, tRt, tRt0, tNx, tEx, tSe, tAs, gN, gS, gT, gsc, gs0, tU, i2_ii, i2c_ii, rNegD, intC, absD, minD, isD, eqi, eqs, eqb, nei, nes, neb, DL.rIsD, DL.rIsnD, addi, muli, tMe, tMe0, tBk, tCt, outD, EndsD.xk, startD, optP_some, List.map_cons, List.map_nil, List.length_cons, List.length_nil, List.cons_append, List.nil_append, List.append_nil, List.set_cons_zero, List.set_cons_succ, List.set_nil, List.getElem?_cons_zero, List.getElem?_cons_succ, List.replicate_succ, List.replicate_zero, Nat.zero_add, Nat.reduceAdd, Nat.reduceSub, decide_eq_true_eq, Bool.not_eq_true', decide_eq_false_iff_not]
  refine ⟨⟨by decide, by decide⟩, ?_⟩
  refine forGo_range (n := 3) (P := fun k δ N => (∃ a b c d, δ = [some (.ref st), some (.int n), some (.int th), some (.ref p), a, b, c, d]) ∧ StOk N st cs ∧ WaysP N st cs p n.toNat k) (fun δ N hP => ?_) (fun k hk δ N hP R hR => ⟨trivial, ?_⟩) ⟨⟨_, _, _, _, rfl⟩, s1.put bp, [], put_same, rfl, fun _ z => nomatch z⟩
  · obtain ⟨⟨a, b, c, d, rfl⟩, sN, wN⟩ := hP
    obtain ⟨ws, h1, h2, h3⟩ := wN.ex
    subst hT
    simp only [wipeD, items_tup, items_lst, items_rng, tupleD, seqA_tup, seqA_lst, tSq, tIf', tTs, tO, tV, tK, tTr, truD, tNo, tAn, tOr', tAnV, tOrV', tNoV, tIfE, tN0, tCo, tTu, tLs, tCl, tFn, tMh, tRt, tRt0, tNx, tEx, tSe, tAs, gN, gS, gT, gsc, gs0, tU, i2_ii, i2c_ii, rNegD, intC, absD, minD, isD, eqi, eqs, eqb, nei, nes, neb, DL.rIsD, DL.rIsnD, addi, muli, tMe, tMe0, tBk, tCt, outD, EndsD.xk, startD, optP_some, List.map_cons, List.map_nil, List.length_cons, List.length_nil, List.cons_append, List.nil_append, List.append_nil, List.set_cons_zero, List.set_cons_succ, List.set_nil, List.getElem?_cons_zero, List.getElem?_cons_succ, List.replicate_succ, List.replicate_zero, Nat.zero_add, Nat.reduceAdd, Nat.reduceSub, decide_eq_true_eq, Bool.not_eq_true', decide_eq_false_iff_not]
    refine ⟨trivial, out_ret (h p N sN ⟨ws, bp, h1, h2, fun d hd => ?_⟩)⟩
    obtain ⟨q, ns, a, b, c, f, l⟩ := h3 d hd
    exact ⟨q, ns, a, b, f, l⟩
  · obtain ⟨⟨a, b, c, d, rfl⟩, sN, wN⟩ := hP
    simp only [gN, List.set_cons_zero, List.set_cons_succ]
    refine tSq_step fun T2 hT2 => ?_
    simp only [wipeD, items_tup, items_lst, items_rng, tupleD, seqA_tup, seqA_lst, tSq, tIf', tTs, tO, tV, tK, tTr, truD, tNo, tAn, tOr', tAnV, tOrV', tNoV, tIfE, tN0, tCo, tTu, tLs, tCl, tFn, tMh, tRt, tRt0, tNx, tEx, tSe, tAs, gN, gS, gT, gsc, gs0, tU, i2_ii, i2c_ii, rNegD, intC, absD, minD, isD, eqi, eqs, eqb, nei, nes, neb, DL.rIsD, DL.rIsnD, addi, muli, tMe, tMe0, tBk, tCt, outD, EndsD.xk, startD, optP_some, List.map_cons, List.map_nil, List.length_cons, List.length_nil, List.cons_append, List.nil_append, List.append_nil, List.set_cons_zero, List.set_cons_succ, List.set_nil, List.getElem?_cons_zero, List.getElem?_cons_succ, List.replicate_succ, List.replicate_zero, Nat.zero_add, Nat.reduceAdd, Nat.reduceSub, decide_eq_true_eq, Bool.not_eq_true', decide_eq_false_iff_not, mulM_eq]
    refine ⟨by rw [sizeLine_eq]; decide, ⟨by omega, by omega⟩, by rw [sizeLine_eq]; omega, fun q hq => ?_⟩
    have bq := Bs_new sN hq
    have qp : q ≠ p := fun z => by
      obtain ⟨ws, h1, h2, h3⟩ := wN.ex
      subst z
      rw [hq] at h1
      cases h1
    subst hT2
    refine tSq_step fun T2 hT2 => ?_
    simp only [tFo, tIR1, wipeD, items_tup, items_lst, items_rng, tupleD, seqA_tup, seqA_lst, tSq, tIf', tTs, tO, tV, tK, tTr, truD, tNo, tAn, tOr', tAnV, tOrV', tNoV, tIfE, tN0, tCo, tTu, tLs, tCl, tFn, tMh, tRt, tRt0, tNx, tEx, tSe, tAs, gN, gS, gT, gsc, gs0, tU, i2_ii, i2c_ii, rNegD, intC, absD, minD, isD, eqi, eqs, eqb, nei, nes, neb, DL.rIsD, DL.rIsnD, addi, muli, tMe, tMe0, tBk, tCt, outD, EndsD.xk, startD, optP_some, List.map_cons, List.map_nil, List.length_cons, List.length_nil, List.cons_append, List.nil_append, List.append_nil, List.set_cons_zero, List.set_cons_succ, List.set_nil, List.getElem?_cons_zero, List.getElem?_cons_succ, List.replicate_succ, List.replicate_zero, Nat.zero_add, Nat.reduceAdd, Nat.reduceSub, decide_eq_true_eq, Bool.not_eq_true', decide_eq_false_iff_not]
    refine ⟨⟨by omega, by omega⟩, ?_⟩
    have inner : ∀ {N : Md} {E : EndsD} {x : Nat} {c d : Option D}, (x : Int) < n → StOk N st cs → WaysP N st cs p n.toNat k → (∃ ns, N q = some (.lst (iL ns)) ∧ ns.length = n.toNat) →
        (∀ N d, StOk N st cs → WaysP N st cs p n.toNat k → (∃ ns, N q = some (.lst (iL ns)) ∧ ns.length = n.toNat) → E.nx [some (.ref st), some (.int n), some (.int th), some (.ref p), some (.int k), some (.ref q), some (.int x), d] N) →
        tFo (tIR1 (tCo (tV 1) tN0)) (gN 7) (tIf' (tTs (tO DL.rEqD (tFn (sp__law_take K) [] (tCo (tV 0) (tCo (tV 2) tN0))) (tK (.int 0)))) (tAs (tO rOrD (tO rIxD (tV 5) (tV 6)) (tO rShlD (tK (.int 1)) (tV 7))) (gS (tV 5) (tV 6))) tNx) E [some (.ref st), some (.int n), some (.int th), some (.ref p), some (.int k), some (.ref q), some (.int x), d] N := fun {N E x c d} hx sN wN qN hE => by
      simp only [tFo, tIR1, wipeD, items_tup, items_lst, items_rng, tupleD, seqA_tup, seqA_lst, tSq, tIf', tTs, tO, tV, tK, tTr, truD, tNo, tAn, tOr', tAnV, tOrV', tNoV, tIfE, tN0, tCo, tTu, tLs, tCl, tFn, tMh, tRt, tRt0, tNx, tEx, tSe, tAs, gN, gS, gT, gsc, gs0, tU, i2_ii, i2c_ii, rNegD, intC, absD, minD, isD, eqi, eqs, eqb, nei, nes, neb, DL.rIsD, DL.rIsnD, addi, muli, tMe, tMe0, tBk, tCt, outD, EndsD.xk, startD, optP_some, List.map_cons, List.map_nil, List.length_cons, List.length_nil, List.cons_append, List.nil_append, List.append_nil, List.set_cons_zero, List.set_cons_succ, List.set_nil, List.getElem?_cons_zero, List.getElem?_cons_succ, List.replicate_succ, List.replicate_zero, Nat.zero_add, Nat.reduceAdd, Nat.reduceSub, decide_eq_true_eq, Bool.not_eq_true', decide_eq_false_iff_not]
      refine ⟨⟨by omega, by omega⟩, ?_⟩
      refine forGo_range (P := fun y δ N => (∃ d, δ = [some (.ref st), some (.int n), some (.int th), some (.ref p), some (.int k), some (.ref q), some (.int x), d]) ∧ StOk N st cs ∧ WaysP N st cs p n.toNat k ∧ (∃ ns, N q = some (.lst (iL ns)) ∧ ns.length = n.toNat)) (fun δ N hP => ?_) (fun y hy δ N hP R hR => ⟨trivial, ?_⟩) ⟨⟨_, rfl⟩, sN, wN, qN⟩
      · obtain ⟨⟨d, rfl⟩, sN, wN, qN⟩ := hP
        exact ⟨trivial, hE _ _ sN wN qN⟩
      · obtain ⟨⟨d, rfl⟩, sN, wN, ns, hq, lq⟩ := hP
        simp only [wipeD, items_tup, items_lst, items_rng, tupleD, seqA_tup, seqA_lst, tSq, tIf', tTs, tO, tV, tK, tTr, truD, tNo, tAn, tOr', tAnV, tOrV', tNoV, tIfE, tN0, tCo, tTu, tLs, tCl, tFn, tMh, tRt, tRt0, tNx, tEx, tSe, tAs, gN, gS, gT, gsc, gs0, tU, i2_ii, i2c_ii, rNegD, intC, absD, minD, isD, eqi, eqs, eqb, nei, nes, neb, DL.rIsD, DL.rIsnD, addi, muli, tMe, tMe0, tBk, tCt, outD, EndsD.xk, startD, optP_some, List.map_cons, List.map_nil, List.length_cons, List.length_nil, List.cons_append, List.nil_append, List.append_nil, List.set_cons_zero, List.set_cons_succ, List.set_nil, List.getElem?_cons_zero, List.getElem?_cons_succ, List.replicate_succ, List.replicate_zero, Nat.zero_add, Nat.reduceAdd, Nat.reduceSub, decide_eq_true_eq, Bool.not_eq_true', decide_eq_false_iff_not]
        refine ⟨st, cs, th, rfl, sN, t0, t1, fun r N2 r0 r1 e2 z2 s2 => ?_⟩
        have hq2 := e2.at_ q _ hq bq.1 bq.2
        simp only [wipeD, items_tup, items_lst, items_rng, tupleD, seqA_tup, seqA_lst, tSq, tIf', tTs, tO, tV, tK, tTr, truD, tNo, tAn, tOr', tAnV, tOrV', tNoV, tIfE, tN0, tCo, tTu, tLs, tCl, tFn, tMh, tRt, tRt0, tNx, tEx, tSe, tAs, gN, gS, gT, gsc, gs0, tU, i2_ii, i2c_ii, rNegD, intC, absD, minD, isD, eqi, eqs, eqb, nei, nes, neb, DL.rIsD, DL.rIsnD, addi, muli, tMe, tMe0, tBk, tCt, outD, EndsD.xk, startD, optP_some, List.map_cons, List.map_nil, List.length_cons, List.length_nil, List.cons_append, List.nil_append, List.append_nil, List.set_cons_zero, List.set_cons_succ, List.set_nil, List.getElem?_cons_zero, List.getElem?_cons_succ, List.replicate_succ, List.replicate_zero, Nat.zero_add, Nat.reduceAdd, Nat.reduceSub, decide_eq_true_eq, Bool.not_eq_true', decide_eq_false_iff_not, ix_eq (seqA_ref hq2) (atI_iL (ns := ns) (i := (x : Int)) (by omega) (by omega))]
        split
        · simp only [setD_eq hq2 (j := (x : Int)) (by omega) (by rw [iL_len]; omega), iL_set]
          exact ⟨⟨by omega, by omega, by decide⟩, hR _ _ ⟨⟨_, rfl⟩, s2.put bq, (wN.keep bp e2).write qp (by rw [List.length_set]; exact lq), _, put_same, by rw [List.length_set]; exact lq⟩⟩
        · exact hR _ _ ⟨⟨_, rfl⟩, s2, wN.keep bp e2, ns, hq2, lq⟩
    have l0 : (List.replicate n.toNat (0 : Int)).length = n.toNat := List.length_replicate
    refine forGo_range (P := fun x δ N => (∃ c d, δ = [some (.ref st), some (.int n), some (.int th), some (.ref p), some (.int k), some (.ref q), c, d]) ∧ StOk N st cs ∧ WaysP N st cs p n.toNat k ∧ (∃ ns, N q = some (.lst (iL ns)) ∧ ns.length = n.toNat)) (fun δ N hP => ?_) (fun x hx δ N hP R' hR' => ⟨trivial, ?_⟩) ⟨⟨_, _, rfl⟩, sN.put bq, wN.write qp l0, _, put_same, l0⟩
    · obtain ⟨⟨c, d, rfl⟩, sN, wN, ns, hq, lq⟩ := hP
      obtain ⟨ws, h1, h2, h3⟩ := wN.ex
      subst hT2
      simp only [wipeD, items_tup, items_lst, items_rng, tupleD, seqA_tup, seqA_lst, tSq, tIf', tTs, tO, tV, tK, tTr, truD, tNo, tAn, tOr', tAnV, tOrV', tNoV, tIfE, tN0, tCo, tTu, tLs, tCl, tFn, tMh, tRt, tRt0, tNx, tEx, tSe, tAs, gN, gS, gT, gsc, gs0, tU, i2_ii, i2c_ii, rNegD, intC, absD, minD, isD, eqi, eqs, eqb, nei, nes, neb, DL.rIsD, DL.rIsnD, addi, muli, tMe, tMe0, tBk, tCt, outD, EndsD.xk, startD, optP_some, List.map_cons, List.map_nil, List.length_cons, List.length_nil, List.cons_append, List.nil_append, List.append_nil, List.set_cons_zero, List.set_cons_succ, List.set_nil, List.getElem?_cons_zero, List.getElem?_cons_succ, List.replicate_succ, List.replicate_zero, Nat.zero_add, Nat.reduceAdd, Nat.reduceSub, decide_eq_true_eq, Bool.not_eq_true', decide_eq_false_iff_not]
      refine ⟨trivial, isLs_ref h1, ?_⟩
      rw [app_eq h1]
      exact ⟨by rw [sizeLine_eq]; omega, hR _ _ ⟨⟨_, _, _, _, rfl⟩, sN.put bp, wN.app h1 bq qp hq lq⟩⟩
    · obtain ⟨⟨c, d, rfl⟩, sN, wN, qN⟩ := hP
      simp only [gN, List.set_cons_zero, List.set_cons_succ]
      exact inner (c := c) (by omega) sN wN qN fun N d sN wN qN => hR' _ _ ⟨⟨_, _, rfl⟩, sN, wN, qN⟩
end K63
namespace K63
open PySem PySem.Spec PyProof.Rows L2 DL
variable [B : Obs] {K : PySem.W.Frag} {mg : Str → Option Value} {P : Program} {ds : List D} {M : Md} {Q : VD} {X : XD}
theorem TabG.up {S S' : Addr → Prop} {ok : List Int → Prop} {okl : Nat → Prop} {k : Nat} {t : Addr} (h : TabG M S ok okl k t) (e : ∀ a, S a → S' a) : TabG M S' ok okl k t := by
  obtain ⟨tm, rows, rs, s1, s2, ne, h1, h2, h3, h4, h5, h6⟩ := h.ex
  have row : ∀ {d}, (∃ ns, RowE M S t tm d ns ∧ ok ns) → ∃ ns, RowE M S' t tm d ns ∧ ok ns := fun ⟨ns, ⟨p, a, b, c, d, f⟩, o⟩ => ⟨ns, ⟨p, a, e p b, c, d, f⟩, o⟩
  exact ⟨tm, rows, rs, e _ s1, e _ s2, ne, h1, h2, fun d hd => row (h3 d hd), h4, h5, fun d hd => row (h6 d hd)⟩
theorem wf_zeros {n : Int} (h : 0 < n) : WfR n (List.replicate n.toNat 0) := .of (by rw [List.length_replicate]; omega) fun x hx => by
  rw [(List.mem_replicate.mp hx).2]
  omega
theorem p__law_set_tables (h : sp__law_set_tables K ds M Q X) : t__law_set_tables K (outD Q X) (startD N__law_set_tables ds) M := by
  obtain ⟨st, cs, p, o, k, ns, rfl, s, w, ho, wo, hk, h⟩ := h
  obtain ⟨ws, bp, hw, lw, hws⟩ := w.ex
  have bn : (1 : Int) ≤ 2 ^ k ∧ (2 : Int) ^ k ≤ 32 := by
    have : k = 0 ∨ k = 1 ∨ k = 2 ∨ k = 3 ∨ k = 4 ∨ k = 5 := by omega
    rcases this with rfl | rfl | rfl | rfl | rfl | rfl <;> decide
  obtain ⟨n, hn⟩ : ∃ n : Int, n = 2 ^ k := ⟨_, rfl⟩
  rw [← hn] at bn wo h
  have ln := wo.len
  obtain ⟨n0, n1⟩ := bn
  -- what stood stays
  have sK : ∀ {N}, Sub M N → StOk N st cs := fun z => by
    obtain ⟨ns, i, c, e1, e2, e3⟩ := s.ex
    exact ⟨ns, i, c, z _ _ e1, z _ _ e2, e3⟩
  simp only [N__law_set_tables, startD, List.map_cons, List.map_nil, List.length_cons, List.length_nil, Nat.zero_add, Nat.reduceAdd, Nat.reduceSub, List.replicate_succ, List.replicate_zero, List.cons_append, List.nil_append]
  unfold t__law_set_tables
  refine tSq_step fun T hT => ?_
  simp only [wipeD, items_tup, items_lst, items_rng, tupleD, seqA_tup, seqA_lst, tSq, tIf', tTs, tO, tV, tK, tTr, truD, tNo, tAn, tOr', tAnV, tOrV', tNoV, tIfE, tN0, tCo, tTu, tLs, tCl, tFn, tMh, tRt, tRt0, tNx, tEx, tSe, tAs, gN, gS, gT, gsc, gs0, tU, i2_ii, i2c_ii, rNegD, intC, absD, minD, isD, eqi, eqs, eqb, nei, nes, neb, DL.rIsD, DL.rIsnD, addi, muli, tMe, tMe0, tBk, tCt, outD, EndsD.xk, startD, optP_some, List.map_cons, List.map_nil, List.length_cons, List.length_nil, List.cons_append, List.nil_append, List.append_nil, List.set_cons_zero, List.set_cons_succ, List.set_nil, List.getElem?_cons_zero, List.getElem?_cons_succ, List.replicate_succ, List.replicate_zero, Nat.zero_add, Nat.reduceAdd, Nat.reduceSub, decide_eq_true_eq, Bool.not_eq_true', decide_eq_false_iff_not, len_eq (seqA_ref ho), iL_len, ln]
  subst hT
  refine tSq_step fun T hT => ?_
  simp only [tLsM, wipeD, items_tup, items_lst, items_rng, tupleD, seqA_tup, seqA_lst, tSq, tIf', tTs, tO, tV, tK, tTr, truD, tNo, tAn, tOr', tAnV, tOrV', tNoV, tIfE, tN0, tCo, tTu, tLs, tCl, tFn, tMh, tRt, tRt0, tNx, tEx, tSe, tAs, gN, gS, gT, gsc, gs0, tU, i2_ii, i2c_ii, rNegD, intC, absD, minD, isD, eqi, eqs, eqb, nei, nes, neb, DL.rIsD, DL.rIsnD, addi, muli, tMe, tMe0, tBk, tCt, outD, EndsD.xk, startD, optP_some, List.map_cons, List.map_nil, List.length_cons, List.length_nil, List.cons_append, List.nil_append, List.append_nil, List.set_cons_zero, List.set_cons_succ, List.set_nil, List.getElem?_cons_zero, List.getElem?_cons_succ, List.replicate_succ, List.replicate_zero, Nat.zero_add, Nat.reduceAdd, Nat.reduceSub, decide_eq_true_eq, Bool.not_eq_true', decide_eq_false_iff_not]
  refine ⟨by rw [sizeLine_eq]; decide, fun tm htm => ⟨by rw [sizeLine_eq]; decide, fun t ht => ?_⟩⟩
  have tt : t ≠ tm := fun z => by subst z; rw [put_same] at ht; cases ht
  rw [put_ne tt] at ht
  subst hT
  refine tSq_step fun T hT => ?_
  simp only [tFo, tIR1, wipeD, items_tup, items_lst, items_rng, tupleD, seqA_tup, seqA_lst, tSq, tIf', tTs, tO, tV, tK, tTr, truD, tNo, tAn, tOr', tAnV, tOrV', tNoV, tIfE, tN0, tCo, tTu, tLs, tCl, tFn, tMh, tRt, tRt0, tNx, tEx, tSe, tAs, gN, gS, gT, gsc, gs0, tU, i2_ii, i2c_ii, rNegD, intC, absD, minD, isD, eqi, eqs, eqb, nei, nes, neb, DL.rIsD, DL.rIsnD, addi, muli, tMe, tMe0, tBk, tCt, outD, EndsD.xk, startD, optP_some, List.map_cons, List.map_nil, List.length_cons, List.length_nil, List.cons_append, List.nil_append, List.append_nil, List.set_cons_zero, List.set_cons_succ, List.set_nil, List.getElem?_cons_zero, List.getElem?_cons_succ, List.replicate_succ, List.replicate_zero, Nat.zero_add, Nat.reduceAdd, Nat.reduceSub, decide_eq_true_eq, Bool.not_eq_true', decide_eq_false_iff_not]
  refine ⟨⟨by omega, by omega⟩, ?_⟩
  have row0 : ∀ {N : Md} {q : Addr} {c : MC}, N q = none → (∃ x, N t = some x) → (∃ x, N tm = some x) → q ≠ t ∧ q ≠ tm := fun {N q c} hq ⟨x, hx⟩ ⟨y, hy⟩ => ⟨fun z => (by subst z; rw [hq] at hx; cases hx), fun z => (by subst z; rw [hq] at hy; cases hy)⟩
  refine forGo_range (P := fun e δ N => (∃ a b c d, δ = [some (.ref p), some (.ref o), some (.int n), some (.ref t), a, b, c, d]) ∧ Sub M N ∧ N t = some (.lst [.ref tm]) ∧ ∃ rows, N tm = some (.lst rows) ∧ rows.length = e ∧ ∀ d ∈ rows, ∃ ns, RowE N (fun a => M a = none) t tm d ns ∧ WfR n ns) (fun δ N hP => ?_) (fun e he δ N hP R hR => ⟨trivial, ?_⟩) ⟨⟨_, _, _, _, rfl⟩, (Sub.put (fun _ _ z => z) htm).put ht, put_same, [], by rw [put_ne (Ne.symm tt), put_same], rfl, fun _ z => nomatch z⟩
  · obtain ⟨⟨a, b, c, d, rfl⟩, sN, h1, rows, h2, h3, h4⟩ := hP
    refine ⟨trivial, ?_⟩
    have g0 : TabN N (fun a => M a = none) n 0 t := ⟨tm, rows, [], ht, htm, tt, h1, rfl, (fun _ z => nomatch z), h2, (by omega), h4⟩
    subst hT
    dsimp only
    refine tSq_step fun T hT => ?_
    simp only [tFo, tIR1, wipeD, items_tup, items_lst, items_rng, tupleD, seqA_tup, seqA_lst, tSq, tIf', tTs, tO, tV, tK, tTr, truD, tNo, tAn, tOr', tAnV, tOrV', tNoV, tIfE, tN0, tCo, tTu, tLs, tCl, tFn, tMh, tRt, tRt0, tNx, tEx, tSe, tAs, gN, gS, gT, gsc, gs0, tU, i2_ii, i2c_ii, rNegD, intC, absD, minD, isD, eqi, eqs, eqb, nei, nes, neb, DL.rIsD, DL.rIsnD, addi, muli, tMe, tMe0, tBk, tCt, outD, EndsD.xk, startD, optP_some, List.map_cons, List.map_nil, List.length_cons, List.length_nil, List.cons_append, List.nil_append, List.append_nil, List.set_cons_zero, List.set_cons_succ, List.set_nil, List.getElem?_cons_zero, List.getElem?_cons_succ, List.replicate_succ, List.replicate_zero, Nat.zero_add, Nat.reduceAdd, Nat.reduceSub, decide_eq_true_eq, Bool.not_eq_true', decide_eq_false_iff_not]
    refine ⟨⟨by omega, by omega⟩, ?_⟩
    refine forGo_range (n := 4) (P := fun j δ N => (∃ a b c d, δ = [some (.ref p), some (.ref o), some (.int n), some (.ref t), a, b, c, d]) ∧ Sub M N ∧ TabN N (fun a => M a = none) n j t) (fun δ N hP => ?_) (fun j hj δ N hP R hR => ⟨trivial, ?_⟩) ⟨⟨_, _, _, _, rfl⟩, sN, g0⟩
    · obtain ⟨⟨a, b, c, d, rfl⟩, sN, tN⟩ := hP
      refine ⟨trivial, ?_⟩
      subst hT
      dsimp only
      refine tSq_step fun T hT => ?_
      simp only [tFo, tIR1, wipeD, items_tup, items_lst, items_rng, tupleD, seqA_tup, seqA_lst, tSq, tIf', tTs, tO, tV, tK, tTr, truD, tNo, tAn, tOr', tAnV, tOrV', tNoV, tIfE, tN0, tCo, tTu, tLs, tCl, tFn, tMh, tRt, tRt0, tNx, tEx, tSe, tAs, gN, gS, gT, gsc, gs0, tU, i2_ii, i2c_ii, rNegD, intC, absD, minD, isD, eqi, eqs, eqb, nei, nes, neb, DL.rIsD, DL.rIsnD, addi, muli, tMe, tMe0, tBk, tCt, outD, EndsD.xk, startD, optP_some, List.map_cons, List.map_nil, List.length_cons, List.length_nil, List.cons_append, List.nil_append, List.append_nil, List.set_cons_zero, List.set_cons_succ, List.set_nil, List.getElem?_cons_zero, List.getElem?_cons_succ, List.replicate_succ, List.replicate_zero, Nat.zero_add, Nat.reduceAdd, Nat.reduceSub, decide_eq_true_eq, Bool.not_eq_true', decide_eq_false_iff_not]
      refine ⟨⟨by omega, by omega⟩, ?_⟩
      -- one write
      have wr : ∀ {N : Md} {tm p : Addr} {ns : List Int} {xs : List D} {y v : Int}, Sub M N → TabN N (fun a => M a = none) n 4 t → RowE N (fun a => M a = none) t tm (.ref p) ns → N t = some (.lst (.ref tm :: xs)) → WfR n ns → M p = none → 0 ≤ y → y < n → 0 ≤ v → v < n →
          Sub M (put N p (.lst (iL (ns.set y.toNat v)))) ∧ TabN (put N p (.lst (iL (ns.set y.toNat v)))) (fun a => M a = none) n 4 t := fun {N tm p ns xs y v} s g r ht w sp y0 y1 v0 v1 => by
        have := w.len
        exact ⟨s.put sp, g.write ⟨⟨tm, ns, r, xs, ht⟩, w.set (by omega) v0 v1⟩⟩
      have oat : ∀ {N : Md} {x : Int} {Q : VD}, Sub M N → 0 ≤ x → x < n → rIxD (.ref o) (.int x) N Q = Q (.int (gi ns x)) N := fun {N x Q} sN x0 x1 => ix_eq (seqA_ref (sN o _ ho)) (wo.at x0 x1)
      refine forGo_range (P := fun e δ N => (∃ a b c d, δ = [some (.ref p), some (.ref o), some (.int n), some (.ref t), a, b, c, d]) ∧ Sub M N ∧ TabN N (fun a => M a = none) n 4 t) (fun δ N hP => ?_) (fun e he δ N hP R hR => ⟨trivial, ?_⟩) ⟨⟨_, _, _, _, rfl⟩, sN, tN⟩
      · obtain ⟨⟨a, b, c, d, rfl⟩, sN, tN⟩ := hP
        subst hT
        simp only [wipeD, items_tup, items_lst, items_rng, tupleD, seqA_tup, seqA_lst, tSq, tIf', tTs, tO, tV, tK, tTr, truD, tNo, tAn, tOr', tAnV, tOrV', tNoV, tIfE, tN0, tCo, tTu, tLs, tCl, tFn, tMh, tRt, tRt0, tNx, tEx, tSe, tAs, gN, gS, gT, gsc, gs0, tU, i2_ii, i2c_ii, rNegD, intC, absD, minD, isD, eqi, eqs, eqb, nei, nes, neb, DL.rIsD, DL.rIsnD, addi, muli, tMe, tMe0, tBk, tCt, outD, EndsD.xk, startD, optP_some, List.map_cons, List.map_nil, List.length_cons, List.length_nil, List.cons_append, List.nil_append, List.append_nil, List.set_cons_zero, List.set_cons_succ, List.set_nil, List.getElem?_cons_zero, List.getElem?_cons_succ, List.replicate_succ, List.replicate_zero, Nat.zero_add, Nat.reduceAdd, Nat.reduceSub, decide_eq_true_eq, Bool.not_eq_true', decide_eq_false_iff_not]
        exact ⟨trivial, out_ret (h t N (sK sN) (tN.up fun a z => Bs_new s z))⟩
      · obtain ⟨⟨a, b, c, d, rfl⟩, sN, tN⟩ := hP
        have he' : (e : Int) < n := by omega
        simp only [DL.gN, List.set_cons_zero, List.set_cons_succ]
        refine tSq_step fun T2 hT2 => ?_
        simp only [wipeD, items_tup, items_lst, items_rng, tupleD, seqA_tup, seqA_lst, tSq, tIf', tTs, tO, tV, tK, tTr, truD, tNo, tAn, tOr', tAnV, tOrV', tNoV, tIfE, tN0, tCo, tTu, tLs, tCl, tFn, tMh, tRt, tRt0, tNx, tEx, tSe, tAs, gN, gS, gT, gsc, gs0, tU, i2_ii, i2c_ii, rNegD, intC, absD, minD, isD, eqi, eqs, eqb, nei, nes, neb, DL.rIsD, DL.rIsnD, addi, muli, tMe, tMe0, tBk, tCt, outD, EndsD.xk, startD, optP_some, List.map_cons, List.map_nil, List.length_cons, List.length_nil, List.cons_append, List.nil_append, List.append_nil, List.set_cons_zero, List.set_cons_succ, List.set_nil, List.getElem?_cons_zero, List.getElem?_cons_succ, List.replicate_succ, List.replicate_zero, Nat.zero_add, Nat.reduceAdd, Nat.reduceSub, decide_eq_true_eq, Bool.not_eq_true', decide_eq_false_iff_not, oat sN (x := (e : Int)) (by omega) he']
        have at_ := wo.rg e (by omega) he'
        generalize gi ns e = w at at_ ⊢
        obtain ⟨w0, w1⟩ := at_
        subst hT2
        refine tSq_step fun T2 hT2 => ?_
        obtain ⟨tm1, xs1, p1, ns1, k1, k2, k3, k4, k5, k6⟩ := tN.tab (x := 1) (by decide) (by decide)
        have l4 := k4.len
        simp only [wipeD, items_tup, items_lst, items_rng, tupleD, seqA_tup, seqA_lst, tSq, tIf', tTs, tO, tV, tK, tTr, truD, tNo, tAn, tOr', tAnV, tOrV', tNoV, tIfE, tN0, tCo, tTu, tLs, tCl, tFn, tMh, tRt, tRt0, tNx, tEx, tSe, tAs, gN, gS, gT, gsc, gs0, tU, i2_ii, i2c_ii, rNegD, intC, absD, minD, isD, eqi, eqs, eqb, nei, nes, neb, DL.rIsD, DL.rIsnD, addi, muli, tMe, tMe0, tBk, tCt, outD, EndsD.xk, startD, optP_some, List.map_cons, List.map_nil, List.length_cons, List.length_nil, List.cons_append, List.nil_append, List.append_nil, List.set_cons_zero, List.set_cons_succ, List.set_nil, List.getElem?_cons_zero, List.getElem?_cons_succ, List.replicate_succ, List.replicate_zero, Nat.zero_add, Nat.reduceAdd, Nat.reduceSub, decide_eq_true_eq, Bool.not_eq_true', decide_eq_false_iff_not, oat sN (x := n - 1 - e) (by omega) (by omega), ix_eq (seqA_ref k1) k2, setD_eq k5 (j := w) w0 (by rw [iL_len]; omega), iL_set]
        have b3 := wo.rg (n - 1 - e) (by omega) (by omega)
        obtain ⟨sN, tN⟩ := wr (y := w) (v := gi ns (n - 1 - e)) sN tN k3 k1 k4 k6 w0 w1 b3.1 b3.2
        clear k1 k2 k3 k5
        generalize put N p1 (.lst (iL (ns1.set w.toNat (gi ns (n - 1 - e))))) = N at sN tN ⊢
        subst hT2
        refine tSq_step fun T2 hT2 => ?_
        simp only [tFo, tIR1, wipeD, items_tup, items_lst, items_rng, tupleD, seqA_tup, seqA_lst, tSq, tIf', tTs, tO, tV, tK, tTr, truD, tNo, tAn, tOr', tAnV, tOrV', tNoV, tIfE, tN0, tCo, tTu, tLs, tCl, tFn, tMh, tRt, tRt0, tNx, tEx, tSe, tAs, gN, gS, gT, gsc, gs0, tU, i2_ii, i2c_ii, rNegD, intC, absD, minD, isD, eqi, eqs, eqb, nei, nes, neb, DL.rIsD, DL.rIsnD, addi, muli, tMe, tMe0, tBk, tCt, outD, EndsD.xk, startD, optP_some, List.map_cons, List.map_nil, List.length_cons, List.length_nil, List.cons_append, List.nil_append, List.append_nil, List.set_cons_zero, List.set_cons_succ, List.set_nil, List.getElem?_cons_zero, List.getElem?_cons_succ, List.replicate_succ, List.replicate_zero, Nat.zero_add, Nat.reduceAdd, Nat.reduceSub, decide_eq_true_eq, Bool.not_eq_true', decide_eq_false_iff_not]
        refine ⟨⟨by omega, by omega⟩, ?_⟩
        refine forGo_range (P := fun f δ N => (∃ b d, δ = [some (.ref p), some (.ref o), some (.int n), some (.ref t), some (.int e), b, some (.int w), d]) ∧ Sub M N ∧ TabN N (fun a => M a = none) n 4 t) (fun δ N hP => ?_) (fun f hf δ N hP R' hR' => ⟨trivial, ?_⟩) ⟨⟨_, _, rfl⟩, sN, tN⟩
        · obtain ⟨⟨b, d, rfl⟩, sN, tN⟩ := hP
          refine ⟨trivial, ?_⟩
          subst hT2
          simp only [tFo, tIR1, wipeD, items_tup, items_lst, items_rng, tupleD, seqA_tup, seqA_lst, tSq, tIf', tTs, tO, tV, tK, tTr, truD, tNo, tAn, tOr', tAnV, tOrV', tNoV, tIfE, tN0, tCo, tTu, tLs, tCl, tFn, tMh, tRt, tRt0, tNx, tEx, tSe, tAs, gN, gS, gT, gsc, gs0, tU, i2_ii, i2c_ii, rNegD, intC, absD, minD, isD, eqi, eqs, eqb, nei, nes, neb, DL.rIsD, DL.rIsnD, addi, muli, tMe, tMe0, tBk, tCt, outD, EndsD.xk, startD, optP_some, List.map_cons, List.map_nil, List.length_cons, List.length_nil, List.cons_append, List.nil_append, List.append_nil, List.set_cons_zero, List.set_cons_succ, List.set_nil, List.getElem?_cons_zero, List.getElem?_cons_succ, List.replicate_succ, List.replicate_zero, Nat.zero_add, Nat.reduceAdd, Nat.reduceSub, decide_eq_true_eq, Bool.not_eq_true', decide_eq_false_iff_not]
          refine ⟨⟨by omega, by omega⟩, ?_⟩
          refine forGo_range (n := 3) (P := fun j δ N => (∃ b d, δ = [some (.ref p), some (.ref o), some (.int n), some (.ref t), some (.int e), b, some (.int w), d]) ∧ Sub M N ∧ TabN N (fun a => M a = none) n 4 t) (fun δ N hP => ?_) (fun j hj δ N hP R' hR' => ⟨trivial, ?_⟩) ⟨⟨_, _, rfl⟩, sN, tN⟩
          · obtain ⟨⟨b, d, rfl⟩, sN, tN⟩ := hP
            exact ⟨trivial, hR _ _ ⟨⟨_, _, _, _, rfl⟩, sN, tN⟩⟩
          · obtain ⟨⟨b, d, rfl⟩, sN, tN⟩ := hP
            have hj' : j < ws.length := by omega
            obtain ⟨q, nq, eq_, bq, hq, lq⟩ := hws _ (List.getElem_mem hj')
            have ej : atI ws (j : Int) = some (.ref q) := by
              rw [atI_in (by omega) (by omega), Int.toNat_natCast, List.getElem?_eq_getElem hj', eq_]
            simp only [wipeD, items_tup, items_lst, items_rng, tupleD, seqA_tup, seqA_lst, tSq, tIf', tTs, tO, tV, tK, tTr, truD, tNo, tAn, tOr', tAnV, tOrV', tNoV, tIfE, tN0, tCo, tTu, tLs, tCl, tFn, tMh, tRt, tRt0, tNx, tEx, tSe, tAs, gN, gS, gT, gsc, gs0, tU, i2_ii, i2c_ii, rNegD, intC, absD, minD, isD, eqi, eqs, eqb, nei, nes, neb, DL.rIsD, DL.rIsnD, addi, muli, tMe, tMe0, tBk, tCt, outD, EndsD.xk, startD, optP_some, List.map_cons, List.map_nil, List.length_cons, List.length_nil, List.cons_append, List.nil_append, List.append_nil, List.set_cons_zero, List.set_cons_succ, List.set_nil, List.getElem?_cons_zero, List.getElem?_cons_succ, List.replicate_succ, List.replicate_zero, Nat.zero_add, Nat.reduceAdd, Nat.reduceSub, decide_eq_true_eq, Bool.not_eq_true', decide_eq_false_iff_not, ix_eq (seqA_ref (sN p _ hw)) ej]
            refine ⟨.ref q, nq, e, rfl, seqA_ref (sN q _ hq), by omega, fun r r0 r1 => ?_⟩
            rw [lq, ← hn] at r1
            have b4 := wo.rg r r0 r1
            obtain ⟨tm1, xs1, p1, ns1, k1, k2, k3, k4, k5, k6⟩ := tN.tab (x := 2 + j) (by omega) (by omega)
            have l4 := k4.len
            simp only [wipeD, items_tup, items_lst, items_rng, tupleD, seqA_tup, seqA_lst, tSq, tIf', tTs, tO, tV, tK, tTr, truD, tNo, tAn, tOr', tAnV, tOrV', tNoV, tIfE, tN0, tCo, tTu, tLs, tCl, tFn, tMh, tRt, tRt0, tNx, tEx, tSe, tAs, gN, gS, gT, gsc, gs0, tU, i2_ii, i2c_ii, rNegD, intC, absD, minD, isD, eqi, eqs, eqb, nei, nes, neb, DL.rIsD, DL.rIsnD, addi, muli, tMe, tMe0, tBk, tCt, outD, EndsD.xk, startD, optP_some, List.map_cons, List.map_nil, List.length_cons, List.length_nil, List.cons_append, List.nil_append, List.append_nil, List.set_cons_zero, List.set_cons_succ, List.set_nil, List.getElem?_cons_zero, List.getElem?_cons_succ, List.replicate_succ, List.replicate_zero, Nat.zero_add, Nat.reduceAdd, Nat.reduceSub, decide_eq_true_eq, Bool.not_eq_true', decide_eq_false_iff_not, oat sN r0 r1, ix_eq (seqA_ref k1) k2, setD_eq k5 (j := w) w0 (by rw [iL_len]; omega), iL_set]
            obtain ⟨sN, tN⟩ := wr (y := w) (v := gi ns r) sN tN k3 k1 k4 k6 w0 w1 b4.1 b4.2
            exact hR' _ _ ⟨⟨_, _, rfl⟩, sN, tN⟩
        · obtain ⟨⟨b, d, rfl⟩, sN, tN⟩ := hP
          have hf' : (f : Int) < n := by omega
          have ef := and_le (x := (e : Int)) (y := (f : Int)) (by omega) (by omega)
          obtain ⟨g, hg⟩ : ∃ g, g = Builtin.bitAnd (e : Int) (f : Int) := ⟨_, rfl⟩
          rw [← hg] at ef
          have b5 := wo.rg g ef.1 (by omega)
          have b6 := wo.rg f (by omega) hf'
          obtain ⟨tm1, rows1, xs1, p1, ns1, k1, k2, k3, k4, k5, k6, k7⟩ := tN.row w0 w1
          have l5 := k5.len
          simp only [wipeD, items_tup, items_lst, items_rng, tupleD, seqA_tup, seqA_lst, tSq, tIf', tTs, tO, tV, tK, tTr, truD, tNo, tAn, tOr', tAnV, tOrV', tNoV, tIfE, tN0, tCo, tTu, tLs, tCl, tFn, tMh, tRt, tRt0, tNx, tEx, tSe, tAs, gN, gS, gT, gsc, gs0, tU, i2_ii, i2c_ii, rNegD, intC, absD, minD, isD, eqi, eqs, eqb, nei, nes, neb, DL.rIsD, DL.rIsnD, addi, muli, tMe, tMe0, tBk, tCt, outD, EndsD.xk, startD, optP_some, List.map_cons, List.map_nil, List.length_cons, List.length_nil, List.cons_append, List.nil_append, List.append_nil, List.set_cons_zero, List.set_cons_succ, List.set_nil, List.getElem?_cons_zero, List.getElem?_cons_succ, List.replicate_succ, List.replicate_zero, Nat.zero_add, Nat.reduceAdd, Nat.reduceSub, decide_eq_true_eq, Bool.not_eq_true', decide_eq_false_iff_not, ← hg, oat sN ef.1 (by omega), oat sN (x := (f : Int)) (by omega) hf', ix_eq (seqA_ref k1) atI_0, ix_eq (seqA_ref k2) k3, setD_eq k6 (j := gi ns f) b6.1 (by rw [iL_len]; omega), iL_set]
          obtain ⟨sN, tN⟩ := wr (y := gi ns f) (v := gi ns g) sN tN k4 k1 k5 k7 b6.1 b6.2 b5.1 b5.2
          exact hR' _ _ ⟨⟨_, _, rfl⟩, sN, tN⟩
    · obtain ⟨⟨a, b, c, d, rfl⟩, sN, tN⟩ := hP
      obtain ⟨tm1, rows, rs, s1, s2, ne, h1, h2, h3, h4, h5, h6⟩ := tN.ex
      simp only [wipeD, items_tup, items_lst, items_rng, tupleD, seqA_tup, seqA_lst, tSq, tIf', tTs, tO, tV, tK, tTr, truD, tNo, tAn, tOr', tAnV, tOrV', tNoV, tIfE, tN0, tCo, tTu, tLs, tCl, tFn, tMh, tRt, tRt0, tNx, tEx, tSe, tAs, gN, gS, gT, gsc, gs0, tU, i2_ii, i2c_ii, rNegD, intC, absD, minD, isD, eqi, eqs, eqb, nei, nes, neb, DL.rIsD, DL.rIsnD, addi, muli, tMe, tMe0, tBk, tCt, outD, EndsD.xk, startD, optP_some, List.map_cons, List.map_nil, List.length_cons, List.length_nil, List.cons_append, List.nil_append, List.append_nil, List.set_cons_zero, List.set_cons_succ, List.set_nil, List.getElem?_cons_zero, List.getElem?_cons_succ, List.replicate_succ, List.replicate_zero, Nat.zero_add, Nat.reduceAdd, Nat.reduceSub, decide_eq_true_eq, Bool.not_eq_true', decide_eq_false_iff_not, mulM_eq]
      refine ⟨isLs_ref h1, by rw [sizeLine_eq]; decide, ⟨by omega, by omega⟩, by rw [sizeLine_eq]; omega, fun q hq => ?_⟩
      rw [app_eq (new_keep hq _ _ h1)]
      exact ⟨by rw [sizeLine_eq, List.length_cons]; omega, hR _ _ ⟨⟨_, _, _, _, rfl⟩, (sN.put (sN.free hq)).put ht, tN.grow (fun a c _ z => new_keep hq a c z) h1 hq (sN.free hq) put_same (wf_zeros (by omega))⟩⟩
  · obtain ⟨⟨a, b, c, d, rfl⟩, sN, h1, rows, h2, h3, h4⟩ := hP
    simp only [wipeD, items_tup, items_lst, items_rng, tupleD, seqA_tup, seqA_lst, tSq, tIf', tTs, tO, tV, tK, tTr, truD, tNo, tAn, tOr', tAnV, tOrV', tNoV, tIfE, tN0, tCo, tTu, tLs, tCl, tFn, tMh, tRt, tRt0, tNx, tEx, tSe, tAs, gN, gS, gT, gsc, gs0, tU, i2_ii, i2c_ii, rNegD, intC, absD, minD, isD, eqi, eqs, eqb, nei, nes, neb, DL.rIsD, DL.rIsnD, addi, muli, tMe, tMe0, tBk, tCt, outD, EndsD.xk, startD, optP_some, List.map_cons, List.map_nil, List.length_cons, List.length_nil, List.cons_append, List.nil_append, List.append_nil, List.set_cons_zero, List.set_cons_succ, List.set_nil, List.getElem?_cons_zero, List.getElem?_cons_succ, List.replicate_succ, List.replicate_zero, Nat.zero_add, Nat.reduceAdd, Nat.reduceSub, decide_eq_true_eq, Bool.not_eq_true', decide_eq_false_iff_not, mulM_eq, ix_eq (seqA_ref h1) atI_0]
    refine ⟨isLs_ref h2, by rw [sizeLine_eq]; decide, ⟨by omega, by omega⟩, by rw [sizeLine_eq]; omega, fun q hq => ?_⟩
    obtain ⟨q1, q2⟩ := row0 (c := .lst []) hq ⟨_, h1⟩ ⟨_, h2⟩
    rw [app_eq (new_keep hq _ _ h2)]
    refine ⟨by rw [sizeLine_eq]; omega, hR _ _ ⟨⟨_, _, _, _, rfl⟩, (sN.put (sN.free hq)).put htm, ?_, _, put_same, by rw [List.length_append, h3]; rfl, fun d hd => ?_⟩⟩
    · rw [put_ne tt]
      exact new_keep hq _ _ h1
    · rcases List.mem_append.mp hd with hd | hd
      · obtain ⟨ns, r, w⟩ := h4 d hd
        obtain ⟨q', e1, e2, e3, e4, e5⟩ := r.ex
        exact ⟨ns, ⟨q', e1, e2, e3, e4, by rw [put_ne e4]; exact new_keep hq _ _ e5⟩, w⟩
      · rw [List.mem_singleton.mp hd]
        exact ⟨_, ⟨q, rfl, sN.free hq, q1, q2, by rw [put_ne q2, put_same]⟩, wf_zeros (by omega)⟩
end K63
namespace K63
open PySem PySem.Spec PyProof.Rows L2 DL
variable [B : Obs] {K : PySem.W.Frag} {mg : Str → Option Value} {P : Program} {ds : List D} {M : Md} {Q : VD} {X : XD}
theorem p__law_built (h : sp__law_built K ds M Q X) : t__law_built K (outD Q X) (startD N__law_built ds) M := by
  obtain ⟨st, cs, rfl, s, h⟩ := h
  simp only [N__law_built, startD, List.map_cons, List.map_nil, List.length_cons, List.length_nil, Nat.zero_add, Nat.reduceAdd, Nat.reduceSub, List.replicate_succ, List.replicate_zero, List.cons_append, List.nil_append]
  unfold t__law_built
  refine tSq_step fun T hT => ?_
  simp only [wipeD, items_tup, items_lst, items_rng, tupleD, seqA_tup, seqA_lst, tSq, tIf', tTs, tO, tV, tK, tTr, truD, tNo, tAn, tOr', tAnV, tOrV', tNoV, tIfE, tN0, tCo, tTu, tLs, tCl, tFn, tMh, tRt, tRt0, tNx, tEx, tSe, tAs, gN, gS, gT, gsc, gs0, tU, i2_ii, i2c_ii, rNegD, intC, absD, minD, isD, eqi, eqs, eqb, nei, nes, neb, DL.rIsD, DL.rIsnD, addi, muli, tMe, tMe0, tBk, tCt, outD, EndsD.xk, startD, optP_some, List.map_cons, List.map_nil, List.length_cons, List.length_nil, List.cons_append, List.nil_append, List.append_nil, List.set_cons_zero, List.set_cons_succ, List.set_nil, List.getElem?_cons_zero, List.getElem?_cons_succ, List.replicate_succ, List.replicate_zero, Nat.zero_add, Nat.reduceAdd, Nat.reduceSub, decide_eq_true_eq, Bool.not_eq_true', decide_eq_false_iff_not]
  refine ⟨st, cs, 8, rfl, s, by decide, by decide, fun way N w0 w1 _ _ s => ?_⟩
  subst hT
  refine tSq_step fun T hT => ?_
  simp only [wipeD, items_tup, items_lst, items_rng, tupleD, seqA_tup, seqA_lst, tSq, tIf', tTs, tO, tV, tK, tTr, truD, tNo, tAn, tOr', tAnV, tOrV', tNoV, tIfE, tN0, tCo, tTu, tLs, tCl, tFn, tMh, tRt, tRt0, tNx, tEx, tSe, tAs, gN, gS, gT, gsc, gs0, tU, i2_ii, i2c_ii, rNegD, intC, absD, minD, isD, eqi, eqs, eqb, nei, nes, neb, DL.rIsD, DL.rIsnD, addi, muli, tMe, tMe0, tBk, tCt, outD, EndsD.xk, startD, optP_some, List.map_cons, List.map_nil, List.length_cons, List.length_nil, List.cons_append, List.nil_append, List.append_nil, List.set_cons_zero, List.set_cons_succ, List.set_nil, List.getElem?_cons_zero, List.getElem?_cons_succ, List.replicate_succ, List.replicate_zero, Nat.zero_add, Nat.reduceAdd, Nat.reduceSub, decide_eq_true_eq, Bool.not_eq_true', decide_eq_false_iff_not]
  refine ⟨st, cs, 16, rfl, s, by decide, by decide, fun r N r0 r1 _ _ s => ?_⟩
  simp only [wipeD, items_tup, items_lst, items_rng, tupleD, seqA_tup, seqA_lst, tSq, tIf', tTs, tO, tV, tK, tTr, truD, tNo, tAn, tOr', tAnV, tOrV', tNoV, tIfE, tN0, tCo, tTu, tLs, tCl, tFn, tMh, tRt, tRt0, tNx, tEx, tSe, tAs, gN, gS, gT, gsc, gs0, tU, i2_ii, i2c_ii, rNegD, intC, absD, minD, isD, eqi, eqs, eqb, nei, nes, neb, DL.rIsD, DL.rIsnD, addi, muli, tMe, tMe0, tBk, tCt, outD, EndsD.xk, startD, optP_some, List.map_cons, List.map_nil, List.length_cons, List.length_nil, List.cons_append, List.nil_append, List.append_nil, List.set_cons_zero, List.set_cons_succ, List.set_nil, List.getElem?_cons_zero, List.getElem?_cons_succ, List.replicate_succ, List.replicate_zero, Nat.zero_add, Nat.reduceAdd, Nat.reduceSub, decide_eq_true_eq, Bool.not_eq_true', decide_eq_false_iff_not]
  obtain ⟨g, hg⟩ : ∃ g : Bool, g = decide (r = 9) := ⟨_, rfl⟩
  rw [← hg]
  subst hT
  refine tSq_step fun T hT => ?_
  simp only [wipeD, items_tup, items_lst, items_rng, tupleD, seqA_tup, seqA_lst, tSq, tIf', tTs, tO, tV, tK, tTr, truD, tNo, tAn, tOr', tAnV, tOrV', tNoV, tIfE, tN0, tCo, tTu, tLs, tCl, tFn, tMh, tRt, tRt0, tNx, tEx, tSe, tAs, gN, gS, gT, gsc, gs0, tU, i2_ii, i2c_ii, rNegD, intC, absD, minD, isD, eqi, eqs, eqb, nei, nes, neb, DL.rIsD, DL.rIsnD, addi, muli, tMe, tMe0, tBk, tCt, outD, EndsD.xk, startD, optP_some, List.map_cons, List.map_nil, List.length_cons, List.length_nil, List.cons_append, List.nil_append, List.append_nil, List.set_cons_zero, List.set_cons_succ, List.set_nil, List.getElem?_cons_zero, List.getElem?_cons_succ, List.replicate_succ, List.replicate_zero, Nat.zero_add, Nat.reduceAdd, Nat.reduceSub, decide_eq_true_eq, Bool.not_eq_true', decide_eq_false_iff_not]
  split
  · rename_i c
    exact ⟨st, cs, way, g, rfl, s, w0, c, fun t N n n0 n1 s g => out_ret (h t N n n0 n1 s g)⟩
  rename_i c
  subst hT
  refine tSq_step fun T hT => ?_
  -- the rest, once the number of places is known
  have rest : ∀ (k : Nat) (N : Md), 1 ≤ k → k ≤ 5 → StOk N st cs → T (outD Q X) [some (.ref st), some (.int way), some (.bl g), some (.int k), none, none] N := fun k N k0 k1 s => by
    subst hT
    refine tSq_step fun T hT => ?_
    simp only [wipeD, items_tup, items_lst, items_rng, tupleD, seqA_tup, seqA_lst, tSq, tIf', tTs, tO, tV, tK, tTr, truD, tNo, tAn, tOr', tAnV, tOrV', tNoV, tIfE, tN0, tCo, tTu, tLs, tCl, tFn, tMh, tRt, tRt0, tNx, tEx, tSe, tAs, gN, gS, gT, gsc, gs0, tU, i2_ii, i2c_ii, rNegD, intC, absD, minD, isD, eqi, eqs, eqb, nei, nes, neb, DL.rIsD, DL.rIsnD, addi, muli, tMe, tMe0, tBk, tCt, outD, EndsD.xk, startD, optP_some, List.map_cons, List.map_nil, List.length_cons, List.length_nil, List.cons_append, List.nil_append, List.append_nil, List.set_cons_zero, List.set_cons_succ, List.set_nil, List.getElem?_cons_zero, List.getElem?_cons_succ, List.replicate_succ, List.replicate_zero, Nat.zero_add, Nat.reduceAdd, Nat.reduceSub, decide_eq_true_eq, Bool.not_eq_true', decide_eq_false_iff_not]
    refine ⟨st, cs, k, rfl, s, by omega, by omega, fun p N s wy => ?_⟩
    rw [Int.toNat_natCast] at wy
    subst hT
    refine tSq_step fun T hT => ?_
    simp only [wipeD, items_tup, items_lst, items_rng, tupleD, seqA_tup, seqA_lst, tSq, tIf', tTs, tO, tV, tK, tTr, truD, tNo, tAn, tOr', tAnV, tOrV', tNoV, tIfE, tN0, tCo, tTu, tLs, tCl, tFn, tMh, tRt, tRt0, tNx, tEx, tSe, tAs, gN, gS, gT, gsc, gs0, tU, i2_ii, i2c_ii, rNegD, intC, absD, minD, isD, eqi, eqs, eqb, nei, nes, neb, DL.rIsD, DL.rIsnD, addi, muli, tMe, tMe0, tBk, tCt, outD, EndsD.xk, startD, optP_some, List.map_cons, List.map_nil, List.length_cons, List.length_nil, List.cons_append, List.nil_append, List.append_nil, List.set_cons_zero, List.set_cons_succ, List.set_nil, List.getElem?_cons_zero, List.getElem?_cons_succ, List.replicate_succ, List.replicate_zero, Nat.zero_add, Nat.reduceAdd, Nat.reduceSub, decide_eq_true_eq, Bool.not_eq_true', decide_eq_false_iff_not]
    have e1 : (1 : Int) * 2 ^ (k : Int).toNat = 2 ^ k := by rw [Int.one_mul, Int.toNat_natCast]
    have bn : (1 : Int) ≤ 2 ^ k ∧ (2 : Int) ^ k ≤ 32 ∧ (2 : Int) ≤ 2 ^ k := by
      have : k = 1 ∨ k = 2 ∨ k = 3 ∨ k = 4 ∨ k = 5 := by omega
      rcases this with rfl | rfl | rfl | rfl | rfl <;> decide
    rw [e1]
    refine ⟨⟨by omega, by omega, by decide⟩, st, cs, 2 ^ k, rfl, s, by omega, by omega, fun o N' ns ho ex fr s hN wf => ?_⟩
    have wy' : WaysOk N' st cs k p := by
      obtain ⟨ws, b, h1, h2, h3⟩ := wy.ex
      refine ⟨ws, b, ex.at_ p _ h1 b.1 b.2, h2, fun d hd => ?_⟩
      obtain ⟨q, ms, a1, a2, a3, a4⟩ := h3 d hd
      exact ⟨q, ms, a1, a2, ex.at_ q _ a3 a2.1 a2.2, a4⟩
    refine ⟨st, cs, p, o, k, ns, rfl, s, wy', hN, wf, k1, fun t N s tb => ?_⟩
    have sp : ∀ {N : Md} {Q : VD} {X : XD}, StOk N st cs → TabN N (Bs st cs) (2 ^ k) 4 t → (∀ N, StOk N st cs → TabN N (Bs st cs) (2 ^ k) 4 t → Q .non N) → sp__law_spoil K [.ref st, .ref t] N Q X := fun s tb h => ⟨st, cs, t, 2 ^ k, Bs st cs, rfl, s, fun z => z.1 rfl, fun z => z.2 rfl, tb, by omega, by omega, fun N s tb _ => h N s tb⟩
    subst hT
    refine tSq_step fun T hT => ?_
    have last : ∀ N, StOk N st cs → TabN N (Bs st cs) (2 ^ k) 4 t → T (outD Q X) [some (.ref st), some (.int way), some (.bl g), some (.int k), some (.ref p), some (.ref t)] N := fun N s tb => by
      subst hT
      refine tSq_step fun T hT => ?_
      simp only [wipeD, items_tup, items_lst, items_rng, tupleD, seqA_tup, seqA_lst, tSq, tIf', tTs, tO, tV, tK, tTr, truD, tNo, tAn, tOr', tAnV, tOrV', tNoV, tIfE, tN0, tCo, tTu, tLs, tCl, tFn, tMh, tRt, tRt0, tNx, tEx, tSe, tAs, gN, gS, gT, gsc, gs0, tU, i2_ii, i2c_ii, rNegD, intC, absD, minD, isD, eqi, eqs, eqb, nei, nes, neb, DL.rIsD, DL.rIsnD, addi, muli, tMe, tMe0, tBk, tCt, outD, EndsD.xk, startD, optP_some, List.map_cons, List.map_nil, List.length_cons, List.length_nil, List.cons_append, List.nil_append, List.append_nil, List.set_cons_zero, List.set_cons_succ, List.set_nil, List.getElem?_cons_zero, List.getElem?_cons_succ, List.replicate_succ, List.replicate_zero, Nat.zero_add, Nat.reduceAdd, Nat.reduceSub, decide_eq_true_eq, Bool.not_eq_true', decide_eq_false_iff_not]
      split
      · refine sp s tb fun N s tb => ?_
        subst hT
        simp only [wipeD, items_tup, items_lst, items_rng, tupleD, seqA_tup, seqA_lst, tSq, tIf', tTs, tO, tV, tK, tTr, truD, tNo, tAn, tOr', tAnV, tOrV', tNoV, tIfE, tN0, tCo, tTu, tLs, tCl, tFn, tMh, tRt, tRt0, tNx, tEx, tSe, tAs, gN, gS, gT, gsc, gs0, tU, i2_ii, i2c_ii, rNegD, intC, absD, minD, isD, eqi, eqs, eqb, nei, nes, neb, DL.rIsD, DL.rIsnD, addi, muli, tMe, tMe0, tBk, tCt, outD, EndsD.xk, startD, optP_some, List.map_cons, List.map_nil, List.length_cons, List.length_nil, List.cons_append, List.nil_append, List.append_nil, List.set_cons_zero, List.set_cons_succ, List.set_nil, List.getElem?_cons_zero, List.getElem?_cons_succ, List.replicate_succ, List.replicate_zero, Nat.zero_add, Nat.reduceAdd, Nat.reduceSub, decide_eq_true_eq, Bool.not_eq_true', decide_eq_false_iff_not]
        exact out_ret (h t N _ bn.2.2 bn.2.1 s tb)
      · subst hT
        simp only [wipeD, items_tup, items_lst, items_rng, tupleD, seqA_tup, seqA_lst, tSq, tIf', tTs, tO, tV, tK, tTr, truD, tNo, tAn, tOr', tAnV, tOrV', tNoV, tIfE, tN0, tCo, tTu, tLs, tCl, tFn, tMh, tRt, tRt0, tNx, tEx, tSe, tAs, gN, gS, gT, gsc, gs0, tU, i2_ii, i2c_ii, rNegD, intC, absD, minD, isD, eqi, eqs, eqb, nei, nes, neb, DL.rIsD, DL.rIsnD, addi, muli, tMe, tMe0, tBk, tCt, outD, EndsD.xk, startD, optP_some, List.map_cons, List.map_nil, List.length_cons, List.length_nil, List.cons_append, List.nil_append, List.append_nil, List.set_cons_zero, List.set_cons_succ, List.set_nil, List.getElem?_cons_zero, List.getElem?_cons_succ, List.replicate_succ, List.replicate_zero, Nat.zero_add, Nat.reduceAdd, Nat.reduceSub, decide_eq_true_eq, Bool.not_eq_true', decide_eq_false_iff_not]
        exact out_ret (h t N _ bn.2.2 bn.2.1 s tb)
    simp only [wipeD, items_tup, items_lst, items_rng, tupleD, seqA_tup, seqA_lst, tSq, tIf', tTs, tO, tV, tK, tTr, truD, tNo, tAn, tOr', tAnV, tOrV', tNoV, tIfE, tN0, tCo, tTu, tLs, tCl, tFn, tMh, tRt, tRt0, tNx, tEx, tSe, tAs, gN, gS, gT, gsc, gs0, tU, i2_ii, i2c_ii, rNegD, intC, absD, minD, isD, eqi, eqs, eqb, nei, nes, neb, DL.rIsD, DL.rIsnD, addi, muli, tMe, tMe0, tBk, tCt, outD, EndsD.xk, startD, optP_some, List.map_cons, List.map_nil, List.length_cons, List.length_nil, List.cons_append, List.nil_append, List.append_nil, List.set_cons_zero, List.set_cons_succ, List.set_nil, List.getElem?_cons_zero, List.getElem?_cons_succ, List.replicate_succ, List.replicate_zero, Nat.zero_add, Nat.reduceAdd, Nat.reduceSub, decide_eq_true_eq, Bool.not_eq_true', decide_eq_false_iff_not]
    split
    · exact sp s tb fun N s tb => last N s tb
    · exact last N s tb
  simp only [wipeD, items_tup, items_lst, items_rng, tupleD, seqA_tup, seqA_lst, tSq, tIf', tTs, tO, tV, tK, tTr, truD, tNo, tAn, tOr', tAnV, tOrV', tNoV, tIfE, tN0, tCo, tTu, tLs, tCl, tFn, tMh, tRt, tRt0, tNx, tEx, tSe, tAs, gN, gS, gT, gsc, gs0, tU, i2_ii, i2c_ii, rNegD, intC, absD, minD, isD, eqi, eqs, eqb, nei, nes, neb, DL.rIsD, DL.rIsnD, addi, muli, tMe, tMe0, tBk, tCt, outD, EndsD.xk, startD, optP_some, List.map_cons, List.map_nil, List.length_cons, List.length_nil, List.cons_append, List.nil_append, List.append_nil, List.set_cons_zero, List.set_cons_succ, List.set_nil, List.getElem?_cons_zero, List.getElem?_cons_succ, List.replicate_succ, List.replicate_zero, Nat.zero_add, Nat.reduceAdd, Nat.reduceSub, decide_eq_true_eq, Bool.not_eq_true', decide_eq_false_iff_not]
  split
  · exact rest 5 N (by decide) (by decide) s
  · refine ⟨st, cs, 3, rfl, s, by decide, by decide, fun r N r0 r1 _ _ s => ?_⟩
    have e : (1 : Int) + r = ((1 + r.toNat : Nat) : Int) := by omega
    simp only [addi, e]
    exact rest (1 + r.toNat) N (by omega) (by omega) s
end K63
namespace K63
open PySem PySem.Spec PyProof.Rows L2 DL
variable [B : Obs] {K : PySem.W.Frag} {mg : Str → Option Value} {P : Program} {ds : List D} {M : Md} {Q : VD} {X : XD}
/-! ### lists of lists of numbers -/
def pyL (ns : List Int) : PyData := .list (ns.map .int)
theorem can_lists : ∀ m : List (List Int), PyData.canLayAll0 (m.map pyL) = true
  | [] => rfl
  | r :: m => by
    show (PyData.canLayAll0 (r.map PyData.int) && PyData.canLayAll0 (m.map pyL)) = true
    rw [can_ints, can_lists m]
    rfl
theorem dep_lists : ∀ m : List (List Int), PyData.depthAll (m.map pyL) ≤ 1
  | [] => by decide
  | r :: m => by
    show max (PyData.depthAll (r.map PyData.int) + 1) (PyData.depthAll (m.map pyL)) ≤ 1
    have := dep_lists m
    rw [dep_ints]
    omega
theorem eqv_lists : ∀ m k : List (List Int), PyData.eqvAll (m.map pyL) (k.map pyL) = decide (m = k)
  | [], [] => rfl
  | [], _ :: _ => rfl
  | _ :: _, [] => rfl
  | a :: m, b :: k => by
    show (PyData.eqvAll (a.map PyData.int) (b.map PyData.int) && PyData.eqvAll (m.map pyL) (k.map pyL)) = _
    rw [eqv_ints, eqv_lists m k]
    by_cases h : a = b <;> by_cases h2 : m = k <;> simp [h, h2]
theorem sh_lists {m : List (List Int)} : SeqAt.shaped (.list (m.map pyL)) = true := by
  unfold SeqAt.shaped
  rw [Bool.and_eq_true]
  refine ⟨can_lists m, decide_eq_true ?_⟩
  show PyData.depthAll (m.map pyL) + 1 ≤ 64
  have := dep_lists m
  omega
theorem sh_list {ns : List Int} : SeqAt.shaped (pyL ns) = true := by
  unfold SeqAt.shaped
  rw [Bool.and_eq_true]
  refine ⟨can_ints ns, decide_eq_true ?_⟩
  show PyData.depthAll (ns.map PyData.int) + 1 ≤ 64
  rw [dep_ints]
  omega
theorem py_rows {S : Addr → Prop} {t tm : Addr} {rows : List D} {m : List (List Int)} (h : Paired (RowE M S t tm) rows m) : Pys M rows (m.map pyL) := by
  induction h with
  | nil => exact .nil
  | cons r _ ih =>
    obtain ⟨p, rfl, _, _, _, hp⟩ := r.ex
    exact .cons (.cell hp (pys_ints _)) ih
theorem ne_nil_rows {tm t : Addr} {S : Addr → Prop} {rows : List D} {m : List (List Int)} (h : M tm = some (.lst rows)) (p : Paired (RowE M S t tm) rows m) (q : Q (.bl (!decide (rows = []))) M) : DL.rNeD (.ref tm) (.lst []) M Q := by
  refine ⟨.list (m.map pyL), .list [], .cell h (py_rows p), .lst .nil, sh_lists, sh_lists (m := []), ?_⟩
  show Q (.bl (!PyData.eqvAll (m.map pyL) (([] : List (List Int)).map pyL))) M
  rw [eqv_lists]
  cases p with
  | nil => exact q
  | cons _ _ => exact q
theorem ne_nil_row {p : Addr} {ns : List Int} (h : M p = some (.lst (iL ns))) (q : Q (.bl (!decide (ns = []))) M) : DL.rNeD (.ref p) (.lst []) M Q := by
  refine ⟨.list (ns.map .int), .list [], .cell h (pys_ints ns), .lst .nil, sh_list, sh_list (ns := []), ?_⟩
  show Q (.bl (!PyData.eqvAll (ns.map PyData.int) (([] : List Int).map PyData.int))) M
  rw [eqv_ints]
  exact q
/-! ### weak tables -/
theorem TabG.imp {S : Addr → Prop} {ok ok' : List Int → Prop} {okl okl' : Nat → Prop} {k : Nat} {t : Addr} (h : TabG M S ok okl k t) (e : ∀ r, ok r → ok' r) (e' : ∀ l, okl l → okl' l) : TabG M S ok' okl' k t := by
  obtain ⟨tm, rows, rs, s1, s2, ne, h1, h2, h3, h4, h5, h6⟩ := h.ex
  exact ⟨tm, rows, rs, s1, s2, ne, h1, h2, fun d hd => (h3 d hd).imp fun ns z => ⟨z.1, e ns z.2⟩, h4, e' _ h5, fun d hd => (h6 d hd).imp fun ns z => ⟨z.1, e ns z.2⟩⟩
/-- other rows of the meet -/
theorem TabG.rows {S : Addr → Prop} {ok : List Int → Prop} {okl okl' : Nat → Prop} {k : Nat} {t tm : Addr} {rows xs : List D} (h : TabG M S ok okl k t) (ht : M t = some (.lst (.ref tm :: xs))) (hl : okl' rows.length) (hr : ∀ d ∈ rows, ∃ ns, RowE M S t tm d ns ∧ ok ns) :
    TabG (put M tm (.lst rows)) S ok okl' k t := by
  obtain ⟨tm, rows', rs, s1, s2, ne, h1, h2, h3, h4, h5, h6⟩ := h.ex
  rw [ht] at h1
  cases h1
  exact ⟨tm, rows, xs, s1, s2, ne, by rw [put_ne ne]; exact ht, h2, fun d hd => (h3 d hd).imp fun ns z => ⟨z.1.off (.inr rfl), z.2⟩, put_same, hl, fun d hd => (hr d hd).imp fun ns z => ⟨z.1.off (.inr rfl), z.2⟩⟩
theorem TabW.up {S : Addr → Prop} {b : Nat} {t : Addr} (h : TabW M S b t) : TabG M S (okW (b + 1)) (fun l => l ≤ b + 1) 4 t := h.imp (fun r z => ⟨by have := z.1; omega, z.2⟩) fun l z => by omega
/-- the row that _law_bend takes -/
inductive Taken (N : Md) (st cs t : Addr) (b : Nat) : D → Bool → Prop
  | outer {tm : Addr} {xs rows : List D} (h : N t = some (.lst (.ref tm :: xs))) (h4 : N tm = some (.lst rows)) (l : rows.length ≤ b) (r : ∀ d ∈ rows, ∃ ns, RowE N (Bs st cs) t tm d ns ∧ okW b ns) : Taken N st cs t b (.ref tm) true
  | inner {tm p : Addr} {xs : List D} {ns : List Int} (h : N t = some (.lst (.ref tm :: xs))) (r : RowE N (Bs st cs) t tm (.ref p) ns) (hp : N p = some (.lst (iL ns))) (o : okW b ns) : Taken N st cs t b (.ref p) false
theorem RowE.ext {st cs t tm : Addr} {N : Md} {d : D} {ns : List Int} (h : RowE M (Bs st cs) t tm d ns) (e : Ext st cs M N) : RowE N (Bs st cs) t tm d ns := h.keep fun a c b z => e.at_ a c z b.1 b.2
theorem TabG.ext {ok : List Int → Prop} {okl : Nat → Prop} {k : Nat} {st cs t : Addr} {N : Md} (h : TabG M (Bs st cs) ok okl k t) (e : Ext st cs M N) : TabG N (Bs st cs) ok okl k t := h.keep fun a c b z => e.at_ a c z b.1 b.2
theorem Taken.ext {N N' : Md} {st cs t : Addr} {b : Nat} {d : D} {o : Bool} (h : Taken N st cs t b d o) (g : TabW N (Bs st cs) b t) (e : Ext st cs N N') : Taken N' st cs t b d o := by
  have g' := g.ext e
  obtain ⟨tm, rows, rs, s1, s2, ne, h1, h2, h3, h4, h5, h6⟩ := g'.ex
  obtain ⟨tm0, rows0, rs0, u1, u2, une, k1, k2, k3, k4, k5, k6⟩ := g.ex
  have e1 := e.at_ t _ k1 u1.1 u1.2
  cases h with
  | outer q1 q2 q3 q4 =>
    rw [q1] at k1
    cases k1
    exact .outer e1 (e.at_ _ _ q2 u2.1 u2.2) q3 fun d hd => (q4 d hd).imp fun ns z => ⟨z.1.ext e, z.2⟩
  | inner q1 r hp o =>
    rw [q1] at k1
    cases k1
    obtain ⟨p, ep, sp, n1, n2, _⟩ := r.ex
    cases ep
    exact .inner e1 (r.ext e) (e.at_ _ _ hp sp.1 sp.2) o
end K63
namespace K63
open PySem PySem.Spec PyProof.Rows L2 DL
variable [B : Obs] {K : PySem.W.Frag} {mg : Str → Option Value} {P : Program} {ds : List D} {M : Md} {Q : VD} {X : XD}
theorem okW_snoc {b : Nat} {ns : List Int} {i : Int} (h : okW b ns) (hi : i.natAbs ≤ 1000000) : okW (b + 1) (ns ++ [i]) := ⟨by rw [List.length_append]; have := h.1; show ns.length + 1 ≤ b + 1; omega, fun x hx => by
  rcases List.mem_append.mp hx with hx | hx
  · exact h.2 x hx
  · rw [List.mem_singleton.mp hx]
    exact hi⟩
theorem okW_set {b k : Nat} {ns : List Int} {i : Int} (h : okW b ns) (hi : i.natAbs ≤ 1000000) : okW b (ns.set k i) := ⟨by rw [List.length_set]; exact h.1, fun x hx => by
  rcases List.mem_or_eq_of_mem_set hx with hx | hx
  · exact h.2 x hx
  · rw [hx]
    exact hi⟩
theorem okW_init {b : Nat} {ns : List Int} (h : okW b ns) : okW b ns.dropLast := ⟨by rw [List.length_dropLast]; have := h.1; omega, fun x hx => h.2 x (List.dropLast_subset ns hx)⟩
theorem okW_zeros {b k : Nat} (h : k ≤ b) : okW b (List.replicate k 0) := ⟨by rw [List.length_replicate]; exact h, fun x hx => by
  rw [(List.mem_replicate.mp hx).2]
  decide⟩
theorem iL_init {ns : List Int} : (iL ns).dropLast = iL ns.dropLast := by simp [iL]
theorem iL_last {ns : List Int} (h : ns ≠ []) : ∃ d, (iL ns)[(iL ns).length - 1]? = some d := by
  have : ns.length ≠ 0 := fun z => h (List.eq_nil_of_length_eq_zero z)
  exact ⟨_, List.getElem?_eq_getElem (by rw [iL_len]; omega)⟩
theorem pop_eq {a : Addr} {xs : List D} {d : D} (h : M a = some (.lst xs)) (e : xs[xs.length - 1]? = some d) : mPopD (.ref a) [] M Q = Q d (put M a (.lst xs.dropLast)) := by
  simp only [mPopD, h, e]
  rfl
/-- a taken row written -/
theorem TabW.write {st cs t tm p : Addr} {b : Nat} {xs : List D} {ns ns' : List Int} {N : Md} (g : TabW N (Bs st cs) b t) (h : N t = some (.lst (.ref tm :: xs))) (r : RowE N (Bs st cs) t tm (.ref p) ns) (o : okW (b + 1) ns') : TabW (put N p (.lst (iL ns'))) (Bs st cs) (b + 1) t :=
  TabG.write (TabW.up g) ⟨⟨tm, ns, r, xs, h⟩, o⟩
/-- len(tables[1]) -/
theorem TabW.one {st cs t : Addr} {b : Nat} {N : Md} (g : TabW N (Bs st cs) b t) : ∃ tm xs p ns, N t = some (.lst (.ref tm :: xs)) ∧ atI (.ref tm :: xs) 1 = some (.ref p) ∧ N p = some (.lst (iL ns)) ∧ ns.length ≤ b := by
  obtain ⟨tm, rows, rs, s1, s2, ne, h1, h2, h3, h4, h5, h6⟩ := g.ex
  match rs, h2 with
  | [d1, d2, d3, d4], _ =>
    obtain ⟨ns, r, o⟩ := h3 d1 (List.mem_cons_self ..)
    obtain ⟨p, rfl, _, _, _, hp⟩ := r.ex
    exact ⟨tm, _, p, ns, h1, atI_1, hp, o.1⟩
theorem bend_tail {st cs t : Addr} {b : Nat} {N : Md} {dr : D} {o : Bool} {x2 x5 x6 : Option D} (hb : b ≤ 100) (s : StOk N st cs) (g : TabW N (Bs st cs) b t) (tk : Taken N st cs t b dr o) (h : ∀ N, StOk N st cs → TabW N (Bs st cs) (b + 1) t → Q .non N) :
    (tSq (tSe (tFn (sp__law_take K) [] (tCo (tV 0) (tCo (tK (.int 5)) tN0))) 5) (tIf' (tAn (tTs (tO DL.rEqD (tV 5) (tK (.int 0)))) (tTr (tV 4))) (tEx (tMe isLs mAppD (tV 3) (tCo (tO rMulM (tLs (tCo (tK (.int 0)) tN0)) (tCl lenD (tCo (tO rIxD (tV 1) (tK (.int 1))) tN0))) tN0))) (tIf' (tTs (tO DL.rEqD (tV 5) (tK (.int 0)))) (tEx (tMe isLs mAppD (tV 3) (tCo (tK (.int 0)) tN0))) (tIf' (tAn (tTs (tO DL.rEqD (tV 5) (tK (.int 1)))) (tTs (tO DL.rNeD (tV 3) (tLs tN0)))) (tEx (tMe0 isLs mPopD (tV 3))) (tIf' (tAn (tTs (tO rGtD (tV 5) (tK (.int 1)))) (tAn (tNo (tTr (tV 4))) (tTs (tO DL.rNeD (tV 3) (tLs tN0))))) (tSq (tSe (tFn (sp__law_take K) [] (tCo (tV 0) (tCo (tCl lenD (tCo (tV 3) tN0)) tN0))) 6) (tAs (tO rIxD (tLs (tCo (tCl lenD (tCo (tO rIxD (tV 1) (tK (.int 1))) tN0)) (tCo (tU rNegD (tK (.int 1))) (tCo (tK (.int 1000000)) tN0)))) (tO rSubD (tV 5) (tK (.int 2)))) (gS (tV 3) (tV 6)))) tNx))))) (outD Q X) [some (.ref st), some (.ref t), x2, some dr, some (.bl o), x5, x6] N := by
  refine tSq_step fun T hT => ?_
  simp only [wipeD, items_tup, items_lst, items_rng, tupleD, seqA_tup, seqA_lst, tSq, tIf', tTs, tO, tV, tK, tTr, truD, tNo, tAn, tOr', tAnV, tOrV', tNoV, tIfE, tN0, tCo, tTu, tLs, tCl, tFn, tMh, tRt, tRt0, tNx, tEx, tSe, tAs, gN, gS, gT, gsc, gs0, tU, i2_ii, i2c_ii, rNegD, intC, absD, minD, isD, eqi, eqs, eqb, nei, nes, neb, DL.rIsD, DL.rIsnD, addi, muli, tMe, tMe0, tBk, tCt, outD, EndsD.xk, startD, optP_some, List.map_cons, List.map_nil, List.length_cons, List.length_nil, List.cons_append, List.nil_append, List.append_nil, List.set_cons_zero, List.set_cons_succ, List.set_nil, List.getElem?_cons_zero, List.getElem?_cons_succ, List.replicate_succ, List.replicate_zero, Nat.zero_add, Nat.reduceAdd, Nat.reduceSub, decide_eq_true_eq, Bool.not_eq_true', decide_eq_false_iff_not]
  refine ⟨st, cs, 5, rfl, s, by decide, by decide, fun w N1 w0 w1 e1 z1 s => ?_⟩
  have tk := tk.ext g e1
  have g := g.ext e1
  clear e1 z1
  have done : ∃ M' : Md, (∀ a c, M' a = some c → N1 a = some c) ∧ Q .non M' := out_nx (h N1 s (TabW.up g))
  obtain ⟨tm1, xs1, p1, ns1, k1, k2, k3, k4⟩ := TabW.one g
  have ns1b : ns1.length ≤ 100 := by omega
  subst hT
  cases tk with
  | @outer tm xs rows ht hm hl hr =>
    obtain ⟨tm0, rows0, rs0, u1, u2, une, j1, j2, j3, j4, j5, j6⟩ := g.ex
    rw [ht] at j1
    cases j1
    rw [hm] at j4
    cases j4
    obtain ⟨m, pm, _⟩ := all_paired hr
    simp only [wipeD, items_tup, items_lst, items_rng, tupleD, seqA_tup, seqA_lst, tSq, tIf', tTs, tO, tV, tK, tTr, truD, tNo, tAn, tOr', tAnV, tOrV', tNoV, tIfE, tN0, tCo, tTu, tLs, tCl, tFn, tMh, tRt, tRt0, tNx, tEx, tSe, tAs, gN, gS, gT, gsc, gs0, tU, i2_ii, i2c_ii, rNegD, intC, absD, minD, isD, eqi, eqs, eqb, nei, nes, neb, DL.rIsD, DL.rIsnD, addi, muli, tMe, tMe0, tBk, tCt, outD, EndsD.xk, startD, optP_some, List.map_cons, List.map_nil, List.length_cons, List.length_nil, List.cons_append, List.nil_append, List.append_nil, List.set_cons_zero, List.set_cons_succ, List.set_nil, List.getElem?_cons_zero, List.getElem?_cons_succ, List.replicate_succ, List.replicate_zero, Nat.zero_add, Nat.reduceAdd, Nat.reduceSub, decide_eq_true_eq, Bool.not_eq_true', decide_eq_false_iff_not, if_true, mulM_eq, ix_eq (seqA_ref k1) k2, len_eq (seqA_ref k3), iL_len, Bool.not_true, Bool.false_eq_true, if_false]
    by_cases c0 : w = 0
    · simp only [if_pos c0]
      refine ⟨isLs_ref hm, by rw [sizeLine_eq]; decide, ⟨by omega, by omega⟩, by rw [sizeLine_eq]; omega, fun q hq => ?_⟩
      have bq := Bs_new s hq
      have qm : q ≠ tm := fun z => by subst z; rw [hm] at hq; cases hq
      have qt : q ≠ t := fun z => by subst z; rw [ht] at hq; cases hq
      rw [app_eq (new_keep hq _ _ hm)]
      refine ⟨by rw [sizeLine_eq]; omega, out_nx (h _ ((s.put bq).put u2) ?_)⟩
      have g2 : TabG (put N1 q (.lst (iL (List.replicate (ns1.length : Int).toNat 0)))) (Bs st cs) (okW b) (fun l => l ≤ b) 4 t := g.keep fun a c _ z => new_keep hq a c z
      refine (g2.rows (okl' := fun l => l ≤ b + 1) (new_keep hq _ _ ht) (by rw [List.length_append]; show rows.length + 1 ≤ b + 1; omega) fun d hd => ?_).imp (fun r z => ⟨by have := z.1; omega, z.2⟩) fun l z => z
      rcases List.mem_append.mp hd with hd | hd
      · exact (hr d hd).imp fun ns z => ⟨z.1.keep fun a c _ y => new_keep hq a c y, z.2⟩
      · rw [List.mem_singleton.mp hd]
        exact ⟨_, ⟨q, rfl, bq, qt, qm, put_same⟩, okW_zeros (by omega)⟩
    simp only [if_neg c0]
    by_cases c1 : w = 1
    · simp only [if_pos c1]
      refine ⟨by rw [sizeLine_eq]; decide, ne_nil_rows hm pm ?_⟩
      simp only [wipeD, items_tup, items_lst, items_rng, tupleD, seqA_tup, seqA_lst, tSq, tIf', tTs, tO, tV, tK, tTr, truD, tNo, tAn, tOr', tAnV, tOrV', tNoV, tIfE, tN0, tCo, tTu, tLs, tCl, tFn, tMh, tRt, tRt0, tNx, tEx, tSe, tAs, gN, gS, gT, gsc, gs0, tU, i2_ii, i2c_ii, rNegD, intC, absD, minD, isD, eqi, eqs, eqb, nei, nes, neb, DL.rIsD, DL.rIsnD, addi, muli, tMe, tMe0, tBk, tCt, outD, EndsD.xk, startD, optP_some, List.map_cons, List.map_nil, List.length_cons, List.length_nil, List.cons_append, List.nil_append, List.append_nil, List.set_cons_zero, List.set_cons_succ, List.set_nil, List.getElem?_cons_zero, List.getElem?_cons_succ, List.replicate_succ, List.replicate_zero, Nat.zero_add, Nat.reduceAdd, Nat.reduceSub, decide_eq_true_eq, Bool.not_eq_true', decide_eq_false_iff_not]
      by_cases e : rows = []
      · simp only [e, not_true_eq_false, if_false, c1]
        simp only [show ¬ ((1 : Int) < 1) by omega, if_false]
        exact done
      · simp only [e, not_false_eq_true, if_true]
        have : rows.length ≠ 0 := fun z => e (List.eq_nil_of_length_eq_zero z)
        obtain ⟨d, hd⟩ : ∃ d, rows[rows.length - 1]? = some d := ⟨_, List.getElem?_eq_getElem (by omega)⟩
        rw [pop_eq hm hd]
        refine ⟨isLs_ref hm, out_nx (h _ (s.put u2) ?_)⟩
        exact (g.rows (okl' := fun l => l ≤ b + 1) ht (by rw [List.length_dropLast]; omega) fun d hd => hr d (List.dropLast_subset rows hd)).imp (fun r z => ⟨by have := z.1; omega, z.2⟩) fun l z => z
    simp only [if_neg c1]
    split
    · exact done
    · exact done
  | @inner tm p xs ns ht r hp ok =>
    obtain ⟨_, ep, bp, _, _, _⟩ := r.ex
    cases ep
    simp only [wipeD, items_tup, items_lst, items_rng, tupleD, seqA_tup, seqA_lst, tSq, tIf', tTs, tO, tV, tK, tTr, truD, tNo, tAn, tOr', tAnV, tOrV', tNoV, tIfE, tN0, tCo, tTu, tLs, tCl, tFn, tMh, tRt, tRt0, tNx, tEx, tSe, tAs, gN, gS, gT, gsc, gs0, tU, i2_ii, i2c_ii, rNegD, intC, absD, minD, isD, eqi, eqs, eqb, nei, nes, neb, DL.rIsD, DL.rIsnD, addi, muli, tMe, tMe0, tBk, tCt, outD, EndsD.xk, startD, optP_some, List.map_cons, List.map_nil, List.length_cons, List.length_nil, List.cons_append, List.nil_append, List.append_nil, List.set_cons_zero, List.set_cons_succ, List.set_nil, List.getElem?_cons_zero, List.getElem?_cons_succ, List.replicate_succ, List.replicate_zero, Nat.zero_add, Nat.reduceAdd, Nat.reduceSub, decide_eq_true_eq, Bool.not_eq_true', decide_eq_false_iff_not, if_true, mulM_eq, ix_eq (seqA_ref k1) k2, len_eq (seqA_ref k3), len_eq (seqA_ref hp), iL_len, Bool.not_false, Bool.false_eq_true, if_false]
    by_cases c0 : w = 0
    · simp only [if_pos c0]
      rw [app_eq hp]
      refine ⟨isLs_ref hp, by rw [sizeLine_eq, iL_len]; have := ok.1; omega, out_nx (h _ (s.put bp) ?_)⟩
      rw [iL_snoc]
      exact TabW.write g ht r (okW_snoc ok (by decide))
    simp only [if_neg c0]
    have last : ∀ (N : Md), N = N1 → True := fun _ _ => trivial
    by_cases c1 : w = 1
    · simp only [if_pos c1]
      refine ⟨by rw [sizeLine_eq]; decide, ne_nil_row hp ?_⟩
      simp only [wipeD, items_tup, items_lst, items_rng, tupleD, seqA_tup, seqA_lst, tSq, tIf', tTs, tO, tV, tK, tTr, truD, tNo, tAn, tOr', tAnV, tOrV', tNoV, tIfE, tN0, tCo, tTu, tLs, tCl, tFn, tMh, tRt, tRt0, tNx, tEx, tSe, tAs, gN, gS, gT, gsc, gs0, tU, i2_ii, i2c_ii, rNegD, intC, absD, minD, isD, eqi, eqs, eqb, nei, nes, neb, DL.rIsD, DL.rIsnD, addi, muli, tMe, tMe0, tBk, tCt, outD, EndsD.xk, startD, optP_some, List.map_cons, List.map_nil, List.length_cons, List.length_nil, List.cons_append, List.nil_append, List.append_nil, List.set_cons_zero, List.set_cons_succ, List.set_nil, List.getElem?_cons_zero, List.getElem?_cons_succ, List.replicate_succ, List.replicate_zero, Nat.zero_add, Nat.reduceAdd, Nat.reduceSub, decide_eq_true_eq, Bool.not_eq_true', decide_eq_false_iff_not]
      by_cases e : ns = []
      · simp only [e, not_true_eq_false, if_false, c1]
        simp only [show ¬ ((1 : Int) < 1) by omega, if_false]
        exact done
      · simp only [e, not_false_eq_true, if_true]
        obtain ⟨d, hd⟩ := iL_last e
        rw [pop_eq hp hd, iL_init]
        exact ⟨isLs_ref hp, out_nx (h _ (s.put bp) (TabW.write g ht r ⟨by rw [List.length_dropLast]; have := ok.1; omega, (okW_init ok).2⟩))⟩
    simp only [if_neg c1]
    have c2 : 1 < w := by omega
    simp only [if_pos c2]
    refine ⟨by rw [sizeLine_eq]; decide, ne_nil_row hp ?_⟩
    simp only [wipeD, items_tup, items_lst, items_rng, tupleD, seqA_tup, seqA_lst, tSq, tIf', tTs, tO, tV, tK, tTr, truD, tNo, tAn, tOr', tAnV, tOrV', tNoV, tIfE, tN0, tCo, tTu, tLs, tCl, tFn, tMh, tRt, tRt0, tNx, tEx, tSe, tAs, gN, gS, gT, gsc, gs0, tU, i2_ii, i2c_ii, rNegD, intC, absD, minD, isD, eqi, eqs, eqb, nei, nes, neb, DL.rIsD, DL.rIsnD, addi, muli, tMe, tMe0, tBk, tCt, outD, EndsD.xk, startD, optP_some, List.map_cons, List.map_nil, List.length_cons, List.length_nil, List.cons_append, List.nil_append, List.append_nil, List.set_cons_zero, List.set_cons_succ, List.set_nil, List.getElem?_cons_zero, List.getElem?_cons_succ, List.replicate_succ, List.replicate_zero, Nat.zero_add, Nat.reduceAdd, Nat.reduceSub, decide_eq_true_eq, Bool.not_eq_true', decide_eq_false_iff_not]
    by_cases e : ns = []
    · simp only [e, not_true_eq_false, if_false]
      exact done
    · simp only [e, not_false_eq_true, if_true, len_eq (seqA_ref hp), iL_len]
      have : ns.length ≠ 0 := fun z => e (List.eq_nil_of_length_eq_zero z)
      have l1 := ok.1
      refine ⟨st, cs, ns.length, rfl, s, by omega, by omega, fun x N2 x0 x1 e2 z2 s2 => ?_⟩
      have g2 := g.ext e2
      have ht2 := e2.at_ t _ ht (g.ex.elim fun _ z => z.elim fun _ z => z.elim fun _ z => z.1.1) (g.ex.elim fun _ z => z.elim fun _ z => z.elim fun _ z => z.1.2)
      have hp2 := e2.at_ p _ hp bp.1 bp.2
      have r2 := r.ext e2
      obtain ⟨tm1, xs1, p1, ns1, k1, k2, k3, k4⟩ := TabW.one g2
      simp only [wipeD, items_tup, items_lst, items_rng, tupleD, seqA_tup, seqA_lst, tSq, tIf', tTs, tO, tV, tK, tTr, truD, tNo, tAn, tOr', tAnV, tOrV', tNoV, tIfE, tN0, tCo, tTu, tLs, tCl, tFn, tMh, tRt, tRt0, tNx, tEx, tSe, tAs, gN, gS, gT, gsc, gs0, tU, i2_ii, i2c_ii, rNegD, intC, absD, minD, isD, eqi, eqs, eqb, nei, nes, neb, DL.rIsD, DL.rIsnD, addi, muli, tMe, tMe0, tBk, tCt, outD, EndsD.xk, startD, optP_some, List.map_cons, List.map_nil, List.length_cons, List.length_nil, List.cons_append, List.nil_append, List.append_nil, List.set_cons_zero, List.set_cons_succ, List.set_nil, List.getElem?_cons_zero, List.getElem?_cons_succ, List.replicate_succ, List.replicate_zero, Nat.zero_add, Nat.reduceAdd, Nat.reduceSub, decide_eq_true_eq, Bool.not_eq_true', decide_eq_false_iff_not, ix_eq (seqA_ref k1) k2, len_eq (seqA_ref k3), iL_len]
      refine ⟨by rw [sizeLine_eq]; decide, ?_⟩
      have fin : ∀ v : Int, v.natAbs ≤ 1000000 → ∃ M' : Md, (∀ a c, M' a = some c → put N2 p (.lst (iL (ns.set x.toNat v))) a = some c) ∧ Q .non M' := fun v hv => out_nx (h _ (s2.put bp) (TabW.write g2 ht2 r2 (by
        have := okW_set (k := x.toNat) ok hv
        exact ⟨by have := this.1; omega, this.2⟩)))
      have c3 : w = 2 ∨ w = 3 ∨ w = 4 := by omega
      rcases c3 with rfl | rfl | rfl
      · simp only [rIx_lst, Int.reduceSub, atI_0, wipeD, items_tup, items_lst, items_rng, tupleD, seqA_tup, seqA_lst, tSq, tIf', tTs, tO, tV, tK, tTr, truD, tNo, tAn, tOr', tAnV, tOrV', tNoV, tIfE, tN0, tCo, tTu, tLs, tCl, tFn, tMh, tRt, tRt0, tNx, tEx, tSe, tAs, gN, gS, gT, gsc, gs0, tU, i2_ii, i2c_ii, rNegD, intC, absD, minD, isD, eqi, eqs, eqb, nei, nes, neb, DL.rIsD, DL.rIsnD, addi, muli, tMe, tMe0, tBk, tCt, outD, EndsD.xk, startD, optP_some, List.map_cons, List.map_nil, List.length_cons, List.length_nil, List.cons_append, List.nil_append, List.append_nil, List.set_cons_zero, List.set_cons_succ, List.set_nil, List.getElem?_cons_zero, List.getElem?_cons_succ, List.replicate_succ, List.replicate_zero, Nat.zero_add, Nat.reduceAdd, Nat.reduceSub, decide_eq_true_eq, Bool.not_eq_true', decide_eq_false_iff_not, setD_eq hp2 (j := x) x0 (by rw [iL_len]; omega), iL_set]
        exact fin _ (by omega)
      · simp only [rIx_lst, Int.reduceSub, atI_1, wipeD, items_tup, items_lst, items_rng, tupleD, seqA_tup, seqA_lst, tSq, tIf', tTs, tO, tV, tK, tTr, truD, tNo, tAn, tOr', tAnV, tOrV', tNoV, tIfE, tN0, tCo, tTu, tLs, tCl, tFn, tMh, tRt, tRt0, tNx, tEx, tSe, tAs, gN, gS, gT, gsc, gs0, tU, i2_ii, i2c_ii, rNegD, intC, absD, minD, isD, eqi, eqs, eqb, nei, nes, neb, DL.rIsD, DL.rIsnD, addi, muli, tMe, tMe0, tBk, tCt, outD, EndsD.xk, startD, optP_some, List.map_cons, List.map_nil, List.length_cons, List.length_nil, List.cons_append, List.nil_append, List.append_nil, List.set_cons_zero, List.set_cons_succ, List.set_nil, List.getElem?_cons_zero, List.getElem?_cons_succ, List.replicate_succ, List.replicate_zero, Nat.zero_add, Nat.reduceAdd, Nat.reduceSub, decide_eq_true_eq, Bool.not_eq_true', decide_eq_false_iff_not, setD_eq hp2 (j := x) x0 (by rw [iL_len]; omega), iL_set]
        exact fin _ (by decide)
      · simp only [rIx_lst, Int.reduceSub, atI_2, wipeD, items_tup, items_lst, items_rng, tupleD, seqA_tup, seqA_lst, tSq, tIf', tTs, tO, tV, tK, tTr, truD, tNo, tAn, tOr', tAnV, tOrV', tNoV, tIfE, tN0, tCo, tTu, tLs, tCl, tFn, tMh, tRt, tRt0, tNx, tEx, tSe, tAs, gN, gS, gT, gsc, gs0, tU, i2_ii, i2c_ii, rNegD, intC, absD, minD, isD, eqi, eqs, eqb, nei, nes, neb, DL.rIsD, DL.rIsnD, addi, muli, tMe, tMe0, tBk, tCt, outD, EndsD.xk, startD, optP_some, List.map_cons, List.map_nil, List.length_cons, List.length_nil, List.cons_append, List.nil_append, List.append_nil, List.set_cons_zero, List.set_cons_succ, List.set_nil, List.getElem?_cons_zero, List.getElem?_cons_succ, List.replicate_succ, List.replicate_zero, Nat.zero_add, Nat.reduceAdd, Nat.reduceSub, decide_eq_true_eq, Bool.not_eq_true', decide_eq_false_iff_not, setD_eq hp2 (j := x) x0 (by rw [iL_len]; omega), iL_set]
        exact fin _ (by decide)
end K63
namespace K63
open PySem PySem.Spec PyProof.Rows L2 DL
variable [B : Obs] {K : PySem.W.Frag} {mg : Str → Option Value} {P : Program} {ds : List D} {M : Md} {Q : VD} {X : XD}
theorem p__law_bend (h : sp__law_bend K ds M Q X) : t__law_bend K (outD Q X) (startD N__law_bend ds) M := by
  obtain ⟨st, cs, t, b, rfl, s, g, hb, h⟩ := h
  simp only [N__law_bend, startD, List.map_cons, List.map_nil, List.length_cons, List.length_nil, Nat.zero_add, Nat.reduceAdd, Nat.reduceSub, List.replicate_succ, List.replicate_zero, List.cons_append, List.nil_append]
  unfold t__law_bend
  refine tSq_step fun T hT => ?_
  simp only [wipeD, items_tup, items_lst, items_rng, tupleD, seqA_tup, seqA_lst, tSq, tIf', tTs, tO, tV, tK, tTr, truD, tNo, tAn, tOr', tAnV, tOrV', tNoV, tIfE, tN0, tCo, tTu, tLs, tCl, tFn, tMh, tRt, tRt0, tNx, tEx, tSe, tAs, gN, gS, gT, gsc, gs0, tU, i2_ii, i2c_ii, rNegD, intC, absD, minD, isD, eqi, eqs, eqb, nei, nes, neb, DL.rIsD, DL.rIsnD, addi, muli, tMe, tMe0, tBk, tCt, outD, EndsD.xk, startD, optP_some, List.map_cons, List.map_nil, List.length_cons, List.length_nil, List.cons_append, List.nil_append, List.append_nil, List.set_cons_zero, List.set_cons_succ, List.set_nil, List.getElem?_cons_zero, List.getElem?_cons_succ, List.replicate_succ, List.replicate_zero, Nat.zero_add, Nat.reduceAdd, Nat.reduceSub, decide_eq_true_eq, Bool.not_eq_true', decide_eq_false_iff_not]
  refine ⟨st, cs, 5, rfl, s, by decide, by decide, fun w N w0 w1 e1 z1 s => ?_⟩
  have g := g.ext e1
  clear e1 z1
  obtain ⟨tm, rows, rs, u1, u2, une, h1, h2, h3, h4, h5, h6⟩ := g.ex
  -- the row taken
  have tk : ∃ dr, atI (.ref tm :: rs) w = some dr ∧ Taken N st cs t b dr (decide (w = 0)) := by
    by_cases c : w = 0
    · subst c
      exact ⟨_, atI_0, .outer h1 h4 h5 h6⟩
    · have hx : (w - 1).toNat < rs.length := by omega
      obtain ⟨ns, r, o⟩ := h3 _ (List.getElem_mem hx)
      obtain ⟨p, e, sp, n1, n2, hp⟩ := r.ex
      rw [e] at r
      rw [decide_eq_false c]
      refine ⟨.ref p, ?_, .inner h1 r hp o⟩
      rw [atI_in (by omega) (by rw [List.length_cons]; omega)]
      have e2 : w.toNat = (w - 1).toNat + 1 := by omega
      rw [e2, List.getElem?_cons_succ, List.getElem?_eq_getElem hx, e]
  obtain ⟨dr, a1, tk⟩ := tk
  subst hT
  refine tSq_step fun T hT => ?_
  simp only [wipeD, items_tup, items_lst, items_rng, tupleD, seqA_tup, seqA_lst, tSq, tIf', tTs, tO, tV, tK, tTr, truD, tNo, tAn, tOr', tAnV, tOrV', tNoV, tIfE, tN0, tCo, tTu, tLs, tCl, tFn, tMh, tRt, tRt0, tNx, tEx, tSe, tAs, gN, gS, gT, gsc, gs0, tU, i2_ii, i2c_ii, rNegD, intC, absD, minD, isD, eqi, eqs, eqb, nei, nes, neb, DL.rIsD, DL.rIsnD, addi, muli, tMe, tMe0, tBk, tCt, outD, EndsD.xk, startD, optP_some, List.map_cons, List.map_nil, List.length_cons, List.length_nil, List.cons_append, List.nil_append, List.append_nil, List.set_cons_zero, List.set_cons_succ, List.set_nil, List.getElem?_cons_zero, List.getElem?_cons_succ, List.replicate_succ, List.replicate_zero, Nat.zero_add, Nat.reduceAdd, Nat.reduceSub, decide_eq_true_eq, Bool.not_eq_true', decide_eq_false_iff_not, ix_eq (seqA_ref h1) a1]
  subst hT
  refine tSq_step fun T hT => ?_
  simp only [wipeD, items_tup, items_lst, items_rng, tupleD, seqA_tup, seqA_lst, tSq, tIf', tTs, tO, tV, tK, tTr, truD, tNo, tAn, tOr', tAnV, tOrV', tNoV, tIfE, tN0, tCo, tTu, tLs, tCl, tFn, tMh, tRt, tRt0, tNx, tEx, tSe, tAs, gN, gS, gT, gsc, gs0, tU, i2_ii, i2c_ii, rNegD, intC, absD, minD, isD, eqi, eqs, eqb, nei, nes, neb, DL.rIsD, DL.rIsnD, addi, muli, tMe, tMe0, tBk, tCt, outD, EndsD.xk, startD, optP_some, List.map_cons, List.map_nil, List.length_cons, List.length_nil, List.cons_append, List.nil_append, List.append_nil, List.set_cons_zero, List.set_cons_succ, List.set_nil, List.getElem?_cons_zero, List.getElem?_cons_succ, List.replicate_succ, List.replicate_zero, Nat.zero_add, Nat.reduceAdd, Nat.reduceSub, decide_eq_true_eq, Bool.not_eq_true', decide_eq_false_iff_not]
  subst hT
  refine tSq_step fun T hT => ?_
  have go : ∀ {N : Md} {dr : D} {o : Bool} {x2 x5 x6 : Option D}, StOk N st cs → TabW N (Bs st cs) b t → Taken N st cs t b dr o → T (outD Q X) [some (.ref st), some (.ref t), x2, some dr, some (.bl o), x5, x6] N := fun s g tk => by
    subst hT
    exact bend_tail hb s g tk h
  have gw := go (x2 := some (.int w)) (x5 := none) (x6 := none) s g tk
  simp only [tIf', tAn, tTr, tV, truD, List.getElem?_cons_zero, List.getElem?_cons_succ, decide_eq_true_eq]
  split
  · rename_i c
    rw [decide_eq_true c] at tk gw ⊢
    cases tk with
    | @outer tm' xs rows' q1 q2 q3 q4 =>
      rw [h1] at q1
      cases q1
      obtain ⟨m, pm, _⟩ := all_paired h6
      simp only [wipeD, items_tup, items_lst, items_rng, tupleD, seqA_tup, seqA_lst, tSq, tIf', tTs, tO, tV, tK, tTr, truD, tNo, tAn, tOr', tAnV, tOrV', tNoV, tIfE, tN0, tCo, tTu, tLs, tCl, tFn, tMh, tRt, tRt0, tNx, tEx, tSe, tAs, gN, gS, gT, gsc, gs0, tU, i2_ii, i2c_ii, rNegD, intC, absD, minD, isD, eqi, eqs, eqb, nei, nes, neb, DL.rIsD, DL.rIsnD, addi, muli, tMe, tMe0, tBk, tCt, outD, EndsD.xk, startD, optP_some, List.map_cons, List.map_nil, List.length_cons, List.length_nil, List.cons_append, List.nil_append, List.append_nil, List.set_cons_zero, List.set_cons_succ, List.set_nil, List.getElem?_cons_zero, List.getElem?_cons_succ, List.replicate_succ, List.replicate_zero, Nat.zero_add, Nat.reduceAdd, Nat.reduceSub, decide_eq_true_eq, Bool.not_eq_true', decide_eq_false_iff_not]
      refine ⟨by rw [sizeLine_eq]; decide, ne_nil_rows h4 pm ?_⟩
      simp only [wipeD, items_tup, items_lst, items_rng, tupleD, seqA_tup, seqA_lst, tSq, tIf', tTs, tO, tV, tK, tTr, truD, tNo, tAn, tOr', tAnV, tOrV', tNoV, tIfE, tN0, tCo, tTu, tLs, tCl, tFn, tMh, tRt, tRt0, tNx, tEx, tSe, tAs, gN, gS, gT, gsc, gs0, tU, i2_ii, i2c_ii, rNegD, intC, absD, minD, isD, eqi, eqs, eqb, nei, nes, neb, DL.rIsD, DL.rIsnD, addi, muli, tMe, tMe0, tBk, tCt, outD, EndsD.xk, startD, optP_some, List.map_cons, List.map_nil, List.length_cons, List.length_nil, List.cons_append, List.nil_append, List.append_nil, List.set_cons_zero, List.set_cons_succ, List.set_nil, List.getElem?_cons_zero, List.getElem?_cons_succ, List.replicate_succ, List.replicate_zero, Nat.zero_add, Nat.reduceAdd, Nat.reduceSub, decide_eq_true_eq, Bool.not_eq_true', decide_eq_false_iff_not]
      by_cases c2 : ¬ rows = []
      · rw [if_pos c2]
        refine ⟨st, cs, 3, rfl, s, by decide, by decide, fun y N2 y0 y1 e2 z2 s2 => ?_⟩
        have g2 := g.ext e2
        have h1' := e2.at_ t _ h1 u1.1 u1.2
        have h4' := e2.at_ tm _ h4 u2.1 u2.2
        simp only [wipeD, items_tup, items_lst, items_rng, tupleD, seqA_tup, seqA_lst, tSq, tIf', tTs, tO, tV, tK, tTr, truD, tNo, tAn, tOr', tAnV, tOrV', tNoV, tIfE, tN0, tCo, tTu, tLs, tCl, tFn, tMh, tRt, tRt0, tNx, tEx, tSe, tAs, gN, gS, gT, gsc, gs0, tU, i2_ii, i2c_ii, rNegD, intC, absD, minD, isD, eqi, eqs, eqb, nei, nes, neb, DL.rIsD, DL.rIsnD, addi, muli, tMe, tMe0, tBk, tCt, outD, EndsD.xk, startD, optP_some, List.map_cons, List.map_nil, List.length_cons, List.length_nil, List.cons_append, List.nil_append, List.append_nil, List.set_cons_zero, List.set_cons_succ, List.set_nil, List.getElem?_cons_zero, List.getElem?_cons_succ, List.replicate_succ, List.replicate_zero, Nat.zero_add, Nat.reduceAdd, Nat.reduceSub, decide_eq_true_eq, Bool.not_eq_true', decide_eq_false_iff_not]
        split
        · have : rows.length ≠ 0 := fun z => c2 (List.eq_nil_of_length_eq_zero z)
          simp only [ix_eq (seqA_ref h1') atI_0, len_eq (seqA_ref h4')]
          refine ⟨st, cs, rows.length, rfl, s2, by omega, by omega, fun x N3 x0 x1 e3 z3 s3 => ?_⟩
          have h4' := e3.at_ tm _ h4' u2.1 u2.2
          have g3 := g2.ext e3
          have h1' := e3.at_ t _ h1' u1.1 u1.2
          have hx : x.toNat < rows.length := by omega
          obtain ⟨ns, r, o⟩ := h6 _ (List.getElem_mem hx)
          obtain ⟨p, e, sp, n1, n2, hp⟩ := r.ex
          rw [e] at r
          have a3 : atI rows x = some (.ref p) := by
            rw [atI_in x0 (by omega), List.getElem?_eq_getElem hx, e]
          simp only [wipeD, items_tup, items_lst, items_rng, tupleD, seqA_tup, seqA_lst, tSq, tIf', tTs, tO, tV, tK, tTr, truD, tNo, tAn, tOr', tAnV, tOrV', tNoV, tIfE, tN0, tCo, tTu, tLs, tCl, tFn, tMh, tRt, tRt0, tNx, tEx, tSe, tAs, gN, gS, gT, gsc, gs0, tU, i2_ii, i2c_ii, rNegD, intC, absD, minD, isD, eqi, eqs, eqb, nei, nes, neb, DL.rIsD, DL.rIsnD, addi, muli, tMe, tMe0, tBk, tCt, outD, EndsD.xk, startD, optP_some, List.map_cons, List.map_nil, List.length_cons, List.length_nil, List.cons_append, List.nil_append, List.append_nil, List.set_cons_zero, List.set_cons_succ, List.set_nil, List.getElem?_cons_zero, List.getElem?_cons_succ, List.replicate_succ, List.replicate_zero, Nat.zero_add, Nat.reduceAdd, Nat.reduceSub, decide_eq_true_eq, Bool.not_eq_true', decide_eq_false_iff_not, ix_eq (seqA_ref h4') a3]
          exact go s3 g3 (.inner h1' ((r.ext e2).ext e3) (e3.at_ p _ (e2.at_ p _ hp sp.1 sp.2) sp.1 sp.2) o)
        · exact go s2 g2 (Taken.ext (.outer h1 h4 h5 h6) g e2)
      · rw [if_neg c2]
        simp only [Bool.false_eq_true, if_false]
        exact gw
  · exact gw
/-! ### repr of tables -/
theorem show_ints : ∀ {ns : List Int}, (∀ i ∈ ns, i.natAbs ≤ 1000000) → PyData.showableAll (ns.map .int) = true ∧ PyData.hasDictAll (ns.map .int) = false ∧ PyData.leavesShortAll 8 (ns.map .int) = true ∧ PyData.bulkAll (ns.map .int) = ns.length
  | [], _ => ⟨rfl, rfl, rfl, rfl⟩
  | n :: ns, h => by
    obtain ⟨h1, h2, h3, h4⟩ := show_ints (ns := ns) fun i hi => h i (List.mem_cons_of_mem _ hi)
    have b := h n (List.mem_cons_self ..)
    refine ⟨?_, ?_, ?_, ?_⟩
    · show (decide (n.natAbs.log2 < 1920) && PyData.showableAll (ns.map .int)) = true
      rw [h1, decide_eq_true (log_of b)]
      rfl
    · show (false || PyData.hasDictAll (ns.map .int)) = false
      rw [h2]
      rfl
    · show (decide ((PyData.shown (.int n)).length ≤ 8) && PyData.leavesShortAll 8 (ns.map .int)) = true
      have : (toString n).length ≤ 7 + 1 := int_text_length_le10 (by decide) (by omega)
      have e : (PyData.shown (.int n)).length ≤ 8 := by
        simp only [PyData.shown]
        rw [PySem.ofString_length]
        exact this
      rw [h3, decide_eq_true e]
      rfl
    · show 0 + 1 + PyData.bulkAll (ns.map .int) = ns.length + 1
      rw [h4]
      omega
theorem show_rows {b : Nat} : ∀ {m : List (List Int)}, (∀ r ∈ m, okW b r) → PyData.showableAll (m.map pyL) = true ∧ PyData.hasDictAll (m.map pyL) = false ∧ PyData.leavesShortAll 8 (m.map pyL) = true ∧ PyData.bulkAll (m.map pyL) ≤ m.length * (b + 1)
  | [], _ => ⟨rfl, rfl, rfl, by simp [PyData.bulkAll]⟩
  | r :: m, h => by
    obtain ⟨h1, h2, h3, h4⟩ := show_rows (m := m) fun i hi => h i (List.mem_cons_of_mem _ hi)
    have o := h r (List.mem_cons_self ..)
    obtain ⟨k1, k2, k3, k4⟩ := show_ints o.2
    refine ⟨?_, ?_, ?_, ?_⟩
    · show (PyData.showableAll (r.map .int) && PyData.showableAll (m.map pyL)) = true
      rw [h1, k1]
      rfl
    · show (PyData.hasDictAll (r.map .int) || PyData.hasDictAll (m.map pyL)) = false
      rw [h2, k2]
      rfl
    · show (PyData.leavesShortAll 8 (r.map .int) && PyData.leavesShortAll 8 (m.map pyL)) = true
      rw [h3, k3]
      rfl
    · show PyData.bulkAll (r.map .int) + 1 + PyData.bulkAll (m.map pyL) ≤ (m.length + 1) * (b + 1)
      rw [k4, Nat.add_mul]
      have := o.1
      omega
def pyT (m q : List (List Int)) : PyData := .list (.list (m.map pyL) :: q.map pyL)
theorem py_tab {S : Addr → Prop} {t : Addr} {m q : List (List Int)} (h : TabE M S t m q) : Py M (.ref t) (pyT m q) := by
  obtain ⟨tm, rows, rs, s1, s2, ne, h1, h3, h4, h6⟩ := h.ex
  exact .cell h1 (.cons (.cell h4 (py_rows h6)) (py_rows h3))
theorem repr_tab {S : Addr → Prop} {t : Addr} {b : Nat} {m q : List (List Int)} (h : TabE M S t m q) (hb : b ≤ 200) (lm : m.length ≤ b) (lq : q.length = 4) (om : ∀ r ∈ m, okW b r) (oq : ∀ r ∈ q, okW b r) (k : Q (.str (pyT m q).shown) M) : reprD [.ref t] M Q := by
  have hs : (seqA M (.ref t)).isSome = true := by
    obtain ⟨tm, rows, rs, s1, s2, ne, h1, h3, h4, h6⟩ := h.ex
    rw [seqA_ref h1]
    rfl
  obtain ⟨a1, a2, a3, a4⟩ := show_rows om
  obtain ⟨b1, b2, b3, b4⟩ := show_rows oq
  refine ⟨pyT m q, py_tab h, hs, ?_, ?_, ?_, ?_, k⟩
  · show (PyData.showableAll (m.map pyL) && PyData.showableAll (q.map pyL)) = true
    rw [a1, b1]
    rfl
  · show (PyData.hasDictAll (m.map pyL) || PyData.hasDictAll (q.map pyL)) = false
    rw [a2, b2]
    rfl
  · show max (PyData.depthAll (m.map pyL) + 1) (PyData.depthAll (q.map pyL)) + 1 ≤ 190
    have := dep_lists m
    have := dep_lists q
    omega
  · refine PyData.shown_fits_bulk (B := 8) (by decide) (by decide) ?_ ?_
    · show (PyData.leavesShortAll 8 (m.map pyL) && PyData.leavesShortAll 8 (q.map pyL)) = true
      rw [a3, b3]
      rfl
    · show PyData.bulkAll (m.map pyL) + 1 + PyData.bulkAll (q.map pyL) ≤ 2 ^ 20
      have e1 : m.length * (b + 1) ≤ 200 * 201 := Nat.mul_le_mul (by omega) (by omega)
      have e2 : q.length * (b + 1) ≤ 4 * 201 := Nat.mul_le_mul (by omega) (by omega)
      omega
end K63
namespace K63
open PySem PySem.Spec PyProof.Rows L2 DL
variable [B : Obs] {K : PySem.W.Frag} {mg : Str → Option Value} {P : Program} {ds : List D} {M : Md} {Q : VD} {X : XD}
theorem eq_pair {s : Str} {d : D} {p : PyData} (hs : PyData.canLay0 (.str s) = true) (hd : Py M d p) (hp : PyData.canLay0 p = true) (hq : PyData.depth p = 0) (he : PyData.eqv p p = true) (h : Q (.bl true) M) : DL.rEqD (.tup [.str s, d]) (.tup [.str s, d]) M Q := by
  have sh : SeqAt.shaped (.tuple [.str s, p]) = true := by
    unfold SeqAt.shaped
    rw [Bool.and_eq_true]
    refine ⟨?_, decide_eq_true ?_⟩
    · show (PyData.canLay0 (.str s) && (PyData.canLay0 p && PyData.canLayAll0 [])) = true
      rw [hs, hp]
      rfl
    · show max 0 (max p.depth 0) + 1 ≤ 64
      rw [hq]
      decide
  refine ⟨.tuple [.str s, p], .tuple [.str s, p], .tup (.cons (.str s) (.cons hd .nil)), .tup (.cons (.str s) (.cons hd .nil)), sh, sh, ?_⟩
  have e : PyData.eqv (.tuple [.str s, p]) (.tuple [.str s, p]) = true := by
    show ((s == s) && (PyData.eqv p p && true)) = true
    rw [he]
    simp
  rw [e]
  exact h
theorem badT_word {m : List (List Int)} {r a b c : List Int} {w : Str} (h : badT m r a b c = some w) : PyData.canLay0 (.str w) = true := by
  unfold badT at h
  repeat' split at h
  all_goals first
    | (cases h; rfl)
    | (cases h; decide +kernel)
    | cases h
theorem eq_due {m : List (List Int)} {r a b c : List Int} (h : Q (.bl true) M) : DL.rEqD (dueV m r a b c) (dueV m r a b c) M Q := by
  unfold dueV
  split
  · exact eq_pair (by decide +kernel) (.int _) rfl rfl (by show (_ == _) = true; simp) h
  · split
    · rename_i w e
      exact eq_pair (by decide +kernel) (.str _) (badT_word e) rfl (by show (_ == _) = true; simp) h
    · exact eq_pair (by decide +kernel) (.int _) rfl rfl (by show (_ == _) = true; simp) h
theorem size_at {r : Int} (r0 : 0 ≤ r) (r1 : r < 8) : ∃ n, atI [D.int 2, .int 3, .int 4, .int 32, .int 33, .int 1, .int 0, .int 34] r = some (.int n) ∧ 0 ≤ n ∧ n ≤ 34 := by
  have c : r = 0 ∨ r = 1 ∨ r = 2 ∨ r = 3 ∨ r = 4 ∨ r = 5 ∨ r = 6 ∨ r = 7 := by omega
  rcases c with rfl | rfl | rfl | rfl | rfl | rfl | rfl | rfl
  · exact ⟨_, rfl, by decide, by decide⟩
  · exact ⟨_, rfl, by decide, by decide⟩
  · exact ⟨_, rfl, by decide, by decide⟩
  · exact ⟨_, rfl, by decide, by decide⟩
  · exact ⟨_, rfl, by decide, by decide⟩
  · exact ⟨_, rfl, by decide, by decide⟩
  · exact ⟨_, rfl, by decide, by decide⟩
  · exact ⟨_, rfl, by decide, by decide⟩
theorem p__law_refused (h : sp__law_refused K ds M Q X) : t__law_refused K (outD Q X) (startD N__law_refused ds) M := by
  obtain ⟨st, cs, rfl, s, h⟩ := h
  simp only [N__law_refused, startD, List.map_cons, List.map_nil, List.length_cons, List.length_nil, Nat.zero_add, Nat.reduceAdd, Nat.reduceSub, List.replicate_succ, List.replicate_zero, List.cons_append, List.nil_append]
  unfold t__law_refused
  refine tSq_step fun T hT => ?_
  simp only [wipeD, items_tup, items_lst, items_rng, tupleD, seqA_tup, seqA_lst, tSq, tIf', tTs, tO, tV, tK, tTr, truD, tNo, tAn, tOr', tAnV, tOrV', tNoV, tIfE, tN0, tCo, tTu, tLs, tCl, tFn, tMh, tRt, tRt0, tNx, tEx, tSe, tAs, gN, gS, gT, gsc, gs0, tU, i2_ii, i2c_ii, rNegD, intC, absD, minD, isD, eqi, eqs, eqb, nei, nes, neb, DL.rIsD, DL.rIsnD, addi, muli, tMe, tMe0, tBk, tCt, outD, EndsD.xk, startD, optP_some, List.map_cons, List.map_nil, List.length_cons, List.length_nil, List.cons_append, List.nil_append, List.append_nil, List.set_cons_zero, List.set_cons_succ, List.set_nil, List.getElem?_cons_zero, List.getElem?_cons_succ, List.replicate_succ, List.replicate_zero, Nat.zero_add, Nat.reduceAdd, Nat.reduceSub, decide_eq_true_eq, Bool.not_eq_true', decide_eq_false_iff_not]
  refine ⟨by rw [sizeLine_eq]; decide, st, cs, 8, rfl, s, by decide, by decide, fun r N r0 r1 _ _ s => ?_⟩
  obtain ⟨n, a1, n0, n1⟩ := size_at r0 r1
  simp only [wipeD, items_tup, items_lst, items_rng, tupleD, seqA_tup, seqA_lst, tSq, tIf', tTs, tO, tV, tK, tTr, truD, tNo, tAn, tOr', tAnV, tOrV', tNoV, tIfE, tN0, tCo, tTu, tLs, tCl, tFn, tMh, tRt, tRt0, tNx, tEx, tSe, tAs, gN, gS, gT, gsc, gs0, tU, i2_ii, i2c_ii, rNegD, intC, absD, minD, isD, eqi, eqs, eqb, nei, nes, neb, DL.rIsD, DL.rIsnD, addi, muli, tMe, tMe0, tBk, tCt, outD, EndsD.xk, startD, optP_some, List.map_cons, List.map_nil, List.length_cons, List.length_nil, List.cons_append, List.nil_append, List.append_nil, List.set_cons_zero, List.set_cons_succ, List.set_nil, List.getElem?_cons_zero, List.getElem?_cons_succ, List.replicate_succ, List.replicate_zero, Nat.zero_add, Nat.reduceAdd, Nat.reduceSub, decide_eq_true_eq, Bool.not_eq_true', decide_eq_false_iff_not, rIx_lst, a1]
  subst hT
  try dsimp only
  refine tSq_step fun T hT => ?_
  simp only [wipeD, items_tup, items_lst, items_rng, tupleD, seqA_tup, seqA_lst, tSq, tIf', tTs, tO, tV, tK, tTr, truD, tNo, tAn, tOr', tAnV, tOrV', tNoV, tIfE, tN0, tCo, tTu, tLs, tCl, tFn, tMh, tRt, tRt0, tNx, tEx, tSe, tAs, gN, gS, gT, gsc, gs0, tU, i2_ii, i2c_ii, rNegD, intC, absD, minD, isD, eqi, eqs, eqb, nei, nes, neb, DL.rIsD, DL.rIsnD, addi, muli, tMe, tMe0, tBk, tCt, outD, EndsD.xk, startD, optP_some, List.map_cons, List.map_nil, List.length_cons, List.length_nil, List.cons_append, List.nil_append, List.append_nil, List.set_cons_zero, List.set_cons_succ, List.set_nil, List.getElem?_cons_zero, List.getElem?_cons_succ, List.replicate_succ, List.replicate_zero, Nat.zero_add, Nat.reduceAdd, Nat.reduceSub, decide_eq_true_eq, Bool.not_eq_true', decide_eq_false_iff_not]
  refine ⟨st, cs, n, rfl, s, n0, by omega, fun t N s g => ?_⟩
  have g : TabW N (Bs st cs) 34 t := g.imp (fun r w => ⟨by have := w.len; omega, fun i hi => by have := w.all i hi; omega⟩) fun l z => by omega
  subst hT
  refine tSq_step fun T hT => ?_
  simp only [tFo, tIR1, wipeD, items_tup, items_lst, items_rng, tupleD, seqA_tup, seqA_lst, tSq, tIf', tTs, tO, tV, tK, tTr, truD, tNo, tAn, tOr', tAnV, tOrV', tNoV, tIfE, tN0, tCo, tTu, tLs, tCl, tFn, tMh, tRt, tRt0, tNx, tEx, tSe, tAs, gN, gS, gT, gsc, gs0, tU, i2_ii, i2c_ii, rNegD, intC, absD, minD, isD, eqi, eqs, eqb, nei, nes, neb, DL.rIsD, DL.rIsnD, addi, muli, tMe, tMe0, tBk, tCt, outD, EndsD.xk, startD, optP_some, List.map_cons, List.map_nil, List.length_cons, List.length_nil, List.cons_append, List.nil_append, List.append_nil, List.set_cons_zero, List.set_cons_succ, List.set_nil, List.getElem?_cons_zero, List.getElem?_cons_succ, List.replicate_succ, List.replicate_zero, Nat.zero_add, Nat.reduceAdd, Nat.reduceSub, decide_eq_true_eq, Bool.not_eq_true', decide_eq_false_iff_not]
  refine ⟨st, cs, 3, rfl, s, by decide, by decide, fun q N q0 q1 e1 z1 s => ⟨⟨by omega, by omega⟩, ?_⟩⟩
  have g := g.ext e1
  refine forGo_range (P := fun k δ N => (∃ a b c, δ = [some (.ref st), some (.int n), some (.ref t), a, b, c]) ∧ StOk N st cs ∧ TabW N (Bs st cs) (34 + k) t) (fun δ N hP => ?_) (fun k hk δ N hP R hR => ⟨trivial, ?_⟩) ⟨⟨_, _, _, rfl⟩, s, g⟩
  · obtain ⟨⟨a, b, c, rfl⟩, s, g⟩ := hP
    refine ⟨trivial, ?_⟩
    obtain ⟨m, qs, hE, lq, lm, om, oq⟩ := g.exact'
    match qs, lq with
    | [r, a', b', c'], _ =>
      have tA := hE.tab
      have o1 := oq r (by simp)
      have o2 := oq a' (by simp)
      have o3 := oq b' (by simp)
      have o4 := oq c' (by simp)
      have l1 := o1.1
      have l2 := o2.1
      have l3 := o3.1
      have l4 := o4.1
      have lr : r.length ≤ 1000 := by omega
      have lm2 : m.length ≤ 1000 := by omega
      subst hT
      dsimp only
      refine tSq_step fun T hT => ?_
      simp only [wipeD, items_tup, items_lst, items_rng, tupleD, seqA_tup, seqA_lst, tSq, tIf', tTs, tO, tV, tK, tTr, truD, tNo, tAn, tOr', tAnV, tOrV', tNoV, tIfE, tN0, tCo, tTu, tLs, tCl, tFn, tMh, tRt, tRt0, tNx, tEx, tSe, tAs, gN, gS, gT, gsc, gs0, tU, i2_ii, i2c_ii, rNegD, intC, absD, minD, isD, eqi, eqs, eqb, nei, nes, neb, DL.rIsD, DL.rIsnD, addi, muli, tMe, tMe0, tBk, tCt, outD, EndsD.xk, startD, optP_some, List.map_cons, List.map_nil, List.length_cons, List.length_nil, List.cons_append, List.nil_append, List.append_nil, List.set_cons_zero, List.set_cons_succ, List.set_nil, List.getElem?_cons_zero, List.getElem?_cons_succ, List.replicate_succ, List.replicate_zero, Nat.zero_add, Nat.reduceAdd, Nat.reduceSub, decide_eq_true_eq, Bool.not_eq_true', decide_eq_false_iff_not]
      refine ⟨_, m, r, a', b', c', rfl, tA, lr, lm2, fun x hx => by have := (om x hx).1; omega, by omega, by omega, by omega, ?_⟩
      subst hT
      refine tSq_step fun T hT => ?_
      simp only [wipeD, items_tup, items_lst, items_rng, tupleD, seqA_tup, seqA_lst, tSq, tIf', tTs, tO, tV, tK, tTr, truD, tNo, tAn, tOr', tAnV, tOrV', tNoV, tIfE, tN0, tCo, tTu, tLs, tCl, tFn, tMh, tRt, tRt0, tNx, tEx, tSe, tAs, gN, gS, gT, gsc, gs0, tU, i2_ii, i2c_ii, rNegD, intC, absD, minD, isD, eqi, eqs, eqb, nei, nes, neb, DL.rIsD, DL.rIsnD, addi, muli, tMe, tMe0, tBk, tCt, outD, EndsD.xk, startD, optP_some, List.map_cons, List.map_nil, List.length_cons, List.length_nil, List.cons_append, List.nil_append, List.append_nil, List.set_cons_zero, List.set_cons_succ, List.set_nil, List.getElem?_cons_zero, List.getElem?_cons_succ, List.replicate_succ, List.replicate_zero, Nat.zero_add, Nat.reduceAdd, Nat.reduceSub, decide_eq_true_eq, Bool.not_eq_true', decide_eq_false_iff_not]
      refine repr_tab hE (b := 34 + q.toNat) (by omega) lm rfl om oq ?_
      subst hT
      simp only [wipeD, items_tup, items_lst, items_rng, tupleD, seqA_tup, seqA_lst, tSq, tIf', tTs, tO, tV, tK, tTr, truD, tNo, tAn, tOr', tAnV, tOrV', tNoV, tIfE, tN0, tCo, tTu, tLs, tCl, tFn, tMh, tRt, tRt0, tNx, tEx, tSe, tAs, gN, gS, gT, gsc, gs0, tU, i2_ii, i2c_ii, rNegD, intC, absD, minD, isD, eqi, eqs, eqb, nei, nes, neb, DL.rIsD, DL.rIsnD, addi, muli, tMe, tMe0, tBk, tCt, outD, EndsD.xk, startD, optP_some, List.map_cons, List.map_nil, List.length_cons, List.length_nil, List.cons_append, List.nil_append, List.append_nil, List.set_cons_zero, List.set_cons_succ, List.set_nil, List.getElem?_cons_zero, List.getElem?_cons_succ, List.replicate_succ, List.replicate_zero, Nat.zero_add, Nat.reduceAdd, Nat.reduceSub, decide_eq_true_eq, Bool.not_eq_true', decide_eq_false_iff_not]
      refine ⟨_, m, r, a', b', c', rfl, tA, lr, lm2, ?_⟩
      refine eq_due ?_
      simp only [if_true]
      refine repr_tab hE (b := 34 + q.toNat) (by omega) lm rfl om oq ?_
      simp only [wipeD, items_tup, items_lst, items_rng, tupleD, seqA_tup, seqA_lst, tSq, tIf', tTs, tO, tV, tK, tTr, truD, tNo, tAn, tOr', tAnV, tOrV', tNoV, tIfE, tN0, tCo, tTu, tLs, tCl, tFn, tMh, tRt, tRt0, tNx, tEx, tSe, tAs, gN, gS, gT, gsc, gs0, tU, i2_ii, i2c_ii, rNegD, intC, absD, minD, isD, eqi, eqs, eqb, nei, nes, neb, DL.rIsD, DL.rIsnD, addi, muli, tMe, tMe0, tBk, tCt, outD, EndsD.xk, startD, optP_some, List.map_cons, List.map_nil, List.length_cons, List.length_nil, List.cons_append, List.nil_append, List.append_nil, List.set_cons_zero, List.set_cons_succ, List.set_nil, List.getElem?_cons_zero, List.getElem?_cons_succ, List.replicate_succ, List.replicate_zero, Nat.zero_add, Nat.reduceAdd, Nat.reduceSub, decide_eq_true_eq, Bool.not_eq_true', decide_eq_false_iff_not, decide_true]
      exact out_ret (h N)
  · obtain ⟨⟨a, b, c, rfl⟩, s, g⟩ := hP
    simp only [wipeD, items_tup, items_lst, items_rng, tupleD, seqA_tup, seqA_lst, tSq, tIf', tTs, tO, tV, tK, tTr, truD, tNo, tAn, tOr', tAnV, tOrV', tNoV, tIfE, tN0, tCo, tTu, tLs, tCl, tFn, tMh, tRt, tRt0, tNx, tEx, tSe, tAs, gN, gS, gT, gsc, gs0, tU, i2_ii, i2c_ii, rNegD, intC, absD, minD, isD, eqi, eqs, eqb, nei, nes, neb, DL.rIsD, DL.rIsnD, addi, muli, tMe, tMe0, tBk, tCt, outD, EndsD.xk, startD, optP_some, List.map_cons, List.map_nil, List.length_cons, List.length_nil, List.cons_append, List.nil_append, List.append_nil, List.set_cons_zero, List.set_cons_succ, List.set_nil, List.getElem?_cons_zero, List.getElem?_cons_succ, List.replicate_succ, List.replicate_zero, Nat.zero_add, Nat.reduceAdd, Nat.reduceSub, decide_eq_true_eq, Bool.not_eq_true', decide_eq_false_iff_not]
    exact ⟨st, cs, t, 34 + k, rfl, s, g, by omega, fun N s g => hR _ _ ⟨⟨_, _, _, rfl⟩, s, g⟩⟩
end K63
namespace K63
open PySem PySem.Spec PyProof.Rows L2 DL
variable [B : Obs] {K : PySem.W.Frag} {mg : Str → Option Value} {P : Program} {ds : List D} {M : Md} {Q : VD} {X : XD}
theorem row_ok {n : Int} {r : List Int} (w : WfR n r) : rowB r n = true := by
  unfold rowB
  rw [Bool.and_eq_true]
  refine ⟨decide_eq_true w.len, List.all_eq_true.mpr fun i hi => ?_⟩
  have := w.all i hi
  rw [Bool.and_eq_true]
  exact ⟨decide_eq_true this.1, decide_eq_true this.2⟩
theorem badT_none {A : Alg} (w : Wf A) : badT A.meet A.rest A.a A.b A.c = none := by
  have l := w.r.len
  unfold badT
  rw [l, if_neg, if_neg, if_neg, if_neg, if_neg]
  · rw [row_ok w.c]; decide
  · rw [row_ok w.b]; decide
  · rw [row_ok w.a]; decide
  · rw [row_ok w.r]; decide
  · rw [w.ml, decide_eq_true rfl, Bool.true_and, List.all_eq_true.mpr fun r hr => row_ok (w.mr r hr)]
    decide
theorem alg_eta {A : Alg} (w : Wf A) : (⟨A.rest.length, A.meet, A.rest, A.a, A.b, A.c⟩ : Alg) = A := by
  rw [w.r.len]
/-- Algebra(..) of right tables -/
theorem mk_alg {A : Alg} {dm dr da db dc : D} {xs : List D} (w : Wf A) (hm : seqA M dm = some xs) (hp : Paired (fun x ns => NumsAt M x ns) xs A.meet) (hr : NumsAt M dr A.rest) (ha : NumsAt M da A.a) (hb : NumsAt M db A.b) (hc : NumsAt M dc A.c) (h : Q (algD K A) M) :
    ∀ a, M a = none → sp_Algebra___init__ K [.ref a, dm, dr, da, db, dc] (put M a (.ins (CA K) [])) (fun d M2 => d = .non ∧ ∃ M3 d3, DL.Fin M2 (.ref a) M3 d3 ∧ Q d3 M3) X := fun a hn => by
  have lo := w.lo
  have hi := w.hi
  have l := w.r.len
  have ml := w.ml
  refine ⟨a, dm, dr, da, db, dc, xs, A.meet, A.rest, A.a, A.b, A.c, rfl, put_same, seqA_put hm hn, paired_mono hp fun x ns z => seqA_put z hn, seqA_put hr hn, seqA_put ha hn, seqA_put hb hn, seqA_put hc hn, by omega, by omega, ?_⟩
  rw [if_neg (by omega), badT_none w, alg_eta w]
  refine ⟨rfl, _, _, DL.Fin.ins put_same, ?_⟩
  rw [put_put, cut_put hn]
  exact h
theorem TabE.parts {S : Addr → Prop} {t : Addr} {A : Alg} (h : TabE M S t A.meet [A.rest, A.a, A.b, A.c]) : ∃ (dm dr da db dc : D) (xs : List D), M t = some (.lst [dm, dr, da, db, dc]) ∧ seqA M dm = some xs ∧ Paired (fun x ns => NumsAt M x ns) xs A.meet ∧ NumsAt M dr A.rest ∧ NumsAt M da A.a ∧ NumsAt M db A.b ∧ NumsAt M dc A.c := by
  obtain ⟨tm, rows, rs, s1, s2, ne, h1, p1, h4, p2⟩ := h.ex
  match rs, p1 with
  | [dr, da, db, dc], .cons r1 (.cons r2 (.cons r3 (.cons r4 .nil))) => exact ⟨.ref tm, dr, da, db, dc, rows, h1, seqA_ref h4, paired_imp (fun _ _ z => z.nums) p2, r1.nums, r2.nums, r3.nums, r4.nums⟩
theorem sh_pyT {m q : List (List Int)} : SeqAt.shaped (pyT m q) = true := by
  unfold SeqAt.shaped
  rw [Bool.and_eq_true]
  refine ⟨?_, decide_eq_true ?_⟩
  · show (PyData.canLayAll0 (m.map pyL) && PyData.canLayAll0 (q.map pyL)) = true
    rw [can_lists, can_lists]
    rfl
  · show max (PyData.depthAll (m.map pyL) + 1) (PyData.depthAll (q.map pyL)) + 1 ≤ 64
    have := dep_lists m
    have := dep_lists q
    omega
theorem eqv_pyT {m q m' q' : List (List Int)} : PyData.eqv (pyT m q) (pyT m' q') = (decide (m = m') && decide (q = q')) := by
  show (PyData.eqvAll (m.map pyL) (m'.map pyL) && PyData.eqvAll (q.map pyL) (q'.map pyL)) = _
  rw [eqv_lists, eqv_lists]
theorem TabN.alg {S : Addr → Prop} {t : Addr} {n : Int} (h : TabN M S n 4 t) (n0 : 2 ≤ n) (n1 : n ≤ 32) : ∃ A : Alg, A.n = n ∧ Wf A ∧ TabE M S t A.meet [A.rest, A.a, A.b, A.c] := by
  obtain ⟨m, q, hE, lq, lm, om, oq⟩ := h.exact'
  match q, lq with
  | [r, a, b, c], _ => exact ⟨⟨n, m, r, a, b, c⟩, rfl, ⟨n0, n1, lm, om, oq r (by simp), oq a (by simp), oq b (by simp), oq c (by simp)⟩, hE⟩
theorem Wf.tabN {S : Addr → Prop} {t : Addr} {A : Alg} (w : Wf A) (h : TabE M S t A.meet [A.rest, A.a, A.b, A.c]) : TabN M S A.n 4 t := h.gen rfl w.ml w.mr fun x hx => by
  simp only [List.mem_cons, List.not_mem_nil, or_false] at hx
  rcases hx with rfl | rfl | rfl | rfl
  · exact w.r
  · exact w.a
  · exact w.b
  · exact w.c
theorem Wf.short {A : Alg} (w : Wf A) : A.rest.length ≤ 1000 ∧ A.meet.length ≤ 1000 ∧ (∀ x ∈ A.meet, x.length ≤ 1000) ∧ A.a.length ≤ 1000 ∧ A.b.length ≤ 1000 ∧ A.c.length ≤ 1000 := by
  have hi := w.hi
  have := w.r.len
  have := w.a.len
  have := w.b.len
  have := w.c.len
  have := w.ml
  exact ⟨by omega, by omega, fun x hx => by have := (w.mr x hx).len; omega, by omega, by omega, by omega⟩
theorem cut_1 {α : Type} {a : α} {l : List α} : DL.cutD (a :: l) (some 1) none = l := by
  have e1 : HT.sIx (a :: l).length 0 (some 1) = 1 := by
    rw [show (some 1 : Option Int) = some ((1 : Nat) : Int) from rfl, HT.sIx_nat, List.length_cons]
    omega
  unfold DL.cutD
  rw [e1, HT.sIx_none, List.length_cons, List.drop_succ_cons, List.drop_zero, Nat.add_sub_cancel, List.take_length]
theorem p__law_equal (h : sp__law_equal K ds M Q X) : t__law_equal K (outD Q X) (startD N__law_equal ds) M := by
  obtain ⟨st, cs, t, A, rfl, s, w, hE, h⟩ := h
  obtain ⟨dm, dr, da, db, dc, xs, h0, h1, hp, hr, ha, hb, hc⟩ := hE.parts
  simp only [N__law_equal, startD, List.map_cons, List.map_nil, List.length_cons, List.length_nil, Nat.zero_add, Nat.reduceAdd, Nat.reduceSub, List.replicate_succ, List.replicate_zero, List.cons_append, List.nil_append]
  unfold t__law_equal
  have lxs := hp.length
  have lml := w.ml
  have hi := w.hi
  have tup_ : ∀ {x : D} {ns : List Int} {p : Addr} {c : MC} {Q' : VD}, NumsAt M x ns → M p = none → Q' (tupOf M x) (put M p c) → tupleD [x] (put M p c) Q' := fun {x ns p c Q'} hx hp hQ => by
    simp only [tupleD]
    rw [seqA_put hx hp]
    unfold tupOf at hQ
    rw [hx] at hQ
    exact hQ
  refine tSq_step fun T hT => ?_
  simp only [tSe]
  refine tLcF_seq (f := tupOf M) (d0 := .lst [dr, da, db, dc]) (xs := [dr, da, db, dc]) (fun Q' hQ => ?_) rfl (by rw [sizeLine_eq]; simp) (fun d hd p c hp Q' hQ => ?_) ?_
  · simp only [tSlc, tP0, tP1, wipeD, items_tup, items_lst, items_rng, tupleD, seqA_tup, seqA_lst, tSq, tIf', tTs, tO, tV, tK, tTr, truD, tNo, tAn, tOr', tAnV, tOrV', tNoV, tIfE, tN0, tCo, tTu, tLs, tCl, tFn, tMh, tRt, tRt0, tNx, tEx, tSe, tAs, gN, gS, gT, gsc, gs0, tU, i2_ii, i2c_ii, rNegD, intC, absD, minD, isD, eqi, eqs, eqb, nei, nes, neb, DL.rIsD, DL.rIsnD, addi, muli, tMe, tMe0, tBk, tCt, outD, EndsD.xk, startD, optP_some, List.map_cons, List.map_nil, List.length_cons, List.length_nil, List.cons_append, List.nil_append, List.append_nil, List.set_cons_zero, List.set_cons_succ, List.set_nil, List.getElem?_cons_zero, List.getElem?_cons_succ, List.replicate_succ, List.replicate_zero, Nat.zero_add, Nat.reduceAdd, Nat.reduceSub, decide_eq_true_eq, Bool.not_eq_true', decide_eq_false_iff_not, rSlD]
    have e : seqL M (.ref t) = some [dm, dr, da, db, dc] := seqA_ref h0
    exact ⟨_, e, by rw [cut_1]; exact hQ⟩
  · simp only [tCl, tCo, tN0, tV, wipeD, List.set_cons_succ, List.set_cons_zero, List.getElem?_cons_zero, List.getElem?_cons_succ]
    have hx : ∃ ns, NumsAt M d ns := by
      simp only [List.mem_cons, List.not_mem_nil, or_false] at hd
      rcases hd with rfl | rfl | rfl | rfl
      · exact ⟨_, hr⟩
      · exact ⟨_, ha⟩
      · exact ⟨_, hb⟩
      · exact ⟨_, hc⟩
    exact hx.elim fun ns hx => tup_ hx hp hQ
  rw [map_tupOf (m := [A.rest, A.a, A.b, A.c]) (.cons hr (.cons ha (.cons hb (.cons hc .nil))))]
  subst hT
  try dsimp only
  refine tSq_step fun T hT => ?_
  simp only [tSe, tCl, tCo, tN0]
  refine tLcF_seq (f := tupOf M) (d0 := dm) (xs := xs) (fun Q' hQ => ?_) h1 (by rw [sizeLine_eq]; omega) (fun d hd p c hpn Q' hQ => ?_) ?_
  · simp only [wipeD, items_tup, items_lst, items_rng, tupleD, seqA_tup, seqA_lst, tSq, tIf', tTs, tO, tV, tK, tTr, truD, tNo, tAn, tOr', tAnV, tOrV', tNoV, tIfE, tN0, tCo, tTu, tLs, tCl, tFn, tMh, tRt, tRt0, tNx, tEx, tSe, tAs, gN, gS, gT, gsc, gs0, tU, i2_ii, i2c_ii, rNegD, intC, absD, minD, isD, eqi, eqs, eqb, nei, nes, neb, DL.rIsD, DL.rIsnD, addi, muli, tMe, tMe0, tBk, tCt, outD, EndsD.xk, startD, optP_some, List.map_cons, List.map_nil, List.length_cons, List.length_nil, List.cons_append, List.nil_append, List.append_nil, List.set_cons_zero, List.set_cons_succ, List.set_nil, List.getElem?_cons_zero, List.getElem?_cons_succ, List.replicate_succ, List.replicate_zero, Nat.zero_add, Nat.reduceAdd, Nat.reduceSub, decide_eq_true_eq, Bool.not_eq_true', decide_eq_false_iff_not, ix_eq (seqA_ref h0) atI_0]
    exact hQ
  · simp only [tCl, tCo, tN0, tV, wipeD, List.set_cons_succ, List.set_cons_zero, List.getElem?_cons_zero, List.getElem?_cons_succ]
    have hx : ∃ ns, NumsAt M d ns ∧ True := paired_all (C := fun _ => True) hp (fun _ _ => trivial) d hd
    exact hx.elim fun ns hx => tup_ hx.1 hpn hQ
  rw [map_tupOf hp]
  simp only [tupleD, seqA_lst, optP_some, List.set_cons_succ, List.set_cons_zero]
  subst hT
  refine tSq_step fun T hT => ?_
  simp only [wipeD, items_tup, items_lst, items_rng, tupleD, seqA_tup, seqA_lst, tSq, tIf', tTs, tO, tV, tK, tTr, truD, tNo, tAn, tOr', tAnV, tOrV', tNoV, tIfE, tN0, tCo, tTu, tLs, tCl, tFn, tMh, tRt, tRt0, tNx, tEx, tSe, tAs, gN, gS, gT, gsc, gs0, tU, i2_ii, i2c_ii, rNegD, intC, absD, minD, isD, eqi, eqs, eqb, nei, nes, neb, DL.rIsD, DL.rIsnD, addi, muli, tMe, tMe0, tBk, tCt, outD, EndsD.xk, startD, optP_some, List.map_cons, List.map_nil, List.length_cons, List.length_nil, List.cons_append, List.nil_append, List.append_nil, List.set_cons_zero, List.set_cons_succ, List.set_nil, List.getElem?_cons_zero, List.getElem?_cons_succ, List.replicate_succ, List.replicate_zero, Nat.zero_add, Nat.reduceAdd, Nat.reduceSub, decide_eq_true_eq, Bool.not_eq_true', decide_eq_false_iff_not, rIx_lst, atI_0, atI_1, atI_2, atI_3, tMk, rowsD, List.map_cons, List.map_nil]
  refine mk_alg (A := A) w (xs := rowsD A.meet) rfl ?_ rfl rfl rfl rfl ?_
  · have go : ∀ m : List (List Int), Paired (fun x ns => NumsAt M x ns) (rowsD m) m := fun m => by
      induction m with
      | nil => exact .nil
      | cons r m ih => exact .cons rfl ih
    exact go _
  refine ⟨⟨_, fl_alg⟩, ⟨_, fl_alg⟩, A, A, rfl, _, rfl, ?_⟩
  simp only [and_self, decide_true]
  subst hT
  refine tSq_step fun T hT => ?_
  simp only [wipeD, items_tup, items_lst, items_rng, tupleD, seqA_tup, seqA_lst, tSq, tIf', tTs, tO, tV, tK, tTr, truD, tNo, tAn, tOr', tAnV, tOrV', tNoV, tIfE, tN0, tCo, tTu, tLs, tCl, tFn, tMh, tRt, tRt0, tNx, tEx, tSe, tAs, gN, gS, gT, gsc, gs0, tU, i2_ii, i2c_ii, rNegD, intC, absD, minD, isD, eqi, eqs, eqb, nei, nes, neb, DL.rIsD, DL.rIsnD, addi, muli, tMe, tMe0, tBk, tCt, outD, EndsD.xk, startD, optP_some, List.map_cons, List.map_nil, List.length_cons, List.length_nil, List.cons_append, List.nil_append, List.append_nil, List.set_cons_zero, List.set_cons_succ, List.set_nil, List.getElem?_cons_zero, List.getElem?_cons_succ, List.replicate_succ, List.replicate_zero, Nat.zero_add, Nat.reduceAdd, Nat.reduceSub, decide_eq_true_eq, Bool.not_eq_true', decide_eq_false_iff_not, rIsnD, decide_true, Bool.not_true, Bool.false_eq_true, if_false]
  subst hT
  refine tSq_step fun T hT => ?_
  simp only [wipeD, items_tup, items_lst, items_rng, tupleD, seqA_tup, seqA_lst, tSq, tIf', tTs, tO, tV, tK, tTr, truD, tNo, tAn, tOr', tAnV, tOrV', tNoV, tIfE, tN0, tCo, tTu, tLs, tCl, tFn, tMh, tRt, tRt0, tNx, tEx, tSe, tAs, gN, gS, gT, gsc, gs0, tU, i2_ii, i2c_ii, rNegD, intC, absD, minD, isD, eqi, eqs, eqb, nei, nes, neb, DL.rIsD, DL.rIsnD, addi, muli, tMe, tMe0, tBk, tCt, outD, EndsD.xk, startD, optP_some, List.map_cons, List.map_nil, List.length_cons, List.length_nil, List.cons_append, List.nil_append, List.append_nil, List.set_cons_zero, List.set_cons_succ, List.set_nil, List.getElem?_cons_zero, List.getElem?_cons_succ, List.replicate_succ, List.replicate_zero, Nat.zero_add, Nat.reduceAdd, Nat.reduceSub, decide_eq_true_eq, Bool.not_eq_true', decide_eq_false_iff_not]
  obtain ⟨s1, s2, s3, s4, s5, s6⟩ := w.short
  refine ⟨.ref t, A.meet, A.rest, A.a, A.b, A.c, rfl, hE.tab, s1, s2, s3, s4, s5, s6, fun t' N sub hE' => ?_⟩
  have sN : StOk N st cs := by
    obtain ⟨ns, i, c, e1, e2, e3⟩ := s.ex
    exact ⟨ns, i, c, sub _ _ e1, sub _ _ e2, e3⟩
  have nst : ¬ (M st = none) ∧ ¬ (M cs = none) := by
    obtain ⟨ns, i, c, e1, e2, e3⟩ := s.ex
    exact ⟨fun z => (by rw [z] at e1; cases e1), fun z => (by rw [z] at e2; cases e2)⟩
  have lo := w.lo
  subst hT
  refine tSq_step fun T hT => ?_
  simp only [wipeD, items_tup, items_lst, items_rng, tupleD, seqA_tup, seqA_lst, tSq, tIf', tTs, tO, tV, tK, tTr, truD, tNo, tAn, tOr', tAnV, tOrV', tNoV, tIfE, tN0, tCo, tTu, tLs, tCl, tFn, tMh, tRt, tRt0, tNx, tEx, tSe, tAs, gN, gS, gT, gsc, gs0, tU, i2_ii, i2c_ii, rNegD, intC, absD, minD, isD, eqi, eqs, eqb, nei, nes, neb, DL.rIsD, DL.rIsnD, addi, muli, tMe, tMe0, tBk, tCt, outD, EndsD.xk, startD, optP_some, List.map_cons, List.map_nil, List.length_cons, List.length_nil, List.cons_append, List.nil_append, List.append_nil, List.set_cons_zero, List.set_cons_succ, List.set_nil, List.getElem?_cons_zero, List.getElem?_cons_succ, List.replicate_succ, List.replicate_zero, Nat.zero_add, Nat.reduceAdd, Nat.reduceSub, decide_eq_true_eq, Bool.not_eq_true', decide_eq_false_iff_not]
  refine ⟨st, cs, t', A.n, fun a => M a = none, rfl, sN, nst.1, nst.2, w.tabN hE', by omega, by omega, fun N2 sN2 tN2 off => ?_⟩
  have hE2 : TabE N2 (Bs st cs) t A.meet [A.rest, A.a, A.b, A.c] := hE.keep fun a c b z => by
    rw [off a (fun y => by rw [y] at z; cases z) b.1 b.2]
    exact sub a c z
  obtain ⟨A', en, w', hE3⟩ := tN2.alg lo hi
  obtain ⟨dm', dr', da', db', dc', xs', k0, k1, kp, kr, ka, kb, kc⟩ := hE3.parts
  subst hT
  refine tSq_step fun T hT => ?_
  simp only [wipeD, items_tup, items_lst, items_rng, tupleD, seqA_tup, seqA_lst, tSq, tIf', tTs, tO, tV, tK, tTr, truD, tNo, tAn, tOr', tAnV, tOrV', tNoV, tIfE, tN0, tCo, tTu, tLs, tCl, tFn, tMh, tRt, tRt0, tNx, tEx, tSe, tAs, gN, gS, gT, gsc, gs0, tU, i2_ii, i2c_ii, rNegD, intC, absD, minD, isD, eqi, eqs, eqb, nei, nes, neb, DL.rIsD, DL.rIsnD, addi, muli, tMe, tMe0, tBk, tCt, outD, EndsD.xk, startD, optP_some, List.map_cons, List.map_nil, List.length_cons, List.length_nil, List.cons_append, List.nil_append, List.append_nil, List.set_cons_zero, List.set_cons_succ, List.set_nil, List.getElem?_cons_zero, List.getElem?_cons_succ, List.replicate_succ, List.replicate_zero, Nat.zero_add, Nat.reduceAdd, Nat.reduceSub, decide_eq_true_eq, Bool.not_eq_true', decide_eq_false_iff_not]
  refine ⟨_, _, py_tab hE3, py_tab hE2, sh_pyT, sh_pyT, ?_⟩
  rw [eqv_pyT]
  subst hT
  refine tSq_step fun T hT => ?_
  simp only [wipeD, items_tup, items_lst, items_rng, tupleD, seqA_tup, seqA_lst, tSq, tIf', tTs, tO, tV, tK, tTr, truD, tNo, tAn, tOr', tAnV, tOrV', tNoV, tIfE, tN0, tCo, tTu, tLs, tCl, tFn, tMh, tRt, tRt0, tNx, tEx, tSe, tAs, gN, gS, gT, gsc, gs0, tU, i2_ii, i2c_ii, rNegD, intC, absD, minD, isD, eqi, eqs, eqb, nei, nes, neb, DL.rIsD, DL.rIsnD, addi, muli, tMe, tMe0, tBk, tCt, outD, EndsD.xk, startD, optP_some, List.map_cons, List.map_nil, List.length_cons, List.length_nil, List.cons_append, List.nil_append, List.append_nil, List.set_cons_zero, List.set_cons_succ, List.set_nil, List.getElem?_cons_zero, List.getElem?_cons_succ, List.replicate_succ, List.replicate_zero, Nat.zero_add, Nat.reduceAdd, Nat.reduceSub, decide_eq_true_eq, Bool.not_eq_true', decide_eq_false_iff_not, tMk, ix_eq (seqA_ref k0) atI_0, ix_eq (seqA_ref k0) atI_1, ix_eq (seqA_ref k0) atI_2, ix_eq (seqA_ref k0) atI_3, ix_eq (seqA_ref k0) atI_4]
  refine mk_alg (A := A') w' k1 kp kr ka kb kc ?_
  refine ⟨⟨_, fl_alg⟩, ⟨_, fl_alg⟩, A, A', rfl, _, rfl, ?_⟩
  subst hT
  simp only [wipeD, items_tup, items_lst, items_rng, tupleD, seqA_tup, seqA_lst, tSq, tIf', tTs, tO, tV, tK, tTr, truD, tNo, tAn, tOr', tAnV, tOrV', tNoV, tIfE, tN0, tCo, tTu, tLs, tCl, tFn, tMh, tRt, tRt0, tNx, tEx, tSe, tAs, gN, gS, gT, gsc, gs0, tU, i2_ii, i2c_ii, rNegD, intC, absD, minD, isD, eqi, eqs, eqb, nei, nes, neb, DL.rIsD, DL.rIsnD, addi, muli, tMe, tMe0, tBk, tCt, outD, EndsD.xk, startD, optP_some, List.map_cons, List.map_nil, List.length_cons, List.length_nil, List.cons_append, List.nil_append, List.append_nil, List.set_cons_zero, List.set_cons_succ, List.set_nil, List.getElem?_cons_zero, List.getElem?_cons_succ, List.replicate_succ, List.replicate_zero, Nat.zero_add, Nat.reduceAdd, Nat.reduceSub, decide_eq_true_eq, Bool.not_eq_true', decide_eq_false_iff_not]
  refine ⟨by decide, ?_⟩
  have e : decide (decide (A.meet = A'.meet ∧ A.rest = A'.rest ∧ A.a = A'.a ∧ A.b = A'.b ∧ A.c = A'.c) = (decide (A'.meet = A.meet) && decide ([A'.rest, A'.a, A'.b, A'.c] = [A.rest, A.a, A.b, A.c]))) = true := by
    rw [decide_eq_true_eq, Bool.eq_iff_iff, Bool.and_eq_true, decide_eq_true_eq, decide_eq_true_eq, decide_eq_true_eq]
    simp only [List.cons.injEq, and_true]
    constructor
    · rintro ⟨a, b, c, d, e⟩
      exact ⟨a.symm, b.symm, c.symm, d.symm, e.symm⟩
    · rintro ⟨a, b, c, d, e⟩
      exact ⟨a.symm, b.symm, c.symm, d.symm, e.symm⟩
  rw [e]
  exact out_ret (h N2 sN2)
end K63
namespace K63
open PySem PySem.Spec PyProof.Rows L2 DL
variable [B : Obs] {K : PySem.W.Frag} {mg : Str → Option Value} {P : Program} {ds : List D} {M : Md} {Q : VD} {X : XD}
/-! ### the fault is None, or a tuple of flat things -/
def flatU (d : D) : Prop := ∃ xs, d = .tup xs ∧ xs.length ≤ 1000 ∧ ∀ x ∈ xs, flatT x
theorem flatU_of {xs : List D} (l : xs.length ≤ 1000) (h : ∀ x ∈ xs, flatT x) : flatU (.tup xs) := ⟨xs, rfl, l, h⟩
theorem orderU {m n r} (h : orderF m n = some r) : flatU r := ff_P h fun _ _ h => ff_P h fun _ _ h => if_P h (flatU_of (by simp) fun x hx => by
  simp only [List.mem_cons, List.not_mem_nil, or_false] at hx
  rcases hx with rfl | rfl | rfl
  · exact .inl ⟨_, rfl⟩
  · exact .inr ⟨_, rfl⟩
  · exact .inr ⟨_, rfl⟩)
theorem groupU {m n r} (h : groupF m n = some r) : flatU r := ff_P h fun _ _ h => ff_P h fun _ _ h => ff_P h fun _ _ h => if_P h (flatU_of (by simp) fun x hx => by
  simp only [List.mem_cons, List.not_mem_nil, or_false] at hx
  rcases hx with rfl | rfl | rfl | rfl
  · exact .inl ⟨_, rfl⟩
  · exact .inr ⟨_, rfl⟩
  · exact .inr ⟨_, rfl⟩
  · exact .inr ⟨_, rfl⟩)
theorem zeroU {m q n r} (h : zeroF m q n = some r) : flatU r := ff_P h fun _ _ h => if_P h (flatU_of (by simp) fun x hx => by
  simp only [List.mem_cons, List.not_mem_nil, or_false] at hx
  rcases hx with rfl | rfl
  · exact .inl ⟨_, rfl⟩
  · exact .inr ⟨_, rfl⟩)
theorem restU {m q n r} (h : restF m q n = some r) : flatU r := ff_P h fun _ _ h => ff_P h fun _ _ h => if_P h (flatU_of (by simp) fun x hx => by
  simp only [List.mem_cons, List.not_mem_nil, or_false] at hx
  rcases hx with rfl | rfl | rfl
  · exact .inl ⟨_, rfl⟩
  · exact .inr ⟨_, rfl⟩
  · exact .inr ⟨_, rfl⟩)
theorem noneU {A r} (h : noneF A = some r) : flatU r := find_P h fun _ _ h => if_P h (flatU_of (by simp) fun x hx => by
  simp only [List.mem_cons, List.not_mem_nil, or_false] at hx
  rcases hx with rfl | rfl
  · exact .inl ⟨_, rfl⟩
  · exact .inl ⟨_, rfl⟩)
theorem joinU {A r} (h : joinF A = some r) : flatU r := find_P h fun _ _ h => ff_P h fun _ _ h => ff_P h fun _ _ h => if_P h (flatU_of (by simp) fun x hx => by
  simp only [List.mem_cons, List.not_mem_nil, or_false] at hx
  rcases hx with rfl | rfl | rfl | rfl
  · exact .inl ⟨_, rfl⟩
  · exact .inl ⟨_, rfl⟩
  · exact .inr ⟨_, rfl⟩
  · exact .inr ⟨_, rfl⟩)
theorem orN_U {o : Option D} {d : D} (h : ∀ r, o = some r → flatU r) (k : d = .non ∨ flatU d) : orN o d = .non ∨ flatU (orN o d) := by
  cases o with
  | none => exact k
  | some r => exact .inr (h r rfl)
theorem fault_flat (A : Alg) : faultV A = .non ∨ flatU (faultV A) := orN_U (fun _ h => orderU h) (orN_U (fun _ h => groupU h) (orN_U (fun _ h => zeroU h) (orN_U (fun _ h => restU h) (orN_U (fun _ h => noneU h) (orN_U (fun _ h => joinU h) (.inl rfl))))))
/-! ### what is left of the given lists when they are written -/
structure Nz (N : Md) (S : Addr → Prop) (g tm : Addr) (b : Nat) (d : D) : Prop where
  ex : ∃ (p : Addr) (z : D) (zs : List D), d = .ref p ∧ S p ∧ p ≠ g ∧ p ≠ tm ∧ N p = some (.lst (z :: zs)) ∧ zs.length ≤ b
structure Gv (N : Md) (S : Addr → Prop) (g : Addr) (b : Nat) : Prop where
  ex : ∃ (tm p0 : Addr) (rs xs : List D), N g = some (.lst (.ref tm :: rs)) ∧ rs.length = 4 ∧ (∀ d ∈ rs, Nz N S g tm b d) ∧ S tm ∧ tm ≠ g ∧ N tm = some (.lst (.ref p0 :: xs)) ∧ xs.length ≤ b ∧ Nz N S g tm b (.ref p0)
theorem Nz.tm {N : Md} {S : Addr → Prop} {g tm : Addr} {b : Nat} {d : D} {c : MC} (h : Nz N S g tm b d) : Nz (put N tm c) S g tm (b + 1) d := by
  obtain ⟨p, z, zs, e, sp, n1, n2, hp, l⟩ := h.ex
  exact ⟨p, z, zs, e, sp, n1, n2, by rw [put_ne n2]; exact hp, by omega⟩
theorem Nz.row {N : Md} {S : Addr → Prop} {g tm p : Addr} {b : Nat} {d z : D} {zs : List D} (h : Nz N S g tm b d) (l : zs.length ≤ b + 1) : Nz (put N p (.lst (z :: zs))) S g tm (b + 1) d := by
  obtain ⟨q, w, ws, e, sp, n1, n2, hp, l'⟩ := h.ex
  by_cases c : q = p
  · subst c
    exact ⟨q, z, zs, e, sp, n1, n2, put_same, l⟩
  · exact ⟨q, w, ws, e, sp, n1, n2, by rw [put_ne c]; exact hp, by omega⟩
theorem Gv.tm {N : Md} {S : Addr → Prop} {g tm p0 : Addr} {b : Nat} {xs xs' rs : List D} (h : Gv N S g b) (hg : N g = some (.lst (.ref tm :: rs))) (ht : N tm = some (.lst (.ref p0 :: xs))) (l : xs'.length ≤ b + 1) : Gv (put N tm (.lst (.ref p0 :: xs'))) S g (b + 1) := by
  obtain ⟨tm', p0', rs', xs1, h1, h2, h3, h4, h5, h6, h7, h8⟩ := h.ex
  rw [hg] at h1
  cases h1
  rw [ht] at h6
  cases h6
  exact ⟨tm, p0, rs, xs', by rw [put_ne (Ne.symm h5)]; exact hg, h2, fun d hd => (h3 d hd).tm, h4, h5, put_same, l, h8.tm⟩
theorem Gv.row {N : Md} {S : Addr → Prop} {g tm p : Addr} {b : Nat} {z : D} {zs rs : List D} (h : Gv N S g b) (hg : N g = some (.lst (.ref tm :: rs))) (n1 : p ≠ g) (n2 : p ≠ tm) (l : zs.length ≤ b + 1) : Gv (put N p (.lst (z :: zs))) S g (b + 1) := by
  obtain ⟨tm', p0', rs', xs1, h1, h2, h3, h4, h5, h6, h7, h8⟩ := h.ex
  rw [hg] at h1
  cases h1
  exact ⟨tm, p0', rs, xs1, by rw [put_ne (Ne.symm n1)]; exact hg, h2, fun d hd => (h3 d hd).row l, h4, h5, by rw [put_ne (Ne.symm n2)]; exact h6, by omega, h8.row l⟩
theorem TabE.gv {N : Md} {S : Addr → Prop} {g : Addr} {A : Alg} (w : Wf A) (h : TabE N S g A.meet [A.rest, A.a, A.b, A.c]) : Gv N S g 40 := by
  have lo := w.lo
  have hi := w.hi
  have ml := w.ml
  obtain ⟨tm, rows, rs, s1, s2, ne, h1, p1, h4, p2⟩ := h.ex
  have nz : ∀ {d : D} {ns : List Int}, RowE N S g tm d ns → WfR A.n ns → Nz N S g tm 40 d := fun {d ns} r w => by
    obtain ⟨p, e, sp, n1, n2, hp⟩ := r.ex
    have l := w.len
    cases ns with
    | nil =>
      simp at l
      omega
    | cons i is =>
      simp only [List.length_cons] at l
      refine ⟨p, .int i, iL is, e, sp, n1, n2, hp, ?_⟩
      rw [iL_len]
      omega
  have lr := p2.length
  have rws : ∀ d ∈ rows, Nz N S g tm 40 d := fun d hd => by
    obtain ⟨ns, r, o⟩ := paired_all (C := WfR A.n) p2 w.mr d hd
    exact nz r o
  match rows, rws, h4, lr with
  | [], _, _, lr =>
    simp at lr
    omega
  | d0 :: xs, rws, h4, lr =>
    obtain ⟨p0, z, zs, e0, q⟩ := (rws d0 (List.mem_cons_self ..)).ex
    subst e0
    refine ⟨tm, p0, rs, xs, h1, p1.length, fun d hd => ?_, s2, Ne.symm ne, h4, by simp only [List.length_cons] at lr; omega, rws _ (List.mem_cons_self ..)⟩
    obtain ⟨ns, r, o⟩ := paired_all (C := WfR A.n) p1 (fun y hy => by
      simp only [List.mem_cons, List.not_mem_nil, or_false] at hy
      rcases hy with rfl | rfl | rfl | rfl
      · exact w.r
      · exact w.a
      · exact w.b
      · exact w.c) d hd
    exact nz r o
theorem is_fault_ok {A : Alg} (h : Q (.bl true) M) : sp__law_is_fault K [faultV A, faultV A] M Q X := ⟨_, rfl, (fault_flat A).imp id fun z => z, h⟩
theorem p_law (h : sp_law K ds M Q X) : t_law K (outD Q X) (startD N_law ds) M := by
  obtain ⟨ns, rfl, hl, _, h⟩ := h
  simp only [N_law, startD, List.map_cons, List.map_nil, List.length_cons, List.length_nil, Nat.zero_add, Nat.reduceAdd, Nat.reduceSub, List.replicate_succ, List.replicate_zero, List.cons_append, List.nil_append]
  unfold t_law
  refine tSq_step fun T hT => ?_
  simp only [wipeD, items_tup, items_lst, items_rng, tupleD, seqA_tup, seqA_lst, tSq, tIf', tTs, tO, tV, tK, tTr, truD, tNo, tAn, tOr', tAnV, tOrV', tNoV, tIfE, tN0, tCo, tTu, tLs, tCl, tFn, tMh, tRt, tRt0, tNx, tEx, tSe, tAs, gN, gS, gT, gsc, gs0, tU, i2_ii, i2c_ii, rNegD, intC, absD, minD, isD, eqi, eqs, eqb, nei, nes, neb, DL.rIsD, DL.rIsnD, addi, muli, tMe, tMe0, tBk, tCt, outD, EndsD.xk, startD, optP_some, List.map_cons, List.map_nil, List.length_cons, List.length_nil, List.cons_append, List.nil_append, List.append_nil, List.set_cons_zero, List.set_cons_succ, List.set_nil, List.getElem?_cons_zero, List.getElem?_cons_succ, List.replicate_succ, List.replicate_zero, Nat.zero_add, Nat.reduceAdd, Nat.reduceSub, decide_eq_true_eq, Bool.not_eq_true', decide_eq_false_iff_not]
  refine ⟨ns, rfl, hl, fun st cs N s => ?_⟩
  subst hT
  refine tSq_step fun T hT => ?_
  simp only [wipeD, items_tup, items_lst, items_rng, tupleD, seqA_tup, seqA_lst, tSq, tIf', tTs, tO, tV, tK, tTr, truD, tNo, tAn, tOr', tAnV, tOrV', tNoV, tIfE, tN0, tCo, tTu, tLs, tCl, tFn, tMh, tRt, tRt0, tNx, tEx, tSe, tAs, gN, gS, gT, gsc, gs0, tU, i2_ii, i2c_ii, rNegD, intC, absD, minD, isD, eqi, eqs, eqb, nei, nes, neb, DL.rIsD, DL.rIsnD, addi, muli, tMe, tMe0, tBk, tCt, outD, EndsD.xk, startD, optP_some, List.map_cons, List.map_nil, List.length_cons, List.length_nil, List.cons_append, List.nil_append, List.append_nil, List.set_cons_zero, List.set_cons_succ, List.set_nil, List.getElem?_cons_zero, List.getElem?_cons_succ, List.replicate_succ, List.replicate_zero, Nat.zero_add, Nat.reduceAdd, Nat.reduceSub, decide_eq_true_eq, Bool.not_eq_true', decide_eq_false_iff_not]
  refine ⟨st, cs, rfl, s, fun t N n n0 n1 s tN => ?_⟩
  obtain ⟨A, en, w, hE⟩ := tN.alg n0 n1
  have stay : ∀ {N'}, Ext st cs N N' → TabE N' (Bs st cs) t A.meet [A.rest, A.a, A.b, A.c] := fun e => hE.keep fun a c b z => e.at_ a c z b.1 b.2
  have hC : ∀ {N'}, Ext st cs N N' → TabC N' (.ref t) A := fun e => (stay e).tab.tabC
  have sE : ∀ {N'}, Sub N N' → Ext st cs N N' := fun z => ⟨fun a c h _ _ => z a c h⟩
  have sS : ∀ {N'}, Sub N N' → StOk N' st cs := fun z => by
    obtain ⟨ns, i, c, e1, e2, e3⟩ := s.ex
    exact ⟨ns, i, c, z _ _ e1, z _ _ e2, e3⟩
  subst hT
  refine tSq_step fun T hT => ?_
  simp only [wipeD, items_tup, items_lst, items_rng, tupleD, seqA_tup, seqA_lst, tSq, tIf', tTs, tO, tV, tK, tTr, truD, tNo, tAn, tOr', tAnV, tOrV', tNoV, tIfE, tN0, tCo, tTu, tLs, tCl, tFn, tMh, tRt, tRt0, tNx, tEx, tSe, tAs, gN, gS, gT, gsc, gs0, tU, i2_ii, i2c_ii, rNegD, intC, absD, minD, isD, eqi, eqs, eqb, nei, nes, neb, DL.rIsD, DL.rIsnD, addi, muli, tMe, tMe0, tBk, tCt, outD, EndsD.xk, startD, optP_some, List.map_cons, List.map_nil, List.length_cons, List.length_nil, List.cons_append, List.nil_append, List.append_nil, List.set_cons_zero, List.set_cons_succ, List.set_nil, List.getElem?_cons_zero, List.getElem?_cons_succ, List.replicate_succ, List.replicate_zero, Nat.zero_add, Nat.reduceAdd, Nat.reduceSub, decide_eq_true_eq, Bool.not_eq_true', decide_eq_false_iff_not]
  refine ⟨A, _, rfl, hC Ext.refl, w, ?_⟩
  subst hT
  refine tSq_step fun T hT => ?_
  simp only [wipeD, items_tup, items_lst, items_rng, tupleD, seqA_tup, seqA_lst, tSq, tIf', tTs, tO, tV, tK, tTr, truD, tNo, tAn, tOr', tAnV, tOrV', tNoV, tIfE, tN0, tCo, tTu, tLs, tCl, tFn, tMh, tRt, tRt0, tNx, tEx, tSe, tAs, gN, gS, gT, gsc, gs0, tU, i2_ii, i2c_ii, rNegD, intC, absD, minD, isD, eqi, eqs, eqb, nei, nes, neb, DL.rIsD, DL.rIsnD, addi, muli, tMe, tMe0, tBk, tCt, outD, EndsD.xk, startD, optP_some, List.map_cons, List.map_nil, List.length_cons, List.length_nil, List.cons_append, List.nil_append, List.append_nil, List.set_cons_zero, List.set_cons_succ, List.set_nil, List.getElem?_cons_zero, List.getElem?_cons_succ, List.replicate_succ, List.replicate_zero, Nat.zero_add, Nat.reduceAdd, Nat.reduceSub, decide_eq_true_eq, Bool.not_eq_true', decide_eq_false_iff_not]
  obtain ⟨s1, s2, s3, s4, s5, s6⟩ := w.short
  refine ⟨.ref t, A.meet, A.rest, A.a, A.b, A.c, rfl, hE.tab, s1, s2, s3, s4, s5, s6, fun g N1 sub hG => ?_⟩
  have bd : ∀ {r : List Int}, WfR A.n r → okW 100 r := fun wr => ⟨by have := wr.len; have := w.hi; omega, fun i hi => by have := wr.all i hi; have := w.hi; omega⟩
  have rep : ∀ {R : VD}, R (.str (pyT A.meet [A.rest, A.a, A.b, A.c]).shown) N1 → reprD [.ref g] N1 R := fun hR => repr_tab hG (b := 100) (by decide) (by have := w.ml; have := w.hi; omega) rfl (fun r hr => bd (w.mr r hr)) (fun r hr => by
    simp only [List.mem_cons, List.not_mem_nil, or_false] at hr
    rcases hr with rfl | rfl | rfl | rfl
    · exact bd w.r
    · exact bd w.a
    · exact bd w.b
    · exact bd w.c) hR
  subst hT
  refine tSq_step fun T hT => ?_
  simp only [wipeD, items_tup, items_lst, items_rng, tupleD, seqA_tup, seqA_lst, tSq, tIf', tTs, tO, tV, tK, tTr, truD, tNo, tAn, tOr', tAnV, tOrV', tNoV, tIfE, tN0, tCo, tTu, tLs, tCl, tFn, tMh, tRt, tRt0, tNx, tEx, tSe, tAs, gN, gS, gT, gsc, gs0, tU, i2_ii, i2c_ii, rNegD, intC, absD, minD, isD, eqi, eqs, eqb, nei, nes, neb, DL.rIsD, DL.rIsnD, addi, muli, tMe, tMe0, tBk, tCt, outD, EndsD.xk, startD, optP_some, List.map_cons, List.map_nil, List.length_cons, List.length_nil, List.cons_append, List.nil_append, List.append_nil, List.set_cons_zero, List.set_cons_succ, List.set_nil, List.getElem?_cons_zero, List.getElem?_cons_succ, List.replicate_succ, List.replicate_zero, Nat.zero_add, Nat.reduceAdd, Nat.reduceSub, decide_eq_true_eq, Bool.not_eq_true', decide_eq_false_iff_not]
  refine rep ?_
  obtain ⟨kept, hkept⟩ : ∃ k, k = (pyT A.meet [A.rest, A.a, A.b, A.c]).shown := ⟨_, rfl⟩
  rw [← hkept] at rep ⊢
  have lk : kept.length ≤ sizeLine := by
    obtain ⟨p, _, _, _, _, _, hl, e⟩ := rep (R := fun d _ => d = .str kept) rfl
    cases e
    exact hl
  have lenK : ∀ {N : Md} {R : VD}, R (.int kept.length) N → lenD [.str kept] N R := fun h => ⟨lk, h⟩
  obtain ⟨dm, dr, da, db, dc, xs, h0, h1, hp, hr, ha, hb, hc⟩ := hG.parts
  subst hT
  refine tSq_step fun T hT => ?_
  simp only [wipeD, items_tup, items_lst, items_rng, tupleD, seqA_tup, seqA_lst, tSq, tIf', tTs, tO, tV, tK, tTr, truD, tNo, tAn, tOr', tAnV, tOrV', tNoV, tIfE, tN0, tCo, tTu, tLs, tCl, tFn, tMh, tRt, tRt0, tNx, tEx, tSe, tAs, gN, gS, gT, gsc, gs0, tU, i2_ii, i2c_ii, rNegD, intC, absD, minD, isD, eqi, eqs, eqb, nei, nes, neb, DL.rIsD, DL.rIsnD, addi, muli, tMe, tMe0, tBk, tCt, outD, EndsD.xk, startD, optP_some, List.map_cons, List.map_nil, List.length_cons, List.length_nil, List.cons_append, List.nil_append, List.append_nil, List.set_cons_zero, List.set_cons_succ, List.set_nil, List.getElem?_cons_zero, List.getElem?_cons_succ, List.replicate_succ, List.replicate_zero, Nat.zero_add, Nat.reduceAdd, Nat.reduceSub, decide_eq_true_eq, Bool.not_eq_true', decide_eq_false_iff_not, tMk, ix_eq (seqA_ref h0) atI_0, ix_eq (seqA_ref h0) atI_1, ix_eq (seqA_ref h0) atI_2, ix_eq (seqA_ref h0) atI_3, ix_eq (seqA_ref h0) atI_4]
  refine mk_alg (A := A) w h1 hp hr ha hb hc ?_
  subst hT
  refine tSq_step fun T hT => ?_
  simp only [wipeD, items_tup, items_lst, items_rng, tupleD, seqA_tup, seqA_lst, tSq, tIf', tTs, tO, tV, tK, tTr, truD, tNo, tAn, tOr', tAnV, tOrV', tNoV, tIfE, tN0, tCo, tTu, tLs, tCl, tFn, tMh, tRt, tRt0, tNx, tEx, tSe, tAs, gN, gS, gT, gsc, gs0, tU, i2_ii, i2c_ii, rNegD, intC, absD, minD, isD, eqi, eqs, eqb, nei, nes, neb, DL.rIsD, DL.rIsnD, addi, muli, tMe, tMe0, tBk, tCt, outD, EndsD.xk, startD, optP_some, List.map_cons, List.map_nil, List.length_cons, List.length_nil, List.cons_append, List.nil_append, List.append_nil, List.set_cons_zero, List.set_cons_succ, List.set_nil, List.getElem?_cons_zero, List.getElem?_cons_succ, List.replicate_succ, List.replicate_zero, Nat.zero_add, Nat.reduceAdd, Nat.reduceSub, decide_eq_true_eq, Bool.not_eq_true', decide_eq_false_iff_not]
  refine rep ?_
  simp only [wipeD, items_tup, items_lst, items_rng, tupleD, seqA_tup, seqA_lst, tSq, tIf', tTs, tO, tV, tK, tTr, truD, tNo, tAn, tOr', tAnV, tOrV', tNoV, tIfE, tN0, tCo, tTu, tLs, tCl, tFn, tMh, tRt, tRt0, tNx, tEx, tSe, tAs, gN, gS, gT, gsc, gs0, tU, i2_ii, i2c_ii, rNegD, intC, absD, minD, isD, eqi, eqs, eqb, nei, nes, neb, DL.rIsD, DL.rIsnD, addi, muli, tMe, tMe0, tBk, tCt, outD, EndsD.xk, startD, optP_some, List.map_cons, List.map_nil, List.length_cons, List.length_nil, List.cons_append, List.nil_append, List.append_nil, List.set_cons_zero, List.set_cons_succ, List.set_nil, List.getElem?_cons_zero, List.getElem?_cons_succ, List.replicate_succ, List.replicate_zero, Nat.zero_add, Nat.reduceAdd, Nat.reduceSub, decide_eq_true_eq, Bool.not_eq_true', decide_eq_false_iff_not, decide_true, Bool.not_true, Bool.false_eq_true, Bool.true_eq_false, if_false]
  refine ⟨A, _, rfl, hC (sE sub), w, ?_⟩
  simp only [wipeD, items_tup, items_lst, items_rng, tupleD, seqA_tup, seqA_lst, tSq, tIf', tTs, tO, tV, tK, tTr, truD, tNo, tAn, tOr', tAnV, tOrV', tNoV, tIfE, tN0, tCo, tTu, tLs, tCl, tFn, tMh, tRt, tRt0, tNx, tEx, tSe, tAs, gN, gS, gT, gsc, gs0, tU, i2_ii, i2c_ii, rNegD, intC, absD, minD, isD, eqi, eqs, eqb, nei, nes, neb, DL.rIsD, DL.rIsnD, addi, muli, tMe, tMe0, tBk, tCt, outD, EndsD.xk, startD, optP_some, List.map_cons, List.map_nil, List.length_cons, List.length_nil, List.cons_append, List.nil_append, List.append_nil, List.set_cons_zero, List.set_cons_succ, List.set_nil, List.getElem?_cons_zero, List.getElem?_cons_succ, List.replicate_succ, List.replicate_zero, Nat.zero_add, Nat.reduceAdd, Nat.reduceSub, decide_eq_true_eq, Bool.not_eq_true', decide_eq_false_iff_not, Bool.not_true, Bool.false_eq_true, Bool.true_eq_false, if_false]
  subst hT
  refine tSq_step fun T hT => ?_
  simp only [wipeD, items_tup, items_lst, items_rng, tupleD, seqA_tup, seqA_lst, tSq, tIf', tTs, tO, tV, tK, tTr, truD, tNo, tAn, tOr', tAnV, tOrV', tNoV, tIfE, tN0, tCo, tTu, tLs, tCl, tFn, tMh, tRt, tRt0, tNx, tEx, tSe, tAs, gN, gS, gT, gsc, gs0, tU, i2_ii, i2c_ii, rNegD, intC, absD, minD, isD, eqi, eqs, eqb, nei, nes, neb, DL.rIsD, DL.rIsnD, addi, muli, tMe, tMe0, tBk, tCt, outD, EndsD.xk, startD, optP_some, List.map_cons, List.map_nil, List.length_cons, List.length_nil, List.cons_append, List.nil_append, List.append_nil, List.set_cons_zero, List.set_cons_succ, List.set_nil, List.getElem?_cons_zero, List.getElem?_cons_succ, List.replicate_succ, List.replicate_zero, Nat.zero_add, Nat.reduceAdd, Nat.reduceSub, decide_eq_true_eq, Bool.not_eq_true', decide_eq_false_iff_not]
  refine ⟨A, rfl, w, is_fault_ok ?_⟩
  simp only [wipeD, items_tup, items_lst, items_rng, tupleD, seqA_tup, seqA_lst, tSq, tIf', tTs, tO, tV, tK, tTr, truD, tNo, tAn, tOr', tAnV, tOrV', tNoV, tIfE, tN0, tCo, tTu, tLs, tCl, tFn, tMh, tRt, tRt0, tNx, tEx, tSe, tAs, gN, gS, gT, gsc, gs0, tU, i2_ii, i2c_ii, rNegD, intC, absD, minD, isD, eqi, eqs, eqb, nei, nes, neb, DL.rIsD, DL.rIsnD, addi, muli, tMe, tMe0, tBk, tCt, outD, EndsD.xk, startD, optP_some, List.map_cons, List.map_nil, List.length_cons, List.length_nil, List.cons_append, List.nil_append, List.append_nil, List.set_cons_zero, List.set_cons_succ, List.set_nil, List.getElem?_cons_zero, List.getElem?_cons_succ, List.replicate_succ, List.replicate_zero, Nat.zero_add, Nat.reduceAdd, Nat.reduceSub, decide_eq_true_eq, Bool.not_eq_true', decide_eq_false_iff_not, Bool.not_true, Bool.false_eq_true, Bool.true_eq_false, if_false]
  -- the lists handed in are changed
  have gv := hG.gv w
  subst hT
  refine tSq_step fun T hT => ?_
  simp only [tFo, tIR1, wipeD, items_tup, items_lst, items_rng, tupleD, seqA_tup, seqA_lst, tSq, tIf', tTs, tO, tV, tK, tTr, truD, tNo, tAn, tOr', tAnV, tOrV', tNoV, tIfE, tN0, tCo, tTu, tLs, tCl, tFn, tMh, tRt, tRt0, tNx, tEx, tSe, tAs, gN, gS, gT, gsc, gs0, tU, i2_ii, i2c_ii, rNegD, intC, absD, minD, isD, eqi, eqs, eqb, nei, nes, neb, DL.rIsD, DL.rIsnD, addi, muli, tMe, tMe0, tBk, tCt, outD, EndsD.xk, startD, optP_some, List.map_cons, List.map_nil, List.length_cons, List.length_nil, List.cons_append, List.nil_append, List.append_nil, List.set_cons_zero, List.set_cons_succ, List.set_nil, List.getElem?_cons_zero, List.getElem?_cons_succ, List.replicate_succ, List.replicate_zero, Nat.zero_add, Nat.reduceAdd, Nat.reduceSub, decide_eq_true_eq, Bool.not_eq_true', decide_eq_false_iff_not]
  refine ⟨⟨by decide, by decide⟩, ?_⟩
  refine forGo_range (n := 5) (P := fun k δ N' => (∃ a, δ = [some (.scr ns), some (.ref st), some (.ref t), some (faultV A), some (.ref g), some (.str kept), some (algD K A), a]) ∧ Sub N N' ∧ Gv N' (fun a => N a = none) g (40 + k)) (fun δ N' hP => ?_) (fun k hk δ N' hP R hR => ⟨trivial, ?_⟩) ⟨⟨_, rfl⟩, sub, gv⟩
  · obtain ⟨⟨a, rfl⟩, sub, gv⟩ := hP
    refine ⟨trivial, ?_⟩
    obtain ⟨tm, p0, rs, xs, g1, g2, g3, g4, g5, g6, g7, g8⟩ := gv.ex
    obtain ⟨p0', y, ys, e0, q1, q2, q3, q4, q5⟩ := g8.ex
    cases e0
    subst hT
    try dsimp only
    refine tSq_step fun T hT => ?_
    simp only [wipeD, items_tup, items_lst, items_rng, tupleD, seqA_tup, seqA_lst, tSq, tIf', tTs, tO, tV, tK, tTr, truD, tNo, tAn, tOr', tAnV, tOrV', tNoV, tIfE, tN0, tCo, tTu, tLs, tCl, tFn, tMh, tRt, tRt0, tNx, tEx, tSe, tAs, gN, gS, gT, gsc, gs0, tU, i2_ii, i2c_ii, rNegD, intC, absD, minD, isD, eqi, eqs, eqb, nei, nes, neb, DL.rIsD, DL.rIsnD, addi, muli, tMe, tMe0, tBk, tCt, outD, EndsD.xk, startD, optP_some, List.map_cons, List.map_nil, List.length_cons, List.length_nil, List.cons_append, List.nil_append, List.append_nil, List.set_cons_zero, List.set_cons_succ, List.set_nil, List.getElem?_cons_zero, List.getElem?_cons_succ, List.replicate_succ, List.replicate_zero, Nat.zero_add, Nat.reduceAdd, Nat.reduceSub, decide_eq_true_eq, Bool.not_eq_true', decide_eq_false_iff_not]
    refine lenK ?_
    simp only [wipeD, items_tup, items_lst, items_rng, tupleD, seqA_tup, seqA_lst, tSq, tIf', tTs, tO, tV, tK, tTr, truD, tNo, tAn, tOr', tAnV, tOrV', tNoV, tIfE, tN0, tCo, tTu, tLs, tCl, tFn, tMh, tRt, tRt0, tNx, tEx, tSe, tAs, gN, gS, gT, gsc, gs0, tU, i2_ii, i2c_ii, rNegD, intC, absD, minD, isD, eqi, eqs, eqb, nei, nes, neb, DL.rIsD, DL.rIsnD, addi, muli, tMe, tMe0, tBk, tCt, outD, EndsD.xk, startD, optP_some, List.map_cons, List.map_nil, List.length_cons, List.length_nil, List.cons_append, List.nil_append, List.append_nil, List.set_cons_zero, List.set_cons_succ, List.set_nil, List.getElem?_cons_zero, List.getElem?_cons_succ, List.replicate_succ, List.replicate_zero, Nat.zero_add, Nat.reduceAdd, Nat.reduceSub, decide_eq_true_eq, Bool.not_eq_true', decide_eq_false_iff_not, ix_eq (seqA_ref g1) atI_0, ix_eq (seqA_ref g6) atI_0, setD_eq q4 (j := 0) (by decide) (by rw [List.length_cons]; omega)]
    have gv := gv.row (z := .int kept.length) g1 q2 q3 (show ys.length ≤ 40 + 5 + 1 by omega)
    have sub := sub.put (c := .lst (.int kept.length :: ys)) q1
    have hset : (y :: ys).set (0 : Int).toNat (.int kept.length) = .int kept.length :: ys := rfl
    rw [hset]
    generalize put N' p0 (.lst (.int kept.length :: ys)) = N' at gv sub ⊢
    clear g1 g2 g3 g4 g5 g6 g7 g8 q1 q2 q3 q4 q5 hset
    obtain ⟨tm, p0, rs, xs, g1, g2, g3, g4, g5, g6, g7, g8⟩ := gv.ex
    match rs, g2, g3, g1 with
    | [d1, d2, d3, d4], _, g3, g1 =>
    obtain ⟨p1, y, ys, e0, q1, q2, q3, q4, q5⟩ := (g3 d1 (List.mem_cons_self ..)).ex
    cases e0
    subst hT
    refine tSq_step fun T hT => ?_
    simp only [wipeD, items_tup, items_lst, items_rng, tupleD, seqA_tup, seqA_lst, tSq, tIf', tTs, tO, tV, tK, tTr, truD, tNo, tAn, tOr', tAnV, tOrV', tNoV, tIfE, tN0, tCo, tTu, tLs, tCl, tFn, tMh, tRt, tRt0, tNx, tEx, tSe, tAs, gN, gS, gT, gsc, gs0, tU, i2_ii, i2c_ii, rNegD, intC, absD, minD, isD, eqi, eqs, eqb, nei, nes, neb, DL.rIsD, DL.rIsnD, addi, muli, tMe, tMe0, tBk, tCt, outD, EndsD.xk, startD, optP_some, List.map_cons, List.map_nil, List.length_cons, List.length_nil, List.cons_append, List.nil_append, List.append_nil, List.set_cons_zero, List.set_cons_succ, List.set_nil, List.getElem?_cons_zero, List.getElem?_cons_succ, List.replicate_succ, List.replicate_zero, Nat.zero_add, Nat.reduceAdd, Nat.reduceSub, decide_eq_true_eq, Bool.not_eq_true', decide_eq_false_iff_not]
    refine lenK ?_
    simp only [wipeD, items_tup, items_lst, items_rng, tupleD, seqA_tup, seqA_lst, tSq, tIf', tTs, tO, tV, tK, tTr, truD, tNo, tAn, tOr', tAnV, tOrV', tNoV, tIfE, tN0, tCo, tTu, tLs, tCl, tFn, tMh, tRt, tRt0, tNx, tEx, tSe, tAs, gN, gS, gT, gsc, gs0, tU, i2_ii, i2c_ii, rNegD, intC, absD, minD, isD, eqi, eqs, eqb, nei, nes, neb, DL.rIsD, DL.rIsnD, addi, muli, tMe, tMe0, tBk, tCt, outD, EndsD.xk, startD, optP_some, List.map_cons, List.map_nil, List.length_cons, List.length_nil, List.cons_append, List.nil_append, List.append_nil, List.set_cons_zero, List.set_cons_succ, List.set_nil, List.getElem?_cons_zero, List.getElem?_cons_succ, List.replicate_succ, List.replicate_zero, Nat.zero_add, Nat.reduceAdd, Nat.reduceSub, decide_eq_true_eq, Bool.not_eq_true', decide_eq_false_iff_not, ix_eq (seqA_ref g1) atI_1, setD_eq q4 (j := 0) (by decide) (by rw [List.length_cons]; omega)]
    have sub := sub.put (c := .lst ((y :: ys).set (0 : Int).toNat (.int kept.length))) q1
    generalize put N' p1 (.lst ((y :: ys).set (0 : Int).toNat (.int kept.length))) = N' at sub ⊢
    have ex := sE sub
    have s := sS sub
    clear gv g1 g3 g4 g5 g6 g7 g8 q1 q2 q3 q4 q5
    subst hT
    refine tSq_step fun T hT => ?_
    simp only [wipeD, items_tup, items_lst, items_rng, tupleD, seqA_tup, seqA_lst, tSq, tIf', tTs, tO, tV, tK, tTr, truD, tNo, tAn, tOr', tAnV, tOrV', tNoV, tIfE, tN0, tCo, tTu, tLs, tCl, tFn, tMh, tRt, tRt0, tNx, tEx, tSe, tAs, gN, gS, gT, gsc, gs0, tU, i2_ii, i2c_ii, rNegD, intC, absD, minD, isD, eqi, eqs, eqb, nei, nes, neb, DL.rIsD, DL.rIsnD, addi, muli, tMe, tMe0, tBk, tCt, outD, EndsD.xk, startD, optP_some, List.map_cons, List.map_nil, List.length_cons, List.length_nil, List.cons_append, List.nil_append, List.append_nil, List.set_cons_zero, List.set_cons_succ, List.set_nil, List.getElem?_cons_zero, List.getElem?_cons_succ, List.replicate_succ, List.replicate_zero, Nat.zero_add, Nat.reduceAdd, Nat.reduceSub, decide_eq_true_eq, Bool.not_eq_true', decide_eq_false_iff_not]
    refine ⟨A, _, rfl, hC ex, w, ?_⟩
    simp only [wipeD, items_tup, items_lst, items_rng, tupleD, seqA_tup, seqA_lst, tSq, tIf', tTs, tO, tV, tK, tTr, truD, tNo, tAn, tOr', tAnV, tOrV', tNoV, tIfE, tN0, tCo, tTu, tLs, tCl, tFn, tMh, tRt, tRt0, tNx, tEx, tSe, tAs, gN, gS, gT, gsc, gs0, tU, i2_ii, i2c_ii, rNegD, intC, absD, minD, isD, eqi, eqs, eqb, nei, nes, neb, DL.rIsD, DL.rIsnD, addi, muli, tMe, tMe0, tBk, tCt, outD, EndsD.xk, startD, optP_some, List.map_cons, List.map_nil, List.length_cons, List.length_nil, List.cons_append, List.nil_append, List.append_nil, List.set_cons_zero, List.set_cons_succ, List.set_nil, List.getElem?_cons_zero, List.getElem?_cons_succ, List.replicate_succ, List.replicate_zero, Nat.zero_add, Nat.reduceAdd, Nat.reduceSub, decide_eq_true_eq, Bool.not_eq_true', decide_eq_false_iff_not, Bool.not_true, Bool.false_eq_true, Bool.true_eq_false, if_false]
    subst hT
    refine tSq_step fun T hT => ?_
    simp only [wipeD, items_tup, items_lst, items_rng, tupleD, seqA_tup, seqA_lst, tSq, tIf', tTs, tO, tV, tK, tTr, truD, tNo, tAn, tOr', tAnV, tOrV', tNoV, tIfE, tN0, tCo, tTu, tLs, tCl, tFn, tMh, tRt, tRt0, tNx, tEx, tSe, tAs, gN, gS, gT, gsc, gs0, tU, i2_ii, i2c_ii, rNegD, intC, absD, minD, isD, eqi, eqs, eqb, nei, nes, neb, DL.rIsD, DL.rIsnD, addi, muli, tMe, tMe0, tBk, tCt, outD, EndsD.xk, startD, optP_some, List.map_cons, List.map_nil, List.length_cons, List.length_nil, List.cons_append, List.nil_append, List.append_nil, List.set_cons_zero, List.set_cons_succ, List.set_nil, List.getElem?_cons_zero, List.getElem?_cons_succ, List.replicate_succ, List.replicate_zero, Nat.zero_add, Nat.reduceAdd, Nat.reduceSub, decide_eq_true_eq, Bool.not_eq_true', decide_eq_false_iff_not]
    refine ⟨A, rfl, w, is_fault_ok ?_⟩
    simp only [wipeD, items_tup, items_lst, items_rng, tupleD, seqA_tup, seqA_lst, tSq, tIf', tTs, tO, tV, tK, tTr, truD, tNo, tAn, tOr', tAnV, tOrV', tNoV, tIfE, tN0, tCo, tTu, tLs, tCl, tFn, tMh, tRt, tRt0, tNx, tEx, tSe, tAs, gN, gS, gT, gsc, gs0, tU, i2_ii, i2c_ii, rNegD, intC, absD, minD, isD, eqi, eqs, eqb, nei, nes, neb, DL.rIsD, DL.rIsnD, addi, muli, tMe, tMe0, tBk, tCt, outD, EndsD.xk, startD, optP_some, List.map_cons, List.map_nil, List.length_cons, List.length_nil, List.cons_append, List.nil_append, List.append_nil, List.set_cons_zero, List.set_cons_succ, List.set_nil, List.getElem?_cons_zero, List.getElem?_cons_succ, List.replicate_succ, List.replicate_zero, Nat.zero_add, Nat.reduceAdd, Nat.reduceSub, decide_eq_true_eq, Bool.not_eq_true', decide_eq_false_iff_not, Bool.not_true, Bool.false_eq_true, Bool.true_eq_false, if_false]
    subst hT
    refine tSq_step fun T hT => ?_
    simp only [wipeD, items_tup, items_lst, items_rng, tupleD, seqA_tup, seqA_lst, tSq, tIf', tTs, tO, tV, tK, tTr, truD, tNo, tAn, tOr', tAnV, tOrV', tNoV, tIfE, tN0, tCo, tTu, tLs, tCl, tFn, tMh, tRt, tRt0, tNx, tEx, tSe, tAs, gN, gS, gT, gsc, gs0, tU, i2_ii, i2c_ii, rNegD, intC, absD, minD, isD, eqi, eqs, eqb, nei, nes, neb, DL.rIsD, DL.rIsnD, addi, muli, tMe, tMe0, tBk, tCt, outD, EndsD.xk, startD, optP_some, List.map_cons, List.map_nil, List.length_cons, List.length_nil, List.cons_append, List.nil_append, List.append_nil, List.set_cons_zero, List.set_cons_succ, List.set_nil, List.getElem?_cons_zero, List.getElem?_cons_succ, List.replicate_succ, List.replicate_zero, Nat.zero_add, Nat.reduceAdd, Nat.reduceSub, decide_eq_true_eq, Bool.not_eq_true', decide_eq_false_iff_not]
    refine ⟨st, cs, A, .ref t, rfl, s, w, fun N2 e2 => hC (ex.trans e2), fun N2 e2 _ s => ?_⟩
    simp only [wipeD, items_tup, items_lst, items_rng, tupleD, seqA_tup, seqA_lst, tSq, tIf', tTs, tO, tV, tK, tTr, truD, tNo, tAn, tOr', tAnV, tOrV', tNoV, tIfE, tN0, tCo, tTu, tLs, tCl, tFn, tMh, tRt, tRt0, tNx, tEx, tSe, tAs, gN, gS, gT, gsc, gs0, tU, i2_ii, i2c_ii, rNegD, intC, absD, minD, isD, eqi, eqs, eqb, nei, nes, neb, DL.rIsD, DL.rIsnD, addi, muli, tMe, tMe0, tBk, tCt, outD, EndsD.xk, startD, optP_some, List.map_cons, List.map_nil, List.length_cons, List.length_nil, List.cons_append, List.nil_append, List.append_nil, List.set_cons_zero, List.set_cons_succ, List.set_nil, List.getElem?_cons_zero, List.getElem?_cons_succ, List.replicate_succ, List.replicate_zero, Nat.zero_add, Nat.reduceAdd, Nat.reduceSub, decide_eq_true_eq, Bool.not_eq_true', decide_eq_false_iff_not, Bool.not_true, Bool.false_eq_true, Bool.true_eq_false, if_false]
    have ex := ex.trans e2
    refine ⟨st, cs, A, rfl, s, w, fun N3 e3 _ s => ?_⟩
    have ex := ex.trans e3
    simp only [wipeD, items_tup, items_lst, items_rng, tupleD, seqA_tup, seqA_lst, tSq, tIf', tTs, tO, tV, tK, tTr, truD, tNo, tAn, tOr', tAnV, tOrV', tNoV, tIfE, tN0, tCo, tTu, tLs, tCl, tFn, tMh, tRt, tRt0, tNx, tEx, tSe, tAs, gN, gS, gT, gsc, gs0, tU, i2_ii, i2c_ii, rNegD, intC, absD, minD, isD, eqi, eqs, eqb, nei, nes, neb, DL.rIsD, DL.rIsnD, addi, muli, tMe, tMe0, tBk, tCt, outD, EndsD.xk, startD, optP_some, List.map_cons, List.map_nil, List.length_cons, List.length_nil, List.cons_append, List.nil_append, List.append_nil, List.set_cons_zero, List.set_cons_succ, List.set_nil, List.getElem?_cons_zero, List.getElem?_cons_succ, List.replicate_succ, List.replicate_zero, Nat.zero_add, Nat.reduceAdd, Nat.reduceSub, decide_eq_true_eq, Bool.not_eq_true', decide_eq_false_iff_not, Bool.not_true, Bool.false_eq_true, Bool.true_eq_false, if_false]
    subst hT
    simp only [wipeD, items_tup, items_lst, items_rng, tupleD, seqA_tup, seqA_lst, tSq, tIf', tTs, tO, tV, tK, tTr, truD, tNo, tAn, tOr', tAnV, tOrV', tNoV, tIfE, tN0, tCo, tTu, tLs, tCl, tFn, tMh, tRt, tRt0, tNx, tEx, tSe, tAs, gN, gS, gT, gsc, gs0, tU, i2_ii, i2c_ii, rNegD, intC, absD, minD, isD, eqi, eqs, eqb, nei, nes, neb, DL.rIsD, DL.rIsnD, addi, muli, tMe, tMe0, tBk, tCt, outD, EndsD.xk, startD, optP_some, List.map_cons, List.map_nil, List.length_cons, List.length_nil, List.cons_append, List.nil_append, List.append_nil, List.set_cons_zero, List.set_cons_succ, List.set_nil, List.getElem?_cons_zero, List.getElem?_cons_succ, List.replicate_succ, List.replicate_zero, Nat.zero_add, Nat.reduceAdd, Nat.reduceSub, decide_eq_true_eq, Bool.not_eq_true', decide_eq_false_iff_not]
    refine ⟨st, cs, t, A, rfl, s, w, stay ex, fun N4 s => ?_⟩
    simp only [wipeD, items_tup, items_lst, items_rng, tupleD, seqA_tup, seqA_lst, tSq, tIf', tTs, tO, tV, tK, tTr, truD, tNo, tAn, tOr', tAnV, tOrV', tNoV, tIfE, tN0, tCo, tTu, tLs, tCl, tFn, tMh, tRt, tRt0, tNx, tEx, tSe, tAs, gN, gS, gT, gsc, gs0, tU, i2_ii, i2c_ii, rNegD, intC, absD, minD, isD, eqi, eqs, eqb, nei, nes, neb, DL.rIsD, DL.rIsnD, addi, muli, tMe, tMe0, tBk, tCt, outD, EndsD.xk, startD, optP_some, List.map_cons, List.map_nil, List.length_cons, List.length_nil, List.cons_append, List.nil_append, List.append_nil, List.set_cons_zero, List.set_cons_succ, List.set_nil, List.getElem?_cons_zero, List.getElem?_cons_succ, List.replicate_succ, List.replicate_zero, Nat.zero_add, Nat.reduceAdd, Nat.reduceSub, decide_eq_true_eq, Bool.not_eq_true', decide_eq_false_iff_not, if_true]
    exact ⟨st, cs, rfl, s, fun N5 => out_ret (h N5)⟩
  · obtain ⟨⟨a, rfl⟩, sub, gv⟩ := hP
    obtain ⟨tm, p0, rs, xs, g1, g2, g3, g4, g5, g6, g7, g8⟩ := gv.ex
    by_cases k0 : k = 0
    · subst k0
      simp only [wipeD, items_tup, items_lst, items_rng, tupleD, seqA_tup, seqA_lst, tSq, tIf', tTs, tO, tV, tK, tTr, truD, tNo, tAn, tOr', tAnV, tOrV', tNoV, tIfE, tN0, tCo, tTu, tLs, tCl, tFn, tMh, tRt, tRt0, tNx, tEx, tSe, tAs, gN, gS, gT, gsc, gs0, tU, i2_ii, i2c_ii, rNegD, intC, absD, minD, isD, eqi, eqs, eqb, nei, nes, neb, DL.rIsD, DL.rIsnD, addi, muli, tMe, tMe0, tBk, tCt, outD, EndsD.xk, startD, optP_some, List.map_cons, List.map_nil, List.length_cons, List.length_nil, List.cons_append, List.nil_append, List.append_nil, List.set_cons_zero, List.set_cons_succ, List.set_nil, List.getElem?_cons_zero, List.getElem?_cons_succ, List.replicate_succ, List.replicate_zero, Nat.zero_add, Nat.reduceAdd, Nat.reduceSub, decide_eq_true_eq, Bool.not_eq_true', decide_eq_false_iff_not, Int.natCast_zero, ix_eq (seqA_ref g1) atI_0, ix_eq (seqA_ref g6) atI_0]
      refine ⟨isLs_ref g6, ?_⟩
      rw [app_eq g6]
      exact ⟨by rw [sizeLine_eq, List.length_cons]; omega, hR _ _ ⟨⟨_, rfl⟩, sub.put g4, gv.tm g1 g6 (by show (xs ++ [D.ref p0]).length ≤ _; rw [List.length_append]; show xs.length + 1 ≤ _; omega)⟩⟩
    · have hx : k - 1 < rs.length := by omega
      obtain ⟨p, z, zs, e, sp, n1, n2, hp, l⟩ := (g3 _ (List.getElem_mem hx)).ex
      have ek : atI (.ref tm :: rs) (k : Int) = some (.ref p) := by
        rw [atI_in (by omega) (by rw [List.length_cons]; omega), Int.toNat_natCast]
        have e2 : k = k - 1 + 1 := by omega
        rw [e2, List.getElem?_cons_succ, List.getElem?_eq_getElem hx, e]
      simp only [wipeD, items_tup, items_lst, items_rng, tupleD, seqA_tup, seqA_lst, tSq, tIf', tTs, tO, tV, tK, tTr, truD, tNo, tAn, tOr', tAnV, tOrV', tNoV, tIfE, tN0, tCo, tTu, tLs, tCl, tFn, tMh, tRt, tRt0, tNx, tEx, tSe, tAs, gN, gS, gT, gsc, gs0, tU, i2_ii, i2c_ii, rNegD, intC, absD, minD, isD, eqi, eqs, eqb, nei, nes, neb, DL.rIsD, DL.rIsnD, addi, muli, tMe, tMe0, tBk, tCt, outD, EndsD.xk, startD, optP_some, List.map_cons, List.map_nil, List.length_cons, List.length_nil, List.cons_append, List.nil_append, List.append_nil, List.set_cons_zero, List.set_cons_succ, List.set_nil, List.getElem?_cons_zero, List.getElem?_cons_succ, List.replicate_succ, List.replicate_zero, Nat.zero_add, Nat.reduceAdd, Nat.reduceSub, decide_eq_true_eq, Bool.not_eq_true', decide_eq_false_iff_not, ix_eq (seqA_ref g1) ek, ix_eq (seqA_ref hp) atI_0]
      refine ⟨isLs_ref hp, ?_⟩
      rw [app_eq hp]
      exact ⟨by rw [sizeLine_eq, List.length_cons]; omega, hR _ _ ⟨⟨_, rfl⟩, sub.put sp, gv.row g1 n1 n2 (by show (zs ++ [z]).length ≤ _; rw [List.length_append]; show zs.length + 1 ≤ _; omega)⟩⟩
end K63
namespace K63
open PySem PySem.Spec PyProof.Rows L2 DL
variable [B : Obs]
abbrev PP : Program := PySem.W.OpenLaw.prog PySem.Challenge.rw_framesays_k63_algebra_faults
variable {h : Heap} {w : World} {K : PySem.W.Frag} {mg : Str → Option Value} {base : Heap}
theorem h_is_way_of (X : K.In h) (G : h.Ns mainGlobals mg) (c : DLH.obsK Hd.S K = DLH.valK Hd.S) : Has PP w K mg base 1 "is_way" ["word"] (sp_is_way K) := by
  obtain ⟨fd, F⟩ := DLH.def_ c 0 (d := Hd.d_is_way) rfl
  have ok := w_is_way (base := base) (P := PP) (w := w) (facts X G c)  F (fun ⟨_, e, _⟩ => by rw [e]; rfl) fun h => p_is_way  h
  have bd : Binds K fd ["word"] [] := F.bindsN fun _ _ _ _ _ _ us hl => match us, hl with | [_], _ => rfl
  exact ⟨_, fd, ok, He.glo_ok X G (DLH.fact c 5 (f := .glo "is_way") rfl), F.kp, bd⟩
theorem h_check_way_of (X : K.In h) (G : h.Ns mainGlobals mg) (c : DLH.obsK Hd.S K = DLH.valK Hd.S) : Has PP w K mg base 3 "check_way" ["way"] (sp_check_way K) := by
  obtain ⟨fd, F⟩ := DLH.def_ c 1 (d := Hd.d_check_way) rfl
  have ok := w_check_way (base := base) (P := PP) (w := w) (facts X G c) (h_is_way_of X G c) F (fun ⟨_, e, _⟩ => by rw [e]; rfl) fun h => p_check_way  h
  have bd : Binds K fd ["way"] [] := F.bindsN fun _ _ _ _ _ _ us hl => match us, hl with | [_], _ => rfl
  exact ⟨_, fd, ok, He.glo_ok X G (DLH.fact c 6 (f := .glo "check_way") rfl), F.kp, bd⟩
theorem h__is_row_of (X : K.In h) (G : h.Ns mainGlobals mg) (c : DLH.obsK Hd.S K = DLH.valK Hd.S) : Has PP w K mg base 1 "_is_row" ["row", "size"] (sp__is_row K) := by
  obtain ⟨fd, F⟩ := DLH.def_ c 11 (d := Hd.d__is_row) rfl
  have ok := w__is_row (base := base) (P := PP) (w := w) (facts X G c)  F (fun ⟨_, _, _, e, _⟩ => by rw [e]; rfl) fun h => p__is_row  h
  have bd : Binds K fd ["row", "size"] [] := F.bindsN fun _ _ _ _ _ _ us hl => match us, hl with | [_, _], _ => rfl
  exact ⟨_, fd, ok, He.glo_ok X G (DLH.fact c 11 (f := .glo "_is_row") rfl), F.kp, bd⟩
theorem h__is_square_of (X : K.In h) (G : h.Ns mainGlobals mg) (c : DLH.obsK Hd.S K = DLH.valK Hd.S) : Has PP w K mg base 2 "_is_square" ["rows", "size"] (sp__is_square K) := by
  obtain ⟨fd, F⟩ := DLH.def_ c 10 (d := Hd.d__is_square) rfl
  have ok := w__is_square (base := base) (P := PP) (w := w) (facts X G c) (h__is_row_of X G c) F (fun ⟨_, _, _, _, e, _⟩ => by rw [e]; rfl) fun h => p__is_square  h
  have bd : Binds K fd ["rows", "size"] [] := F.bindsN fun _ _ _ _ _ _ us hl => match us, hl with | [_, _], _ => rfl
  exact ⟨_, fd, ok, He.glo_ok X G (DLH.fact c 10 (f := .glo "_is_square") rfl), F.kp, bd⟩
theorem h_Algebra_of (X : K.In h) (G : h.Ns mainGlobals mg) (c : DLH.obsK Hd.S K = DLH.valK Hd.S) : HasC PP w K mg base 3 "Algebra" (He.ga K "Algebra") ["self", "meet", "rest", "a", "b", "c"] (sp_Algebra___init__ K) := by
  obtain ⟨fd, F⟩ := DLH.def_ c 2 (d := Hd.d_Algebra___init__) rfl
  have ok := w_Algebra___init__ (base := base) (P := PP) (w := w) (facts X G c) (h__is_square_of X G c) (h__is_row_of X G c) F (fun ⟨_, _, _, _, _, _, _, _, _, _, _, _, e, _⟩ => by rw [e]; rfl) fun h => p_Algebra___init__ (facts X G c) h
  have bd : Binds K fd ["self", "meet", "rest", "a", "b", "c"] [] := F.bindsN fun _ _ _ _ _ _ us hl => match us, hl with | [_, _, _, _, _, _], _ => rfl
  exact ⟨He.glo_ok X G (DLH.fact c 7 (f := .glo "Algebra") rfl), _, fd, ok, He.mkr_ok (DLH.fact c 64 (f := .mkr "Algebra") rfl), bd⟩
theorem hq_Algebra_of (X : K.In h) (G : h.Ns mainGlobals mg) (c : DLH.obsK Hd.S K = DLH.valK Hd.S) : HasQ PP w K mg base 1 (He.ga K "Algebra") (sp_Algebra___eq__ K) := by
  obtain ⟨fd, F⟩ := DLH.def_ c 3 (d := Hd.d_Algebra___eq__) rfl
  have ok := w_Algebra___eq__ (base := base) (P := PP) (w := w) (facts X G c)  F (fun ⟨_, _, e, _⟩ => by rw [e]; rfl) fun h => p_Algebra___eq__ (facts X G c) h
  have bd : Binds K fd ["self", "other"] [] := F.bindsN fun _ _ _ _ _ _ us hl => match us, hl with | [_, _], _ => rfl
  obtain ⟨q1, q2⟩ := He.ba (ex_at c 6 rfl)
  exact ⟨_, fd, _, ok, of_decide_eq_true q1, q2, bd⟩
theorem h_Algebra_table_of (X : K.In h) (G : h.Ns mainGlobals mg) (c : DLH.obsK Hd.S K = DLH.valK Hd.S) : HasM PP w K mg base 4 (He.ga K "Algebra") "table" ["self", "way"] (sp_Algebra_table K) := by
  obtain ⟨fd, F⟩ := DLH.def_ c 4 (d := Hd.d_Algebra_table) rfl
  have ok := w_Algebra_table (base := base) (P := PP) (w := w) (facts X G c) (h_check_way_of X G c) F (fun ⟨_, _, e, _⟩ => by rw [e]; rfl) fun h => p_Algebra_table (facts X G c) h
  have bd : Binds K fd ["self", "way"] [] := F.bindsN fun _ _ _ _ _ _ us hl => match us, hl with | [_, _], _ => rfl
  exact ⟨He.cls_ok (DLH.fact c 63 (f := .cls "Algebra") rfl), _, fd, ok, He.meth_ok (DLH.fact c 71 (f := .meth "Algebra" "table") rfl), bd⟩
theorem h_Algebra_zero_of (X : K.In h) (G : h.Ns mainGlobals mg) (c : DLH.obsK Hd.S K = DLH.valK Hd.S) : HasM PP w K mg base 1 (He.ga K "Algebra") "zero" ["self"] (sp_Algebra_zero K) := by
  obtain ⟨fd, F⟩ := DLH.def_ c 5 (d := Hd.d_Algebra_zero) rfl
  have ok := w_Algebra_zero (base := base) (P := PP) (w := w) (facts X G c)  F (fun ⟨_, e, _⟩ => by rw [e]; rfl) fun h => p_Algebra_zero (facts X G c) h
  have bd : Binds K fd ["self"] [] := F.bindsN fun _ _ _ _ _ _ us hl => match us, hl with | [_], _ => rfl
  exact ⟨He.cls_ok (DLH.fact c 63 (f := .cls "Algebra") rfl), _, fd, ok, He.meth_ok (DLH.fact c 72 (f := .meth "Algebra" "zero") rfl), bd⟩
theorem h_Algebra_one_of (X : K.In h) (G : h.Ns mainGlobals mg) (c : DLH.obsK Hd.S K = DLH.valK Hd.S) : HasM PP w K mg base 2 (He.ga K "Algebra") "one" ["self"] (sp_Algebra_one K) := by
  obtain ⟨fd, F⟩ := DLH.def_ c 6 (d := Hd.d_Algebra_one) rfl
  have ok := w_Algebra_one (base := base) (P := PP) (w := w) (facts X G c) (h_Algebra_zero_of X G c) F (fun ⟨_, e, _⟩ => by rw [e]; rfl) fun h => p_Algebra_one (facts X G c) h
  have bd : Binds K fd ["self"] [] := F.bindsN fun _ _ _ _ _ _ us hl => match us, hl with | [_], _ => rfl
  exact ⟨He.cls_ok (DLH.fact c 63 (f := .cls "Algebra") rfl), _, fd, ok, He.meth_ok (DLH.fact c 73 (f := .meth "Algebra" "one") rfl), bd⟩
theorem h_check_element_of (X : K.In h) (G : h.Ns mainGlobals mg) (c : DLH.obsK Hd.S K = DLH.valK Hd.S) : Has PP w K mg base 3 "check_element" ["algebra", "number"] (sp_check_element K) := by
  obtain ⟨fd, F⟩ := DLH.def_ c 8 (d := Hd.d_check_element) rfl
  have ok := w_check_element (base := base) (P := PP) (w := w) (facts X G c)  F (fun ⟨_, _, _, e, _⟩ => by rw [e]; rfl) fun h => p_check_element  h
  have bd : Binds K fd ["algebra", "number"] [] := F.bindsN fun _ _ _ _ _ _ us hl => match us, hl with | [_, _], _ => rfl
  exact ⟨_, fd, ok, He.glo_ok X G (DLH.fact c 8 (f := .glo "check_element") rfl), F.kp, bd⟩
theorem h__join_of (X : K.In h) (G : h.Ns mainGlobals mg) (c : DLH.obsK Hd.S K = DLH.valK Hd.S) : Has PP w K mg base 1 "_join" ["algebra", "x", "y"] (sp__join K) := by
  obtain ⟨fd, F⟩ := DLH.def_ c 12 (d := Hd.d__join) rfl
  have ok := w__join (base := base) (P := PP) (w := w) (facts X G c)  F (fun ⟨_, _, _, e, _⟩ => by rw [e]; rfl) fun h => p__join (facts X G c) h
  have bd : Binds K fd ["algebra", "x", "y"] [] := F.bindsN fun _ _ _ _ _ _ us hl => match us, hl with | [_, _, _], _ => rfl
  exact ⟨_, fd, ok, He.glo_ok X G (DLH.fact c 12 (f := .glo "_join") rfl), F.kp, bd⟩
theorem h_Algebra_join_of_of (X : K.In h) (G : h.Ns mainGlobals mg) (c : DLH.obsK Hd.S K = DLH.valK Hd.S) : HasM PP w K mg base 4 (He.ga K "Algebra") "join_of" ["self", "x", "y"] (sp_Algebra_join_of K) := by
  obtain ⟨fd, F⟩ := DLH.def_ c 7 (d := Hd.d_Algebra_join_of) rfl
  have ok := w_Algebra_join_of (base := base) (P := PP) (w := w) (facts X G c) (h_check_element_of X G c) (h__join_of X G c) F (fun ⟨_, _, _, e, _⟩ => by rw [e]; rfl) fun h => p_Algebra_join_of (facts X G c) h
  have bd : Binds K fd ["self", "x", "y"] [] := F.bindsN fun _ _ _ _ _ _ us hl => match us, hl with | [_, _, _], _ => rfl
  exact ⟨He.cls_ok (DLH.fact c 63 (f := .cls "Algebra") rfl), _, fd, ok, He.meth_ok (DLH.fact c 74 (f := .meth "Algebra" "join_of") rfl), bd⟩
theorem h__order_fault_of (X : K.In h) (G : h.Ns mainGlobals mg) (c : DLH.obsK Hd.S K = DLH.valK Hd.S) : Has PP w K mg base 1 "_order_fault" ["algebra"] (sp__order_fault K) := by
  obtain ⟨fd, F⟩ := DLH.def_ c 13 (d := Hd.d__order_fault) rfl
  have ok := w__order_fault (base := base) (P := PP) (w := w) (facts X G c)  F (fun ⟨_, e, _⟩ => by rw [e]; rfl) fun h => p__order_fault (facts X G c) h
  have bd : Binds K fd ["algebra"] [] := F.bindsN fun _ _ _ _ _ _ us hl => match us, hl with | [_], _ => rfl
  exact ⟨_, fd, ok, He.glo_ok X G (DLH.fact c 13 (f := .glo "_order_fault") rfl), F.kp, bd⟩
theorem h__group_fault_of (X : K.In h) (G : h.Ns mainGlobals mg) (c : DLH.obsK Hd.S K = DLH.valK Hd.S) : Has PP w K mg base 1 "_group_fault" ["algebra"] (sp__group_fault K) := by
  obtain ⟨fd, F⟩ := DLH.def_ c 14 (d := Hd.d__group_fault) rfl
  have ok := w__group_fault (base := base) (P := PP) (w := w) (facts X G c)  F (fun ⟨_, e, _⟩ => by rw [e]; rfl) fun h => p__group_fault (facts X G c) h
  have bd : Binds K fd ["algebra"] [] := F.bindsN fun _ _ _ _ _ _ us hl => match us, hl with | [_], _ => rfl
  exact ⟨_, fd, ok, He.glo_ok X G (DLH.fact c 14 (f := .glo "_group_fault") rfl), F.kp, bd⟩
theorem h__rest_fault_of (X : K.In h) (G : h.Ns mainGlobals mg) (c : DLH.obsK Hd.S K = DLH.valK Hd.S) : Has PP w K mg base 2 "_rest_fault" ["algebra"] (sp__rest_fault K) := by
  obtain ⟨fd, F⟩ := DLH.def_ c 15 (d := Hd.d__rest_fault) rfl
  have ok := w__rest_fault (base := base) (P := PP) (w := w) (facts X G c) (h_Algebra_zero_of X G c) F (fun ⟨_, e, _⟩ => by rw [e]; rfl) fun h => p__rest_fault (facts X G c) h
  have bd : Binds K fd ["algebra"] [] := F.bindsN fun _ _ _ _ _ _ us hl => match us, hl with | [_], _ => rfl
  exact ⟨_, fd, ok, He.glo_ok X G (DLH.fact c 15 (f := .glo "_rest_fault") rfl), F.kp, bd⟩
theorem h__may_fault_of (X : K.In h) (G : h.Ns mainGlobals mg) (c : DLH.obsK Hd.S K = DLH.valK Hd.S) : Has PP w K mg base 5 "_may_fault" ["algebra"] (sp__may_fault K) := by
  obtain ⟨fd, F⟩ := DLH.def_ c 16 (d := Hd.d__may_fault) rfl
  have ok := w__may_fault (base := base) (P := PP) (w := w) (facts X G c) (h_Algebra_zero_of X G c) (h_Algebra_table_of X G c) (h__join_of X G c) F (fun ⟨_, e, _⟩ => by rw [e]; rfl) fun h => p__may_fault (facts X G c) h
  have bd : Binds K fd ["algebra"] [] := F.bindsN fun _ _ _ _ _ _ us hl => match us, hl with | [_], _ => rfl
  exact ⟨_, fd, ok, He.glo_ok X G (DLH.fact c 16 (f := .glo "_may_fault") rfl), F.kp, bd⟩
theorem h_algebra_fault_of (X : K.In h) (G : h.Ns mainGlobals mg) (c : DLH.obsK Hd.S K = DLH.valK Hd.S) : Has PP w K mg base 6 "algebra_fault" ["algebra"] (sp_algebra_fault K) := by
  obtain ⟨fd, F⟩ := DLH.def_ c 9 (d := Hd.d_algebra_fault) rfl
  have ok := w_algebra_fault (base := base) (P := PP) (w := w) (facts X G c) (h__order_fault_of X G c) (h__group_fault_of X G c) (h__rest_fault_of X G c) (h__may_fault_of X G c) F (fun ⟨_, e, _⟩ => by rw [e]; rfl) fun h => p_algebra_fault (facts X G c) h
  have bd : Binds K fd ["algebra"] [] := F.bindsN fun _ _ _ _ _ _ us hl => match us, hl with | [_], _ => rfl
  exact ⟨_, fd, ok, He.glo_ok X G (DLH.fact c 9 (f := .glo "algebra_fault") rfl), F.kp, bd⟩
theorem h__law_cells_of (X : K.In h) (G : h.Ns mainGlobals mg) (c : DLH.obsK Hd.S K = DLH.valK Hd.S) : Has PP w K mg base 1 "_law_cells" ["script"] (sp__law_cells K) := by
  obtain ⟨fd, F⟩ := DLH.def_ c 17 (d := Hd.d__law_cells) rfl
  have ok := w__law_cells (base := base) (P := PP) (w := w) (facts X G c)  F (fun ⟨_, e, _⟩ => by rw [e]; rfl) fun h => p__law_cells  h
  have bd : Binds K fd ["script"] [] := F.bindsN fun _ _ _ _ _ _ us hl => match us, hl with | [_], _ => rfl
  exact ⟨_, fd, ok, He.glo_ok X G (DLH.fact c 17 (f := .glo "_law_cells") rfl), F.kp, bd⟩
theorem h__law_take_of (X : K.In h) (G : h.Ns mainGlobals mg) (c : DLH.obsK Hd.S K = DLH.valK Hd.S) : Has PP w K mg base 1 "_law_take" ["state", "many"] (sp__law_take K) := by
  obtain ⟨fd, F⟩ := DLH.def_ c 18 (d := Hd.d__law_take) rfl
  have ok := w__law_take (base := base) (P := PP) (w := w) (facts X G c)  F (fun ⟨_, _, _, e, _⟩ => by rw [e]; rfl) fun h => p__law_take  h
  have bd : Binds K fd ["state", "many"] [] := F.bindsN fun _ _ _ _ _ _ us hl => match us, hl with | [_, _], _ => rfl
  exact ⟨_, fd, ok, He.glo_ok X G (DLH.fact c 18 (f := .glo "_law_take") rfl), F.kp, bd⟩
theorem h__law_plain_of (X : K.In h) (G : h.Ns mainGlobals mg) (c : DLH.obsK Hd.S K = DLH.valK Hd.S) : Has PP w K mg base 1 "_law_plain" ["told"] (sp__law_plain K) := by
  obtain ⟨fd, F⟩ := DLH.def_ c 19 (d := Hd.d__law_plain) rfl
  have ok := w__law_plain (base := base) (P := PP) (w := w) (facts X G c)  F (fun ⟨_, e, _⟩ => by rw [e]; rfl) fun h => p__law_plain  h
  have bd : Binds K fd ["told"] [] := F.bindsN fun _ _ _ _ _ _ us hl => match us, hl with | [_], _ => rfl
  exact ⟨_, fd, ok, He.glo_ok X G (DLH.fact c 19 (f := .glo "_law_plain") rfl), F.kp, bd⟩
theorem hh__law_plain_of (X : K.In h) (G : h.Ns mainGlobals mg) (c : DLH.obsK Hd.S K = DLH.valK Hd.S) : HasH PP w K mg base 1 "_law_plain" ["told"] (sp__law_plain K) := by
  obtain ⟨fd, F⟩ := DLH.def_ c 19 (d := Hd.d__law_plain) rfl
  have ok := wh__law_plain (base := base) (P := PP) (w := w) (facts X G c) F (fun ⟨_, e, _⟩ => by rw [e]; rfl) fun h => p__law_plain (X := X0)  h
  have bd : Binds K fd ["told"] [] := F.bindsN fun _ _ _ _ _ _ us hl => match us, hl with | [_], _ => rfl
  exact ⟨_, fd, ok, He.glo_ok X G (DLH.fact c 19 (f := .glo "_law_plain") rfl), F.kp, bd⟩
theorem h__law_shuffle_of (X : K.In h) (G : h.Ns mainGlobals mg) (c : DLH.obsK Hd.S K = DLH.valK Hd.S) : Has PP w K mg base 2 "_law_shuffle" ["state", "size"] (sp__law_shuffle K) := by
  obtain ⟨fd, F⟩ := DLH.def_ c 20 (d := Hd.d__law_shuffle) rfl
  have ok := w__law_shuffle (base := base) (P := PP) (w := w) (facts X G c) (h__law_take_of X G c) F (fun ⟨_, _, _, e, _⟩ => by rw [e]; rfl) fun h => p__law_shuffle  h
  have bd : Binds K fd ["state", "size"] [] := F.bindsN fun _ _ _ _ _ _ us hl => match us, hl with | [_, _], _ => rfl
  exact ⟨_, fd, ok, He.glo_ok X G (DLH.fact c 20 (f := .glo "_law_shuffle") rfl), F.kp, bd⟩
theorem h__law_is_row_of (X : K.In h) (G : h.Ns mainGlobals mg) (c : DLH.obsK Hd.S K = DLH.valK Hd.S) : Has PP w K mg base 2 "_law_is_row" ["told", "due"] (sp__law_is_row K) := by
  obtain ⟨fd, F⟩ := DLH.def_ c 21 (d := Hd.d__law_is_row) rfl
  have ok := w__law_is_row (base := base) (P := PP) (w := w) (facts X G c) (h__law_plain_of X G c) F (fun ⟨_, _, _, e, _⟩ => by rw [e]; rfl) fun h => p__law_is_row  h
  have bd : Binds K fd ["told", "due"] [] := F.bindsN fun _ _ _ _ _ _ us hl => match us, hl with | [_, _], _ => rfl
  exact ⟨_, fd, ok, He.glo_ok X G (DLH.fact c 21 (f := .glo "_law_is_row") rfl), F.kp, bd⟩
theorem h__law_is_fault_of (X : K.In h) (G : h.Ns mainGlobals mg) (c : DLH.obsK Hd.S K = DLH.valK Hd.S) : Has PP w K mg base 2 "_law_is_fault" ["told", "due"] (sp__law_is_fault K) := by
  obtain ⟨fd, F⟩ := DLH.def_ c 22 (d := Hd.d__law_is_fault) rfl
  have ok := w__law_is_fault (base := base) (P := PP) (w := w) (facts X G c) (h__law_plain_of X G c) F (fun ⟨_, e, _⟩ => by rw [e]; rfl) fun h => p__law_is_fault  h
  have bd : Binds K fd ["told", "due"] [] := F.bindsN fun _ _ _ _ _ _ us hl => match us, hl with | [_, _], _ => rfl
  exact ⟨_, fd, ok, He.glo_ok X G (DLH.fact c 22 (f := .glo "_law_is_fault") rfl), F.kp, bd⟩
theorem h__law_draw_steps_of (X : K.In h) (G : h.Ns mainGlobals mg) (c : DLH.obsK Hd.S K = DLH.valK Hd.S) : Has PP w K mg base 2 "_law_draw_steps" ["state", "size"] (sp__law_draw_steps K) := by
  obtain ⟨fd, F⟩ := DLH.def_ c 23 (d := Hd.d__law_draw_steps) rfl
  have ok := w__law_draw_steps (base := base) (P := PP) (w := w) (facts X G c) (h__law_take_of X G c) F (fun ⟨_, _, _, e, _⟩ => by rw [e]; rfl) fun h => p__law_draw_steps  h
  have bd : Binds K fd ["state", "size"] [] := F.bindsN fun _ _ _ _ _ _ us hl => match us, hl with | [_, _], _ => rfl
  exact ⟨_, fd, ok, He.glo_ok X G (DLH.fact c 23 (f := .glo "_law_draw_steps") rfl), F.kp, bd⟩
theorem h__law_before_of (X : K.In h) (G : h.Ns mainGlobals mg) (c : DLH.obsK Hd.S K = DLH.valK Hd.S) : Has PP w K mg base 1 "_law_before" ["steps", "e"] (sp__law_before K) := by
  obtain ⟨fd, F⟩ := DLH.def_ c 24 (d := Hd.d__law_before) rfl
  have ok := w__law_before (base := base) (P := PP) (w := w) (facts X G c)  F (fun ⟨_, _, _, e, _⟩ => by rw [e]; rfl) fun h => p__law_before  h
  have bd : Binds K fd ["steps", "e"] [] := F.bindsN fun _ _ _ _ _ _ us hl => match us, hl with | [_, _], _ => rfl
  exact ⟨_, fd, ok, He.glo_ok X G (DLH.fact c 24 (f := .glo "_law_before") rfl), F.kp, bd⟩
theorem h__law_set_tables_of (X : K.In h) (G : h.Ns mainGlobals mg) (c : DLH.obsK Hd.S K = DLH.valK Hd.S) : Has PP w K mg base 2 "_law_set_tables" ["ways", "order"] (sp__law_set_tables K) := by
  obtain ⟨fd, F⟩ := DLH.def_ c 25 (d := Hd.d__law_set_tables) rfl
  have ok := w__law_set_tables (base := base) (P := PP) (w := w) (facts X G c) (h__law_before_of X G c) F (fun ⟨_, _, _, _, _, _, e, _⟩ => by rw [e]; rfl) fun h => p__law_set_tables  h
  have bd : Binds K fd ["ways", "order"] [] := F.bindsN fun _ _ _ _ _ _ us hl => match us, hl with | [_, _], _ => rfl
  exact ⟨_, fd, ok, He.glo_ok X G (DLH.fact c 25 (f := .glo "_law_set_tables") rfl), F.kp, bd⟩
theorem h__law_join_of (X : K.In h) (G : h.Ns mainGlobals mg) (c : DLH.obsK Hd.S K = DLH.valK Hd.S) : Has PP w K mg base 1 "_law_join" ["tables", "x", "y"] (sp__law_join K) := by
  obtain ⟨fd, F⟩ := DLH.def_ c 26 (d := Hd.d__law_join) rfl
  have ok := w__law_join (base := base) (P := PP) (w := w) (facts X G c)  F (fun ⟨_, _, _, _, e, _⟩ => by rw [e]; rfl) fun h => p__law_join  h
  have bd : Binds K fd ["tables", "x", "y"] [] := F.bindsN fun _ _ _ _ _ _ us hl => match us, hl with | [_, _, _], _ => rfl
  exact ⟨_, fd, ok, He.glo_ok X G (DLH.fact c 26 (f := .glo "_law_join") rfl), F.kp, bd⟩
theorem h__law_group_of (X : K.In h) (G : h.Ns mainGlobals mg) (c : DLH.obsK Hd.S K = DLH.valK Hd.S) : Has PP w K mg base 1 "_law_group" ["meet", "size"] (sp__law_group K) := by
  obtain ⟨fd, F⟩ := DLH.def_ c 27 (d := Hd.d__law_group) rfl
  have ok := w__law_group (base := base) (P := PP) (w := w) (facts X G c)  F (fun ⟨_, _, _, e, _⟩ => by rw [e]; rfl) fun h => p__law_group  h
  have bd : Binds K fd ["meet", "size"] [] := F.bindsN fun _ _ _ _ _ _ us hl => match us, hl with | [_, _], _ => rfl
  exact ⟨_, fd, ok, He.glo_ok X G (DLH.fact c 27 (f := .glo "_law_group") rfl), F.kp, bd⟩
theorem h__law_mays_of (X : K.In h) (G : h.Ns mainGlobals mg) (c : DLH.obsK Hd.S K = DLH.valK Hd.S) : Has PP w K mg base 2 "_law_mays" ["tables", "zero"] (sp__law_mays K) := by
  obtain ⟨fd, F⟩ := DLH.def_ c 28 (d := Hd.d__law_mays) rfl
  have ok := w__law_mays (base := base) (P := PP) (w := w) (facts X G c) (h__law_join_of X G c) F (fun ⟨_, _, e, _⟩ => by rw [e]; rfl) fun h => p__law_mays  h
  have bd : Binds K fd ["tables", "zero"] [] := F.bindsN fun _ _ _ _ _ _ us hl => match us, hl with | [_, _], _ => rfl
  exact ⟨_, fd, ok, He.glo_ok X G (DLH.fact c 28 (f := .glo "_law_mays") rfl), F.kp, bd⟩
theorem h__law_first_fault_of (X : K.In h) (G : h.Ns mainGlobals mg) (c : DLH.obsK Hd.S K = DLH.valK Hd.S) : Has PP w K mg base 3 "_law_first_fault" ["tables"] (sp__law_first_fault K) := by
  obtain ⟨fd, F⟩ := DLH.def_ c 29 (d := Hd.d__law_first_fault) rfl
  have ok := w__law_first_fault (base := base) (P := PP) (w := w) (facts X G c) (h__law_group_of X G c) (h__law_mays_of X G c) F (fun ⟨_, _, e, _⟩ => by rw [e]; rfl) fun h => p__law_first_fault  h
  have bd : Binds K fd ["tables"] [] := F.bindsN fun _ _ _ _ _ _ us hl => match us, hl with | [_], _ => rfl
  exact ⟨_, fd, ok, He.glo_ok X G (DLH.fact c 29 (f := .glo "_law_first_fault") rfl), F.kp, bd⟩
theorem h__law_copy_of (X : K.In h) (G : h.Ns mainGlobals mg) (c : DLH.obsK Hd.S K = DLH.valK Hd.S) : Has PP w K mg base 1 "_law_copy" ["tables"] (sp__law_copy K) := by
  obtain ⟨fd, F⟩ := DLH.def_ c 30 (d := Hd.d__law_copy) rfl
  have ok := w__law_copy (base := base) (P := PP) (w := w) (facts X G c)  F (fun ⟨_, _, _, _, _, _, e, _⟩ => by rw [e]; rfl) fun h => p__law_copy  h
  have bd : Binds K fd ["tables"] [] := F.bindsN fun _ _ _ _ _ _ us hl => match us, hl with | [_], _ => rfl
  exact ⟨_, fd, ok, He.glo_ok X G (DLH.fact c 30 (f := .glo "_law_copy") rfl), F.kp, bd⟩
theorem h__law_filled_of (X : K.In h) (G : h.Ns mainGlobals mg) (c : DLH.obsK Hd.S K = DLH.valK Hd.S) : Has PP w K mg base 2 "_law_filled" ["state", "tables"] (sp__law_filled K) := by
  obtain ⟨fd, F⟩ := DLH.def_ c 31 (d := Hd.d__law_filled) rfl
  have ok := w__law_filled (base := base) (P := PP) (w := w) (facts X G c) (h__law_take_of X G c) F (fun ⟨_, _, _, _, _, e, _⟩ => by rw [e]; rfl) fun h => p__law_filled  h
  have bd : Binds K fd ["state", "tables"] [] := F.bindsN fun _ _ _ _ _ _ us hl => match us, hl with | [_, _], _ => rfl
  exact ⟨_, fd, ok, He.glo_ok X G (DLH.fact c 31 (f := .glo "_law_filled") rfl), F.kp, bd⟩
theorem h__law_chain_of (X : K.In h) (G : h.Ns mainGlobals mg) (c : DLH.obsK Hd.S K = DLH.valK Hd.S) : Has PP w K mg base 3 "_law_chain" ["state", "size"] (sp__law_chain K) := by
  obtain ⟨fd, F⟩ := DLH.def_ c 32 (d := Hd.d__law_chain) rfl
  have ok := w__law_chain (base := base) (P := PP) (w := w) (facts X G c) (h__law_take_of X G c) (h__law_filled_of X G c) F (fun ⟨_, _, _, e, _⟩ => by rw [e]; rfl) fun h => p__law_chain  h
  have bd : Binds K fd ["state", "size"] [] := F.bindsN fun _ _ _ _ _ _ us hl => match us, hl with | [_, _], _ => rfl
  exact ⟨_, fd, ok, He.glo_ok X G (DLH.fact c 32 (f := .glo "_law_chain") rfl), F.kp, bd⟩
theorem h__law_odd_tables_of (X : K.In h) (G : h.Ns mainGlobals mg) (c : DLH.obsK Hd.S K = DLH.valK Hd.S) : Has PP w K mg base 4 "_law_odd_tables" ["state", "way", "great"] (sp__law_odd_tables K) := by
  obtain ⟨fd, F⟩ := DLH.def_ c 33 (d := Hd.d__law_odd_tables) rfl
  have ok := w__law_odd_tables (base := base) (P := PP) (w := w) (facts X G c) (h__law_take_of X G c) (h__law_filled_of X G c) (h__law_chain_of X G c) F (fun ⟨_, _, _, _, e, _⟩ => by rw [e]; rfl) fun h => p__law_odd_tables  h
  have bd : Binds K fd ["state", "way", "great"] [] := F.bindsN fun _ _ _ _ _ _ us hl => match us, hl with | [_, _, _], _ => rfl
  exact ⟨_, fd, ok, He.glo_ok X G (DLH.fact c 33 (f := .glo "_law_odd_tables") rfl), F.kp, bd⟩
theorem h__law_spoil_of (X : K.In h) (G : h.Ns mainGlobals mg) (c : DLH.obsK Hd.S K = DLH.valK Hd.S) : Has PP w K mg base 2 "_law_spoil" ["state", "tables"] (sp__law_spoil K) := by
  obtain ⟨fd, F⟩ := DLH.def_ c 34 (d := Hd.d__law_spoil) rfl
  have ok := w__law_spoil (base := base) (P := PP) (w := w) (facts X G c) (h__law_take_of X G c) F (fun ⟨_, _, _, _, _, e, _⟩ => by rw [e]; rfl) fun h => p__law_spoil  h
  have bd : Binds K fd ["state", "tables"] [] := F.bindsN fun _ _ _ _ _ _ us hl => match us, hl with | [_, _], _ => rfl
  exact ⟨_, fd, ok, He.glo_ok X G (DLH.fact c 34 (f := .glo "_law_spoil") rfl), F.kp, bd⟩
theorem h__law_built_of (X : K.In h) (G : h.Ns mainGlobals mg) (c : DLH.obsK Hd.S K = DLH.valK Hd.S) : Has PP w K mg base 5 "_law_built" ["state"] (sp__law_built K) := by
  obtain ⟨fd, F⟩ := DLH.def_ c 35 (d := Hd.d__law_built) rfl
  have ok := w__law_built (base := base) (P := PP) (w := w) (facts X G c) (h__law_take_of X G c) (h__law_odd_tables_of X G c) (h__law_draw_steps_of X G c) (h__law_set_tables_of X G c) (h__law_shuffle_of X G c) (h__law_spoil_of X G c) F (fun ⟨_, _, e, _⟩ => by rw [e]; rfl) fun h => p__law_built  h
  have bd : Binds K fd ["state"] [] := F.bindsN fun _ _ _ _ _ _ us hl => match us, hl with | [_], _ => rfl
  exact ⟨_, fd, ok, He.glo_ok X G (DLH.fact c 35 (f := .glo "_law_built") rfl), F.kp, bd⟩
theorem h__law_shape_of (X : K.In h) (G : h.Ns mainGlobals mg) (c : DLH.obsK Hd.S K = DLH.valK Hd.S) : Has PP w K mg base 1 "_law_shape" ["tables"] (sp__law_shape K) := by
  obtain ⟨fd, F⟩ := DLH.def_ c 36 (d := Hd.d__law_shape) rfl
  have ok := w__law_shape (base := base) (P := PP) (w := w) (facts X G c)  F (fun ⟨_, _, _, _, _, _, e, _⟩ => by rw [e]; rfl) fun h => p__law_shape  h
  have bd : Binds K fd ["tables"] [] := F.bindsN fun _ _ _ _ _ _ us hl => match us, hl with | [_], _ => rfl
  exact ⟨_, fd, ok, He.glo_ok X G (DLH.fact c 36 (f := .glo "_law_shape") rfl), F.kp, bd⟩
theorem h__law_bend_of (X : K.In h) (G : h.Ns mainGlobals mg) (c : DLH.obsK Hd.S K = DLH.valK Hd.S) : Has PP w K mg base 2 "_law_bend" ["state", "tables"] (sp__law_bend K) := by
  obtain ⟨fd, F⟩ := DLH.def_ c 37 (d := Hd.d__law_bend) rfl
  have ok := w__law_bend (base := base) (P := PP) (w := w) (facts X G c) (h__law_take_of X G c) F (fun ⟨_, _, _, _, e, _⟩ => by rw [e]; rfl) fun h => p__law_bend  h
  have bd : Binds K fd ["state", "tables"] [] := F.bindsN fun _ _ _ _ _ _ us hl => match us, hl with | [_, _], _ => rfl
  exact ⟨_, fd, ok, He.glo_ok X G (DLH.fact c 37 (f := .glo "_law_bend") rfl), F.kp, bd⟩
theorem h__law_try_of (X : K.In h) (G : h.Ns mainGlobals mg) (c : DLH.obsK Hd.S K = DLH.valK Hd.S) : Has PP w K mg base 5 "_law_try" ["tables"] (sp__law_try K) := by
  obtain ⟨fd, F⟩ := DLH.def_ c 38 (d := Hd.d__law_try) rfl
  have ok := w__law_try (base := base) (P := PP) (w := w) (facts X G c) (h_Algebra_of X G c) (hh__law_plain_of X G c) F (fun ⟨_, _, _, _, _, _, e, _⟩ => by rw [e]; rfl) fun h => p__law_try (facts X G c) h
  have bd : Binds K fd ["tables"] [] := F.bindsN fun _ _ _ _ _ _ us hl => match us, hl with | [_], _ => rfl
  exact ⟨_, fd, ok, He.glo_ok X G (DLH.fact c 38 (f := .glo "_law_try") rfl), F.kp, bd⟩
theorem h__law_refused_of (X : K.In h) (G : h.Ns mainGlobals mg) (c : DLH.obsK Hd.S K = DLH.valK Hd.S) : Has PP w K mg base 6 "_law_refused" ["state"] (sp__law_refused K) := by
  obtain ⟨fd, F⟩ := DLH.def_ c 39 (d := Hd.d__law_refused) rfl
  have ok := w__law_refused (base := base) (P := PP) (w := w) (facts X G c) (h__law_take_of X G c) (h__law_chain_of X G c) (h__law_bend_of X G c) (h__law_shape_of X G c) (h__law_try_of X G c) F (fun ⟨_, _, e, _⟩ => by rw [e]; rfl) fun h => p__law_refused  h
  have bd : Binds K fd ["state"] [] := F.bindsN fun _ _ _ _ _ _ us hl => match us, hl with | [_], _ => rfl
  exact ⟨_, fd, ok, He.glo_ok X G (DLH.fact c 39 (f := .glo "_law_refused") rfl), F.kp, bd⟩
theorem h__law_try_join_of (X : K.In h) (G : h.Ns mainGlobals mg) (c : DLH.obsK Hd.S K = DLH.valK Hd.S) : Has PP w K mg base 5 "_law_try_join" ["made", "x", "y"] (sp__law_try_join K) := by
  obtain ⟨fd, F⟩ := DLH.def_ c 40 (d := Hd.d__law_try_join) rfl
  have ok := w__law_try_join (base := base) (P := PP) (w := w) (facts X G c) (h_Algebra_join_of_of X G c) (hh__law_plain_of X G c) (h__law_plain_of X G c) F (fun ⟨_, _, _, e, _⟩ => by rw [e]; rfl) fun h => p__law_try_join (facts X G c) h
  have bd : Binds K fd ["made", "x", "y"] [] := F.bindsN fun _ _ _ _ _ _ us hl => match us, hl with | [_, _, _], _ => rfl
  exact ⟨_, fd, ok, He.glo_ok X G (DLH.fact c 40 (f := .glo "_law_try_join") rfl), F.kp, bd⟩
theorem h__law_handed_of (X : K.In h) (G : h.Ns mainGlobals mg) (c : DLH.obsK Hd.S K = DLH.valK Hd.S) : Has PP w K mg base 2 "_law_handed" ["state", "size"] (sp__law_handed K) := by
  obtain ⟨fd, F⟩ := DLH.def_ c 41 (d := Hd.d__law_handed) rfl
  have ok := w__law_handed (base := base) (P := PP) (w := w) (facts X G c) (h__law_take_of X G c) F (fun ⟨_, _, _, e, _⟩ => by rw [e]; rfl) fun h => p__law_handed  h
  have bd : Binds K fd ["state", "size"] [] := F.bindsN fun _ _ _ _ _ _ us hl => match us, hl with | [_, _], _ => rfl
  exact ⟨_, fd, ok, He.glo_ok X G (DLH.fact c 41 (f := .glo "_law_handed") rfl), F.kp, bd⟩
theorem h__law_joined_of (X : K.In h) (G : h.Ns mainGlobals mg) (c : DLH.obsK Hd.S K = DLH.valK Hd.S) : Has PP w K mg base 6 "_law_joined" ["state", "made", "tables"] (sp__law_joined K) := by
  obtain ⟨fd, F⟩ := DLH.def_ c 42 (d := Hd.d__law_joined) rfl
  have ok := w__law_joined (base := base) (P := PP) (w := w) (facts X G c) (h__law_handed_of X G c) (h__law_join_of X G c) (h__law_try_join_of X G c) F (fun ⟨_, _, _, _, e, _⟩ => by rw [e]; rfl) fun h => p__law_joined  h
  have bd : Binds K fd ["state", "made", "tables"] [] := F.bindsN fun _ _ _ _ _ _ us hl => match us, hl with | [_, _, _], _ => rfl
  exact ⟨_, fd, ok, He.glo_ok X G (DLH.fact c 42 (f := .glo "_law_joined") rfl), F.kp, bd⟩
theorem h__law_no_table_of (X : K.In h) (G : h.Ns mainGlobals mg) (c : DLH.obsK Hd.S K = DLH.valK Hd.S) : Has PP w K mg base 5 "_law_no_table" ["state", "made"] (sp__law_no_table K) := by
  obtain ⟨fd, F⟩ := DLH.def_ c 43 (d := Hd.d__law_no_table) rfl
  have ok := w__law_no_table (base := base) (P := PP) (w := w) (facts X G c) (h__law_take_of X G c) (h_Algebra_table_of X G c) F (fun ⟨_, _, _, e, _⟩ => by rw [e]; rfl) fun h => p__law_no_table (facts X G c) h
  have bd : Binds K fd ["state", "made"] [] := F.bindsN fun _ _ _ _ _ _ us hl => match us, hl with | [_, _], _ => rfl
  exact ⟨_, fd, ok, He.glo_ok X G (DLH.fact c 43 (f := .glo "_law_no_table") rfl), F.kp, bd⟩
theorem h__law_fields_of (X : K.In h) (G : h.Ns mainGlobals mg) (c : DLH.obsK Hd.S K = DLH.valK Hd.S) : Has PP w K mg base 5 "_law_fields" ["made", "tables"] (sp__law_fields K) := by
  obtain ⟨fd, F⟩ := DLH.def_ c 44 (d := Hd.d__law_fields) rfl
  have ok := w__law_fields (base := base) (P := PP) (w := w) (facts X G c) (h__law_plain_of X G c) (h__law_is_row_of X G c) (h_Algebra_table_of X G c) (h_Algebra_zero_of X G c) (h_Algebra_one_of X G c) F (fun ⟨_, _, e, _⟩ => by rw [e]; rfl) fun h => p__law_fields (facts X G c) h
  have bd : Binds K fd ["made", "tables"] [] := F.bindsN fun _ _ _ _ _ _ us hl => match us, hl with | [_, _], _ => rfl
  exact ⟨_, fd, ok, He.glo_ok X G (DLH.fact c 44 (f := .glo "_law_fields") rfl), F.kp, bd⟩
theorem h__law_equal_of (X : K.In h) (G : h.Ns mainGlobals mg) (c : DLH.obsK Hd.S K = DLH.valK Hd.S) : Has PP w K mg base 5 "_law_equal" ["state", "made", "tables"] (sp__law_equal K) := by
  obtain ⟨fd, F⟩ := DLH.def_ c 45 (d := Hd.d__law_equal) rfl
  have ok := w__law_equal (base := base) (P := PP) (w := w) (facts X G c) (h_Algebra_of X G c) (hq_Algebra_of X G c) (h__law_copy_of X G c) (h__law_spoil_of X G c) F (fun ⟨_, _, _, _, e, _⟩ => by rw [e]; rfl) fun h => p__law_equal  h
  have bd : Binds K fd ["state", "made", "tables"] [] := F.bindsN fun _ _ _ _ _ _ us hl => match us, hl with | [_, _, _], _ => rfl
  exact ⟨_, fd, ok, He.glo_ok X G (DLH.fact c 45 (f := .glo "_law_equal") rfl), F.kp, bd⟩
theorem h_law_of (X : K.In h) (G : h.Ns mainGlobals mg) (c : DLH.obsK Hd.S K = DLH.valK Hd.S) : Has PP w K mg base 7 "law" ["script"] (sp_law K) := by
  obtain ⟨fd, F⟩ := DLH.def_ c 46 (d := Hd.d_law) rfl
  have ok := w_law (base := base) (P := PP) (w := w) (facts X G c) (h__law_cells_of X G c) (h__law_built_of X G c) (h__law_first_fault_of X G c) (h__law_copy_of X G c) (h_Algebra_of X G c) (h__law_fields_of X G c) (h__law_is_fault_of X G c) (h_algebra_fault_of X G c) (h__law_no_table_of X G c) (h__law_joined_of X G c) (h__law_refused_of X G c) (h__law_equal_of X G c) F (fun ⟨_, e, _⟩ => by rw [e]; rfl) fun h => p_law  h
  have bd : Binds K fd ["script"] [] := F.bindsN fun _ _ _ _ _ _ us hl => match us, hl with | [_], _ => rfl
  exact ⟨_, fd, ok, He.glo_ok X G (DLH.fact c 46 (f := .glo "law") rfl), F.kp, bd⟩
end K63
set_option maxHeartbeats 0
namespace K63
open PySem PySem.Spec PyProof.Rows L2 DL
def B0 : Obs := ⟨Unit, fun _ _ _ _ => False, fun _ h => h⟩
theorem law_kept [B : Obs] {h : Heap} {w : World} {K : PySem.W.Frag} {mg : Str → Option Value} {fa : Addr} (X : K.In h) (G : h.Ns mainGlobals mg) (hfa : mg ("law" : Str) = some (.ref fa)) (c : DLH.obsK Hd.S K = DLH.valK Hd.S) :
    ∃ fd : FuncData, (∀ (s : Shared) (u : Value), BindsTo s fd ⟨[u], []⟩ [("script", u)]) ∧ ∀ base : Heap, K.In base → base.Ns mainGlobals mg → FnD PP w K mg base 7 fa fd ["script"] (spLaw 63) := by
  obtain ⟨fd, F⟩ := DLH.def_ c 46 (d := Hd.d_law) rfl
  have e := hfa.symm.trans (He.glo_ok X G (DLH.fact c 46 (f := .glo "law") rfl))
  cases e
  have b := FunD.bindsA (ps := ["script"]) F fun _ _ _ _ _ _ us hl => match us, hl with | [_], _ => rfl
  refine ⟨fd, fun s v => b s [v] rfl, fun base _ _ => ?_⟩
  have ok := w_law (base := base) (P := PP) (w := w) (facts X G c) (h__law_cells_of X G c) (h__law_built_of X G c) (h__law_first_fault_of X G c) (h__law_copy_of X G c) (h_Algebra_of X G c) (h__law_fields_of X G c) (h__law_is_fault_of X G c) (h_algebra_fault_of X G c) (h__law_no_table_of X G c) (h__law_joined_of X G c) (h__law_refused_of X G c) (h__law_equal_of X G c) F (fun ⟨_, e, _⟩ => by rw [e]; rfl) fun h => p_law  h
  exact ok
end K63
open PySem PySem.W PySem.Calls PyProof.Rows
theorem PySem.Challenge.cw_framesays_k63_algebra_faults_holds : PySem.Challenge.rw_framesays_k63_algebra_faults.Holds := by
  w_on; o_law
  refine HandSHeadRun.head_any (r := OpenLaw.row PySem.Challenge.rw_framesays_k63_algebra_faults) (q := view (OpenLaw.row PySem.Challenge.rw_framesays_k63_algebra_faults).prog [54]) (H := K63.Hd.hk) (ob := K63.Hd.ob) (M := 3000) (loose := K63.Hd.loose) (d := HandSHeadRun.topDef (OpenLaw.row PySem.Challenge.rw_framesays_k63_algebra_faults).prog 54) (kwd := []) K63.Hd.ob_eq
    (by kernel_rfl) (fun s => by kernel_rfl) K63.Hd.run (by kernel_rfl) (by kernel_rfl) (by kernel_rfl) (by rfl) (by first | assumption | decide +kernel) (by decide +kernel) ⟨rfl, rfl, rfl, rfl, rfl, by decide +kernel⟩ ?hw ?hc
  case hw => w_witness2
  case hc =>
    refine DL.walk_ofG (B := K63.B0) (l := PySem.Challenge.rw_framesays_k63_algebra_faults) (n := 63) (k := 7) (x := "script") rfl (by decide) (by kernel_rfl) ⟨rfl, by decide, by decide⟩ ?F
    intro w mg fa h Y G hmg0
    obtain ⟨K, KX, c⟩ := Y
    have hmg : mg ("law" : PySem.Str) = some (.ref fa) := by
      have e : (HandSHeadRun.topDef (OpenLaw.row PySem.Challenge.rw_framesays_k63_algebra_faults).prog 54).name = ("law" : PySem.Str) := by kernel_rfl
      rw [← e]
      exact hmg0
    obtain ⟨fd, hb, hF⟩ := K63.law_kept (B := K63.B0) KX G hmg c
    exact ⟨K, fd, KX, hb, hF⟩
