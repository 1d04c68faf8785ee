import PyProof.Rows.All
import Wide.All
import OpenK.AllK
import Wide.FinOn
import HandS.ForMost
import HandS.ForExc
import HandS.CallSlots
import HandS.WordsExc
import HandS.Defaults
import HandS.ExcCtx
import HandS.SuiteRaise
import HandS.Style
import HandS.TupAny
import HandS.TupMul
import HandS.Zip
import KE.KExcSuper
import KE.KSuper
import HandS.ExcInit
import HandS.Nested
import HandS.FStr
import HandS.HotCalls
import HandS.ExcIs
import HandS.ExcField
import HandS.IsInst
import HandS.Conv
import HandS.Sort
import HandS.HeadHook1
import HandS.HeadHook2
import HandS.Head0
import HandS.Head1
import HandS.Head2
import HandS.HeadEnd
import HandS.Ends
import HandS.Small
import HandS.Dict
import KE.GoesMore
import HandS.WideBits
import HandS.SetFor
import HandS.Strs
import HandS.More
import PyProof.ReprRoads
import HandS.OwnEq
import HandS.Text
import HandS.TupSets
import KE.KIsAll
import PySem.Challenge.RW_framesays_k15_led_faults
set_option Elab.async false
set_option linter.all false
set_option maxRecDepth 100000
/-! The data layer: readings over plain data (D), the heap hidden. Data that never change are values; what a def changes stands in a store M of cells. -/
namespace DL
open PySem PySem.Spec PyProof.Rows L2

/-- G knows all that F knows -/
structure Le (F G : Hp) : Prop where
  of : ∀ {b : Addr} {u : HO}, F b = some u → G b = some u
theorem Le.rfl' (F : Hp) : Le F F := ⟨fun h => h⟩
theorem Le.then' {F G J : Hp} (p : Le F G) (q : Le G J) : Le F J := ⟨fun h => q.of (p.of h)⟩
theorem known_ne {F : Hp} {p b : Addr} {u : HO} (h : F p = none) (e : F b = some u) : b ≠ p := by
  intro z
  subst z
  rw [h] at e
  cases e
theorem Le.add {F : Hp} {p : Addr} {u : HO} (h : F p = none) : Le F (upd F p u) := ⟨fun {b v} e => by
  rw [upd_ne (known_ne h e)]
  exact e⟩
/-- a place that F does not know may change -/
theorem Le.past {F G : Hp} {p : Addr} {u : HO} (e : Le F G) (h : F p = none) : Le F (upd G p u) := ⟨fun {b v} k => by
  rw [upd_ne (known_ne h k)]
  exact e.of k⟩
theorem Le.off {F G : Hp} {p : Addr} (e : Le F G) (h : G p = none) : F p = none := by
  cases k : F p with
  | none => rfl
  | some u =>
    rw [e.of k] at h
    cases h
theorem Le.rd {F G : Hp} (e : Le F G) {b : Addr} {u : HO} (h : Rd F b u) : Rd G b u := by
  rcases h with h | ⟨o, h⟩
  · exact .inl (e.of h)
  · exact .inr ⟨o, e.of h⟩
theorem Le.sql {F G : Hp} (e : Le F G) {K : PySem.W.Frag} {b : Addr} {xs : List V} (h : SqL K F b xs) : SqL K G b xs := by
  rcases h with h | h
  · exact .inl (e.rd h)
  · exact .inr h
theorem Le.sqt {F G : Hp} (e : Le F G) {K : PySem.W.Frag} {b : Addr} {xs : List V} (h : SqT K F b xs) : SqT K G b xs := by
  rcases h with h | h
  · exact .inl (e.rd h)
  · exact .inr h

/-- the program's own objects: what an object of each form looks like -/
class Obs where
  Ob : Type
  rel : PySem.W.Frag → Hp → Addr → Ob → Prop
  mono : ∀ {K : PySem.W.Frag} {F G : Hp} {a : Addr} {x : Ob}, Le F G → rel K F a x → rel K G a x

/-- data -/
inductive D [B : Obs] where
  | non | bl (b : Bool) | int (i : Int) | str (x : Str) | ty (n : String) | ref (a : Addr)
  | lst (xs : List D) | tup (xs : List D) | rng (lo hi : Int) | ob (x : B.Ob) | scr (ns : List Int)
  | exc (a C dd : Addr) (ns : List Str) (ds : List D) | ins (C : Addr) (ns : List Str) (ds : List D) | dic (ks : List Key) (ds : List D)
variable [B : Obs]

/-- a part that may lack -/
def optP {α : Type} (o : Option α) (P : α → Prop) : Prop := match o with
  | some x => P x
  | none => False
theorem optP_some {α : Type} {x : α} {P : α → Prop} : optP (some x) P = P x := rfl
theorem optP_out {α : Type} {o : Option α} {P : α → Prop} (h : optP o P) : ∃ x, o = some x ∧ P x := by
  cases o with
  | none => exact h.elim
  | some x => exact ⟨x, rfl, h⟩
theorem optP_in {α : Type} {o : Option α} {P : α → Prop} {x : α} (e : o = some x) (h : P x) : optP o P := by
  subst e
  exact h
mutual
/-- the value v bears the datum d -/
inductive Rp (K : PySem.W.Frag) (F : Hp) : V → D → Prop
  | non : Rp K F .non .non
  | bl (b : Bool) : Rp K F (.bl b) (.bl b)
  | int (i : Int) : Rp K F (.int i) (.int i)
  | str (x : Str) : Rp K F (.str x) (.str x)
  | ty (n : String) : Rp K F (.ty n) (.ty n)
  | ref (a : Addr) : Rp K F (.ref a) (.ref a)
  | lst {a : Addr} {vs : List V} {ds : List D} (h : F a = some (.lst vs)) (r : Rps K F vs ds) : Rp K F (.ref a) (.lst ds)
  | tup {a : Addr} {vs : List V} {ds : List D} (h : SqT K F a vs) (r : Rps K F vs ds) : Rp K F (.ref a) (.tup ds)
  | rng {a : Addr} {lo hi : Int} (h : F a = some (.rng lo hi)) : Rp K F (.ref a) (.rng lo hi)
  | ob {a : Addr} {x : B.Ob} (h : B.rel K F a x) : Rp K F (.ref a) (.ob x)
  | scr {a : Addr} {ns : List Int} (h : SqL K F a (ns.map V.int)) : Rp K F (.ref a) (.scr ns)
  | exc {a C dd : Addr} {ns : List Str} {vs : List V} {ds : List D} (h : F dd = some (.xd (ns.zip vs))) (r : Rps K F vs ds) : Rp K F (.ref a) (.exc a C dd ns ds)
  | ins {a C dx : Addr} {ns : List Str} {vs : List V} {ds : List D} (h : F a = some (.ins C dx (ns.zip vs))) (r : Rps K F vs ds) : Rp K F (.ref a) (.ins C ns ds)
  | dic {a : Addr} {ks : List Key} {vs : List V} {ds : List D} (h : F a = some (.dK (ks.zip vs))) (r : Rps K F vs ds) : Rp K F (.ref a) (.dic ks ds)
inductive Rps (K : PySem.W.Frag) (F : Hp) : List V → List D → Prop
  | nil : Rps K F [] []
  | cons {v : V} {d : D} {vs : List V} {ds : List D} (h : Rp K F v d) (t : Rps K F vs ds) : Rps K F (v :: vs) (d :: ds)
end

mutual
theorem Rp.mono {K : PySem.W.Frag} {F G : Hp} (e : Le F G) {v : V} {d : D} (h : Rp K F v d) : Rp K G v d := by
  cases h with
  | non => exact .non
  | bl b => exact .bl b
  | int i => exact .int i
  | str x => exact .str x
  | ty n => exact .ty n
  | ref a => exact .ref a
  | lst h r => exact .lst (e.of h) (Rps.mono e r)
  | scr h => exact .scr (e.sql h)
  | tup h r => exact .tup (e.sqt h) (Rps.mono e r)
  | rng h => exact .rng (e.of h)
  | ob h => exact .ob (B.mono e h)
  | exc h r => exact .exc (e.of h) (Rps.mono e r)
  | ins h r => exact .ins (e.of h) (Rps.mono e r)
  | dic h r => exact .dic (e.of h) (Rps.mono e r)
theorem Rps.mono {K : PySem.W.Frag} {F G : Hp} (e : Le F G) {vs : List V} {ds : List D} (h : Rps K F vs ds) : Rps K G vs ds := by
  cases h with
  | nil => exact .nil
  | cons h t => exact .cons (Rp.mono e h) (Rps.mono e t)
end

section
variable {K : PySem.W.Frag} {F : Hp}
theorem Rps.len {vs : List V} {ds : List D} : Rps K F vs ds → vs.length = ds.length := by
  intro h
  induction vs generalizing ds with
  | nil =>
    cases h
    rfl
  | cons v vs ih =>
    cases h with
    | cons h t => exact congrArg Nat.succ (ih t)
theorem Rps.app {vs ws : List V} {ds es : List D} (h : Rps K F vs ds) (g : Rps K F ws es) : Rps K F (vs ++ ws) (ds ++ es) := by
  induction vs generalizing ds with
  | nil =>
    cases h
    exact g
  | cons v vs ih =>
    cases h with
    | cons h t => exact .cons h (ih t)
theorem Rps.one {v : V} {d : D} (h : Rp K F v d) : Rps K F [v] [d] := .cons h .nil
theorem Rps.at' {vs : List V} {ds : List D} (h : Rps K F vs ds) : ∀ {i : Nat} {d : D}, ds[i]? = some d → ∃ v, vs[i]? = some v ∧ Rp K F v d := by
  induction vs generalizing ds with
  | nil =>
    cases h
    intro i d e
    simp at e
  | cons v vs ih =>
    cases h with
    | cons h t =>
      intro i d e
      cases i with
      | zero =>
        have e1 : _ = d := Option.some.inj e
        subst e1
        exact ⟨v, rfl, h⟩
      | succ i => exact ih t (i := i) e
theorem Rps.put {vs : List V} {ds : List D} (h : Rps K F vs ds) {v : V} {d : D} (r : Rp K F v d) : ∀ i : Nat, Rps K F (vs.set i v) (ds.set i d) := by
  induction vs generalizing ds with
  | nil =>
    cases h
    exact fun _ => .nil
  | cons w vs ih =>
    cases h with
    | cons h t =>
      intro i
      cases i with
      | zero => exact .cons r t
      | succ i => exact .cons h (ih t i)
theorem Rps.drop' {vs : List V} {ds : List D} (h : Rps K F vs ds) : ∀ i : Nat, Rps K F (vs.drop i) (ds.drop i) := by
  induction vs generalizing ds with
  | nil =>
    cases h
    intro i
    rw [List.drop_nil, List.drop_nil]
    exact .nil
  | cons w vs ih =>
    cases h with
    | cons h t =>
      intro i
      cases i with
      | zero => exact .cons h t
      | succ i => exact ih t i
theorem Rps.take' {vs : List V} {ds : List D} (h : Rps K F vs ds) : ∀ i : Nat, Rps K F (vs.take i) (ds.take i) := by
  induction vs generalizing ds with
  | nil =>
    cases h
    intro i
    rw [List.take_nil, List.take_nil]
    exact .nil
  | cons w vs ih =>
    cases h with
    | cons h t =>
      intro i
      cases i with
      | zero => exact .nil
      | succ i => exact .cons h (ih t i)
theorem Rps.init {vs : List V} {ds : List D} (h : Rps K F vs ds) : Rps K F vs.dropLast ds.dropLast := by
  rw [List.dropLast_eq_take, List.dropLast_eq_take, h.len]
  exact h.take' _
theorem Rps.erase {vs : List V} {ds : List D} (h : Rps K F vs ds) (i : Nat) : Rps K F (vs.eraseIdx i) (ds.eraseIdx i) := by
  rw [List.eraseIdx_eq_take_drop_succ, List.eraseIdx_eq_take_drop_succ]
  exact (h.take' _).app (h.drop' _)
theorem Rps.back {vs : List V} {ds : List D} (h : Rps K F vs ds) : Rps K F vs.reverse ds.reverse := by
  induction vs generalizing ds with
  | nil =>
    cases h
    exact .nil
  | cons w vs ih =>
    cases h with
    | cons h t =>
      rw [List.reverse_cons, List.reverse_cons]
      exact (ih t).app (.one h)
theorem Rps.ints : ∀ ns : List Int, Rps K F (ns.map V.int) (ns.map D.int)
  | [] => .nil
  | n :: ns => .cons (.int n) (Rps.ints ns)
theorem Rps.of_ints {vs : List V} : ∀ {ns : List Int}, Rps K F vs (ns.map D.int) → vs = ns.map V.int := by
  intro ns h
  induction ns generalizing vs with
  | nil =>
    cases h
    rfl
  | cons n ns ih =>
    cases h with
    | cons h t =>
      cases h
      rw [ih t]
      rfl
end

/-- fields by their names -/
abbrev Flds := List (Str × D)
def Rfs (K : PySem.W.Frag) (F : Hp) : List (Str × V) → Flds → Prop := Paired fun p q => p.1 = q.1 ∧ Rp K F p.2 q.2

/-- what a cell of the store holds -/
inductive MC where
  | lst (ds : List D) | ins (C : Addr) (fs : Flds) | dic (kvs : List (Key × D)) | dit (kvs : List (List Key × D))
  /-- a tuple made by tuple(..): its object has no dict of its own -/
  | tux (ds : List D)
abbrev Md := Addr → Option MC
def put (M : Md) (a : Addr) (c : MC) : Md := fun b => if b = a then some c else M b
def cut (M : Md) (a : Addr) : Md := fun b => if b = a then none else M b
theorem put_same {M : Md} {a : Addr} {c : MC} : put M a c a = some c := if_pos rfl
theorem put_ne {M : Md} {a b : Addr} {c : MC} (h : b ≠ a) : put M a c b = M b := if_neg h
theorem cut_same {M : Md} {a : Addr} : cut M a a = none := if_pos rfl
theorem cut_ne {M : Md} {a b : Addr} (h : b ≠ a) : cut M a b = M b := if_neg h
theorem put_put {M : Md} {a : Addr} {c e : MC} : put (put M a c) a e = put M a e := by
  funext b
  unfold put
  split <;> rfl
theorem cut_put {M : Md} {a : Addr} {c : MC} (h : M a = none) : cut (put M a c) a = M := by
  funext b
  unfold cut put
  by_cases e : b = a
  · subst e
    rw [if_pos rfl, h]
  · rw [if_neg e, if_neg e]

/-- a cell in the heap -/
def Rc (K : PySem.W.Frag) (F H : Hp) (a : Addr) : MC → Prop
  | .lst ds => ∃ vs, H a = some (.lst vs) ∧ Rps K F vs ds
  | .ins C fs => ∃ dx vs, H a = some (.ins C dx vs) ∧ Rfs K F vs fs
  | .dic kvs => ∃ vs, H a = some (.dK vs) ∧ Paired (fun (p : Key × V) (q : Key × D) => p.1 = q.1 ∧ Rp K F p.2 q.2) vs kvs
  | .dit kvs => ∃ vs, H a = some (.dT vs) ∧ Paired (fun (p : List Key × V) (q : List Key × D) => p.1 = q.1 ∧ Rp K F p.2 q.2) vs kvs
  | .tux ds => ∃ o vs, H a = some (.frz o (.tup vs)) ∧ (o.cls = .type "tuple" ∧ o.dict = none) ∧ Rps K F vs ds
theorem paired_imp {α β : Type} {P Q : α → β → Prop} (h : ∀ a b, P a b → Q a b) : ∀ {l : List α} {m : List β}, Paired P l m → Paired Q l m
  | _, _, .nil => .nil
  | _, _, .cons p t => .cons (h _ _ p) (paired_imp h t)
theorem Rfs.mono {K : PySem.W.Frag} {F G : Hp} (e : Le F G) {vs : List (Str × V)} {fs : Flds} (h : Rfs K F vs fs) : Rfs K G vs fs := paired_imp (fun _ _ q => ⟨q.1, q.2.mono e⟩) h
theorem Rc.mono {K : PySem.W.Frag} {F G H J : Hp} {a : Addr} {c : MC} (e : Le F G) (k : H a = J a) (h : Rc K F H a c) : Rc K G J a c := by
  cases c with
  | lst ds =>
    obtain ⟨vs, p, r⟩ := h
    exact ⟨vs, k ▸ p, r.mono e⟩
  | ins C fs =>
    obtain ⟨dx, vs, p, r⟩ := h
    exact ⟨dx, vs, k ▸ p, r.mono e⟩
  | dic kvs =>
    obtain ⟨vs, p, r⟩ := h
    exact ⟨vs, k ▸ p, paired_imp (fun _ _ q => ⟨q.1, q.2.mono e⟩) r⟩
  | dit kvs =>
    obtain ⟨vs, p, r⟩ := h
    exact ⟨vs, k ▸ p, paired_imp (fun _ _ q => ⟨q.1, q.2.mono e⟩) r⟩
  | tux ds =>
    obtain ⟨o, vs, p, c, r⟩ := h
    exact ⟨o, vs, k ▸ p, c, r.mono e⟩
theorem Rc.there {K : PySem.W.Frag} {F H : Hp} {a : Addr} {c : MC} (h : Rc K F H a c) : ∃ u, H a = some u := by
  cases c with
  | lst ds =>
    obtain ⟨vs, p, r⟩ := h
    exact ⟨_, p⟩
  | ins C fs =>
    obtain ⟨dx, vs, p, r⟩ := h
    exact ⟨_, p⟩
  | dic kvs =>
    obtain ⟨vs, p, r⟩ := h
    exact ⟨_, p⟩
  | dit kvs =>
    obtain ⟨vs, p, r⟩ := h
    exact ⟨_, p⟩
  | tux ds =>
    obtain ⟨o, vs, p, c, r⟩ := h
    exact ⟨_, p⟩

/-- the heap H: the part F stands for ever, the cells of M lie beside it -/
structure Rl (K : PySem.W.Frag) (F H : Hp) (M : Md) : Prop where
  sub : Le F H
  cell : ∀ a c, M a = some c → F a = none ∧ Rc K F H a c
section
variable {K : PySem.W.Frag} {F G H : Hp} {M : Md} {p : Addr}
theorem Rl.free (l : Rl K F H M) (h : H p = none) : F p = none ∧ M p = none := by
  refine ⟨l.sub.off h, ?_⟩
  cases e : M p with
  | none => rfl
  | some c =>
    obtain ⟨u, k⟩ := (l.cell p c e).2.there
    rw [h] at k
    cases k
/-- a new object that never changes -/
theorem Rl.keep (l : Rl K F H M) (h : H p = none) (u : HO) : Rl K (upd F p u) (upd H p u) M ∧ Le F (upd F p u) := by
  obtain ⟨hf, hm⟩ := l.free h
  refine ⟨⟨⟨fun {b v} e => ?_⟩, fun a c e => ?_⟩, Le.add hf⟩
  · by_cases z : b = p
    · subst z
      rw [upd_same] at e ⊢
      exact e
    · rw [upd_ne z] at e ⊢
      exact l.sub.of e
  · have z : a ≠ p := by
      intro z
      subst z
      rw [hm] at e
      cases e
    obtain ⟨k1, k2⟩ := l.cell a c e
    refine ⟨by rw [upd_ne z]; exact k1, k2.mono (Le.add hf) (by rw [upd_ne z])⟩
/-- a new object that nobody tells of -/
theorem Rl.lost (l : Rl K F H M) (h : H p = none) (u : HO) : Rl K F (upd H p u) M := by
  obtain ⟨hf, hm⟩ := l.free h
  refine ⟨l.sub.past hf, fun a c e => ?_⟩
  have z : a ≠ p := by
    intro z
    subst z
    rw [hm] at e
    cases e
  obtain ⟨k1, k2⟩ := l.cell a c e
  exact ⟨k1, k2.mono (Le.rfl' F) (by rw [upd_ne z])⟩
/-- a new cell, or a cell changed -/
theorem Rl.cellput (l : Rl K F H M) (hf : F p = none) {u : HO} {c : MC} (r : Rc K F (upd H p u) p c) : Rl K F (upd H p u) (put M p c) := by
  refine ⟨l.sub.past hf, fun a e k => ?_⟩
  by_cases z : a = p
  · subst z
    rw [put_same] at k
    cases k
    exact ⟨hf, r⟩
  · rw [put_ne z] at k
    obtain ⟨k1, k2⟩ := l.cell a e k
    exact ⟨k1, k2.mono (Le.rfl' F) (by rw [upd_ne z])⟩
/-- cells forgotten -/
theorem Rl.less (l : Rl K F H M) {N : Md} (h : ∀ a c, N a = some c → M a = some c) : Rl K F H N := ⟨l.sub, fun a c e => l.cell a c (h a c e)⟩
theorem Rl.cutc (l : Rl K F H M) : Rl K F H (cut M p) := l.less fun a c e => by
  by_cases z : a = p
  · subst z
    rw [cut_same] at e
    cases e
  · rw [cut_ne z] at e
    exact e
/-- a cell that from now on never changes -/
theorem Rl.froze (l : Rl K F H M) {u : HO} (hp : H p = some u) (hf : F p = none) : Rl K (upd F p u) H (cut M p) ∧ Le F (upd F p u) := by
  refine ⟨⟨⟨fun {b v} e => ?_⟩, fun a c e => ?_⟩, Le.add hf⟩
  · by_cases z : b = p
    · subst z
      rw [upd_same] at e
      rw [← e]
      exact hp
    · rw [upd_ne z] at e
      exact l.sub.of e
  · by_cases z : a = p
    · subst z
      rw [cut_same] at e
      cases e
    · rw [cut_ne z] at e
      obtain ⟨k1, k2⟩ := l.cell a c e
      exact ⟨by rw [upd_ne z]; exact k1, k2.mono (Le.add hf) rfl⟩
end

/-! ### slots -/
abbrev SD := List (Option D)
def RpO (K : PySem.W.Frag) (F : Hp) : Option V → Option D → Prop
  | _, none => True
  | some v, some d => Rp K F v d
  | none, some _ => False
def Sls (K : PySem.W.Frag) (F : Hp) : L2.St → SD → Prop := Paired (RpO K F)
theorem Sls.mono {K : PySem.W.Frag} {F G : Hp} (e : Le F G) {σ : L2.St} {δ : SD} (h : Sls K F σ δ) : Sls K G σ δ := paired_imp (fun a b q => by
  cases b with
  | none => trivial
  | some d =>
    cases a with
    | none => exact q
    | some v => exact Rp.mono e q) h
theorem Sls.get {K : PySem.W.Frag} {F : Hp} : ∀ {σ : L2.St} {δ : SD} {i : Nat} {d : D}, Sls K F σ δ → δ[i]? = some (some d) → ∃ v, σ[i]? = some (some v) ∧ Rp K F v d
  | _, _, _, _, .nil, h => by simp at h
  | s :: _, _, 0, d, .cons p _, h => by
    have e := Option.some.inj h
    subst e
    cases s with
    | none => exact False.elim p
    | some v => exact ⟨v, rfl, p⟩
  | _, _, i + 1, d, .cons _ t, h => Sls.get (i := i) t h
theorem Sls.set' {K : PySem.W.Frag} {F : Hp} {x : Option V} {y : Option D} (r : RpO K F x y) : ∀ {σ : L2.St} {δ : SD} (i : Nat), Sls K F σ δ → Sls K F (σ.set i x) (δ.set i y)
  | _, _, _, .nil => .nil
  | _, _, 0, .cons _ t => .cons r t
  | _, _, i + 1, .cons p t => .cons p (Sls.set' r i t)
theorem Sls.put' {K : PySem.W.Frag} {F : Hp} {v : V} {d : D} (r : Rp K F v d) {σ : L2.St} {δ : SD} (i : Nat) (h : Sls K F σ δ) : Sls K F (σ.set i (some v)) (δ.set i (some d)) := Sls.set' (x := some v) (y := some d) r i h

/-! ### readings -/
abbrev VD := D → Md → Prop
/-- what is wanted of an exception: its class, its fields, the store -/
abbrev XD := Addr → Flds → Md → Prop
abbrev TEd := XD → SD → Md → VD → Prop
abbrev TTd := XD → SD → Md → (Bool → Md → Prop) → Prop
abbrev TAd := XD → SD → Md → (List D → Md → Prop) → Prop
structure EndsD where
  nx : SD → Md → Prop
  rt : VD
  bk : SD → Md → Prop := fun _ _ => False
  ct : SD → Md → Prop := fun _ _ => False
  xx : Addr → Flds → SD → Md → Prop := fun _ _ _ _ => False
abbrev TSd := EndsD → SD → Md → Prop
def EndsD.xk (E : EndsD) (δ : SD) : XD := fun C fs M => E.xx C fs δ M

structure Kv (K : PySem.W.Frag) (F : Hp) (Qd : VD) (Q : VK) : Prop where
  go : ∀ {d : D} {M : Md} {v : V} {G H : Hp}, Le F G → Rl K G H M → Rp K G v d → Qd d M → Q v H
structure Kb (K : PySem.W.Frag) (F : Hp) (Qd : Bool → Md → Prop) (Q : Bool → Hp → Prop) : Prop where
  go : ∀ {b : Bool} {M : Md} {G H : Hp}, Le F G → Rl K G H M → Qd b M → Q b H
structure Ka (K : PySem.W.Frag) (F : Hp) (Qd : List D → Md → Prop) (Q : List V → Hp → Prop) : Prop where
  go : ∀ {ds : List D} {M : Md} {vs : List V} {G H : Hp}, Le F G → Rl K G H M → Rps K G vs ds → Qd ds M → Q vs H
structure Ks (K : PySem.W.Frag) (F : Hp) (Qd : SD → Md → Prop) (Q : L2.St → Hp → Prop) : Prop where
  go : ∀ {δ : SD} {M : Md} {σ : L2.St} {G H : Hp}, Le F G → Rl K G H M → Sls K G σ δ → Qd δ M → Q σ H
/-- an exception's own dict holds its fields; without fields it may have none -/
def Xf (K : PySem.W.Frag) (F H : Hp) (dx : Option Addr) (fs : Flds) : Prop := (fs = [] ∧ dx = none) ∨ ∃ d vs, dx = some d ∧ F d = none ∧ H d = some (.xd vs) ∧ Rfs K F vs fs
structure Kx (K : PySem.W.Frag) (F : Hp) (Xd : XD) (E : XK) : Prop where
  go : ∀ {C : Addr} {fs : Flds} {M : Md} {dx : Option Addr} {G H : Hp}, Le F G → Rl K G H M → Xf K G H dx fs → Xd C fs M → E (.ref C) dx H
section
variable {K : PySem.W.Frag} {F G : Hp}
theorem Kv.mono {Qd : VD} {Q : VK} (k : Kv K F Qd Q) (e : Le F G) : Kv K G Qd Q := ⟨fun g l r q => k.go (e.then' g) l r q⟩
theorem Kb.mono {Qd : Bool → Md → Prop} {Q : Bool → Hp → Prop} (k : Kb K F Qd Q) (e : Le F G) : Kb K G Qd Q := ⟨fun g l q => k.go (e.then' g) l q⟩
theorem Ka.mono {Qd : List D → Md → Prop} {Q : List V → Hp → Prop} (k : Ka K F Qd Q) (e : Le F G) : Ka K G Qd Q := ⟨fun g l r q => k.go (e.then' g) l r q⟩
theorem Ks.mono {Qd : SD → Md → Prop} {Q : L2.St → Hp → Prop} (k : Ks K F Qd Q) (e : Le F G) : Ks K G Qd Q := ⟨fun g l r q => k.go (e.then' g) l r q⟩
theorem Kx.mono {Xd : XD} {E : XK} (k : Kx K F Xd E) (e : Le F G) : Kx K G Xd E := ⟨fun g l r q => k.go (e.then' g) l r q⟩
end
/-- the ends of a statement -/
structure LT (K : PySem.W.Frag) (W : WX) (F : Hp) (Dd : EndsD) (E : Ends) : Prop where
  nx : Ks K F Dd.nx E.nx
  rt : Kv K F Dd.rt E.rt
  bk : Ks K F Dd.bk E.bk
  ct : Ks K F Dd.ct E.ct
  xx : ∀ {δ : SD} {σ : L2.St} {G : Hp}, Le F G → Sls K G σ δ → Kx K G (Dd.xk δ) (WE W σ)
theorem LT.mono {K : PySem.W.Frag} {W : WX} {F G : Hp} {Dd : EndsD} {E : Ends} (l : LT K W F Dd E) (e : Le F G) : LT K W G Dd E :=
  ⟨l.nx.mono e, l.rt.mono e, l.bk.mono e, l.ct.mono e, fun g s => l.xx (e.then' g) s⟩

/-! ### a reading over data, as a reading over the heap -/
def low (K : PySem.W.Frag) (W : WX) (t : TEd) : TE := fun σ H Q => ∃ F δ M Qd Xd, Rl K F H M ∧ Sls K F σ δ ∧ Kv K F Qd Q ∧ Kx K F Xd (WE W σ) ∧ t Xd δ M Qd
def lowT (K : PySem.W.Frag) (W : WX) (t : TTd) : TT := fun σ H Q => ∃ F δ M Qd Xd, Rl K F H M ∧ Sls K F σ δ ∧ Kb K F Qd Q ∧ Kx K F Xd (WE W σ) ∧ t Xd δ M Qd
def lowA (K : PySem.W.Frag) (W : WX) (t : TAd) : TA := fun σ H Q => ∃ F δ M Qd Xd, Rl K F H M ∧ Sls K F σ δ ∧ Ka K F Qd Q ∧ Kx K F Xd (WE W σ) ∧ t Xd δ M Qd
def lowS (K : PySem.W.Frag) (W : WX) (t : TSd) : TS := fun E σ H => ∃ F δ M Dd, Rl K F H M ∧ Sls K F σ δ ∧ LT K W F Dd E ∧ t Dd δ M
abbrev TGd := XD → D → SD → Md → (SD → Md → Prop) → Prop
def lowG (K : PySem.W.Frag) (W : WX) (t : TGd) : TG := fun v σ H Q => ∃ F δ M d Qd Xd, Rl K F H M ∧ Sls K F σ δ ∧ Rp K F v d ∧ Ks K F Qd Q ∧ Kx K F Xd (WE W σ) ∧ t Xd d δ M Qd
abbrev TGsd := List D → SD → Md → (SD → Md → Prop) → Prop
def lowGs (K : PySem.W.Frag) (t : TGsd) : TGs := fun v σ H Q => ∃ F δ M d Qd, Rl K F H M ∧ Sls K F σ δ ∧ Rps K F v d ∧ Ks K F Qd Q ∧ t d δ M Qd
/-- nothing is wished of exceptions -/
def X0 : XD := fun _ _ _ => False
theorem kx0 {K : PySem.W.Frag} {F : Hp} {E : XK} : Kx K F X0 E := ⟨fun _ _ _ h => h.elim⟩
abbrev PEd (X : Cx) (W : WX) (e : Expr) (t : TEd) : Prop := PE X e (low X.K W t)
abbrev PTd (X : Cx) (W : WX) (e : Expr) (t : TTd) : Prop := PT X e (lowT X.K W t)
abbrev PWd (X : Cx) (W : WX) (e : Expr) (t : TTd) : Prop := PW X e (lowT X.K W t)
abbrev PAd (X : Cx) (W : WX) (es : List Expr) (t : TAd) : Prop := PA X es (lowA X.K W t)
abbrev PSd (X : Cx) (W : WX) (s : Stmt) (t : TSd) : Prop := PS X s (lowS X.K W t)
abbrev PSsd (X : Cx) (W : WX) (s : List Stmt) (t : TSd) : Prop := PSs X s (lowS X.K W t)
abbrev PGd (X : Cx) (W : WX) (e : Expr) (t : TGd) : Prop := PG X e (lowG X.K W t)
abbrev PGsd (X : Cx) (es : List Expr) (t : TGsd) : Prop := PGs X es (lowGs X.K t)
section
variable {X : Cx}
theorem pe_imp {e : Expr} {t u : TE} (h : PE X e u) (k : ∀ σ H Q, t σ H Q → u σ H Q) : PE X e t := ⟨fun pins s σ H Q I q => h.run pins s σ H Q I (k σ H Q q)⟩
theorem pt_imp {e : Expr} {t u : TT} (h : PT X e u) (k : ∀ σ H Q, t σ H Q → u σ H Q) : PT X e t := ⟨fun pins s σ H Q I q => h.run pins s σ H Q I (k σ H Q q)⟩
theorem pw_imp {e : Expr} {t u : TT} (h : PW X e u) (k : ∀ σ H Q, t σ H Q → u σ H Q) : PW X e t := ⟨fun w pins s σ H Q I q => h.run w pins s σ H Q I (k σ H Q q)⟩
theorem pa_imp {e : List Expr} {t u : TA} (h : PA X e u) (k : ∀ σ H Q, t σ H Q → u σ H Q) : PA X e t := ⟨fun pos pins s σ H Q I q => h.run pos pins s σ H Q I (k σ H Q q)⟩
theorem ps_imp {e : Stmt} {t u : TS} (h : PS X e u) (k : ∀ E σ H, t E σ H → u E σ H) : PS X e t := ⟨fun pins s σ H E I q => h.run pins s σ H E I (k E σ H q)⟩
theorem pss_imp {e : List Stmt} {t u : TS} (h : PSs X e u) (k : ∀ E σ H, t E σ H → u E σ H) : PSs X e t := ⟨fun pins s σ H E I q => h.run pins s σ H E I (k E σ H q)⟩
end
end DL
/-! The data layer: expressions. -/
namespace DL
open PySem PySem.Spec PyProof.Rows L2
variable [B : Obs]
section
variable {X : Cx} {W : WX} {K : PySem.W.Frag} {a b c e : Expr} {es : List Expr} {pos p apos : Pos} {x m : Str} {ta tb tc : TEd} {tt tu : TTd} {tes : TAd}
/-- the step from one reading to the next -/
theorem low_then {F H : Hp} {σ : L2.St} {δ : SD} {M : Md} {Xd : XD} {t : TEd} {Qd : VD} {Q : VK} (l : Rl K F H M) (s : Sls K F σ δ) (kx : Kx K F Xd (WE W σ)) (h : t Xd δ M Qd) (k : Kv K F Qd Q) : low K W t σ H Q := ⟨F, δ, M, Qd, Xd, l, s, k, kx, h⟩
theorem lowT_then {F H : Hp} {σ : L2.St} {δ : SD} {M : Md} {Xd : XD} {t : TTd} {Qd : Bool → Md → Prop} {Q : Bool → Hp → Prop} (l : Rl K F H M) (s : Sls K F σ δ) (kx : Kx K F Xd (WE W σ)) (h : t Xd δ M Qd) (k : Kb K F Qd Q) : lowT K W t σ H Q := ⟨F, δ, M, Qd, Xd, l, s, k, kx, h⟩
theorem lowA_then {F H : Hp} {σ : L2.St} {δ : SD} {M : Md} {Xd : XD} {t : TAd} {Qd : List D → Md → Prop} {Q : List V → Hp → Prop} (l : Rl K F H M) (s : Sls K F σ δ) (kx : Kx K F Xd (WE W σ)) (h : t Xd δ M Qd) (k : Ka K F Qd Q) : lowA K W t σ H Q := ⟨F, δ, M, Qd, Xd, l, s, k, kx, h⟩

/-! ### names, constants -/
def tV (i : Nat) : TEd := fun _ δ M Q => match δ[i]? with
  | some (some d) => Q d M
  | _ => False
theorem pvd {i : Nat} (hN : X.N[i]? = some x) (hv : Vis X.env.scope x) (hd : (x == ("__debug__" : Str)) = false := by decide) (hcd : (x == ("__classdict__" : Str)) = false := by decide) : PEd X W (.Name x pos) (tV i) :=
  pe_imp (pe_var hN hv hd hcd) fun σ H Q ⟨F, δ, M, Qd, Xd, l, s, k, kx, h⟩ => by
    unfold tV at h
    split at h
    · rename_i d q
      obtain ⟨v, q1, r⟩ := s.get q
      exact ⟨v, q1, k.go (.rfl' F) l r h⟩
    · exact h.elim
def tK (d : D) : TEd := fun _ _ M Q => Q d M
theorem pk_of {v : V} {d : D} (h : PE X e (tC v)) (r : ∀ F, Rp X.K F v d) : PEd X W e (tK d) := pe_imp h fun σ H Q ⟨F, δ, M, Qd, Xd, l, s, k, kx, q⟩ => k.go (.rfl' F) l (r F) q
theorem pint {i : Int} {j pos} : PEd X W (.Constant (.int i) j pos) (tK (.int i)) := pk_of pe_int fun _ => .int i
theorem pbl {b : Bool} {j pos} : PEd X W (.Constant (.bool b) j pos) (tK (.bl b)) := pk_of pe_bl fun _ => .bl b
theorem pnon {j pos} : PEd X W (.Constant .none j pos) (tK .non) := pk_of pe_non fun _ => .non
theorem pstr {z : Str} {j pos} : PEd X W (.Constant (.str z) j pos) (tK (.str z)) := pk_of pe_str fun _ => .str z
theorem pglob {v : V} {u : Value} {d : D} (hg : Gl X x) (hm : X.mg x = some u) (r : RelV v u) (q : ∀ F, Rp X.K F v d) (hd : (x == ("__debug__" : Str)) = false := by decide) : PEd X W (.Name x pos) (tK d) := pk_of (pe_glob hg hm r hd) q

/-! ### two operands -/
abbrev R2d := D → D → Md → VD → Prop
def tO (r : R2d) (ta tb : TEd) : TEd := fun Xd δ M Q => ta Xd δ M fun x M1 => tb Xd δ M1 fun y M2 => r x y M2 Q
structure OK2 (K : PySem.W.Frag) (r : R2) (rd : R2d) : Prop where
  go : ∀ {F H : Hp} {M : Md} {x y : V} {d e : D} {Qd : VD} {Q : VK}, Rl K F H M → Rp K F x d → Rp K F y e → Kv K F Qd Q → rd d e M Qd → r x y H Q
theorem low_O {r : R2} {rd : R2d} (ok : OK2 K r rd) {σ : L2.St} {H : Hp} {Q : VK} (h : low K W (tO rd ta tb) σ H Q) : tOp r (low K W ta) (low K W tb) σ H Q := by
  obtain ⟨F, δ, M, Qd, Xd, l, s, k, kx, h⟩ := h
  refine low_then l s kx h ⟨fun {d M1 v G H1} g l1 r1 h1 => ?_⟩
  refine low_then l1 (s.mono g) (kx.mono g) h1 ⟨fun {d2 M2 v2 G2 H2} g2 l2 r2 h2 => ?_⟩
  exact ok.go l2 (r1.mono g2) r2 (k.mono (g.then' g2)) h2
theorem pbin {op : Operator} {r : R2} {rd : R2d} (ho : OpR X (binaryOp op) r) (ok : OK2 X.K r rd) (pa : PEd X W a ta) (pb : PEd X W b tb) : PEd X W (.BinOp a op b pos) (tO rd ta tb) := pe_imp (pe_op ho pa pb) fun _ _ _ h => low_O ok h
theorem pcmp {op : CmpOp} {r : R2} {rd : R2d} (ho : OpR X (compareOp op) r) (ok : OK2 X.K r rd) (pa : PEd X W a ta) (pb : PEd X W b tb) (hm : behindInMarks op b = false) : PEd X W (.Compare a [op] [b] pos) (tO rd ta tb) := pe_imp (pe_cmpR ho pa pb hm) fun _ _ _ h => low_O ok h
def tTs (t : TEd) : TTd := fun Xd δ M Q => t Xd δ M fun d M1 => match d with
  | .bl b => Q b M1
  | _ => False
theorem low_Ts {t : TEd} {u : TE} {σ : L2.St} {H : Hp} {Q : Bool → Hp → Prop} (hu : ∀ Q', low K W t σ H Q' → u σ H Q') (h : lowT K W (tTs t) σ H Q) : tTest u σ H Q := by
  obtain ⟨F, δ, M, Qd, Xd, l, s, k, kx, h⟩ := h
  refine hu _ (low_then l s kx h ⟨fun {d M1 v G H1} g l1 r1 h1 => ?_⟩)
  cases r1 with
  | bl b => exact ⟨b, rfl, k.go g l1 h1⟩
  | _ => exact h1.elim
theorem ptcmp {op : CmpOp} {r : R2} {rd : R2d} (ho : OpR X (compareOp op) r) (ok : OK2 X.K r rd) (pa : PEd X W a ta) (pb : PEd X W b tb) (hm : behindInMarks op b = false) : PTd X W (.Compare a [op] [b] pos) (tTs (tO rd ta tb)) :=
  pt_imp (pt_cmpR ho pa pb hm) fun _ _ _ h => low_Ts (fun _ => low_O ok) h
theorem pix {r : R2} {rd : R2d} (ho : IxR X r) (ok : OK2 X.K r rd) (pa : PEd X W a ta) (pb : PEd X W b tb) (hs : PlainIx b) : PEd X W (.Subscript a b pos) (tO rd ta tb) := pe_imp (pe_ix ho pa pb hs) fun _ _ _ h => low_O ok h

/-! ### one operand -/
abbrev R1d := D → Md → VD → Prop
def tU (r : R1d) (ta : TEd) : TEd := fun Xd δ M Q => ta Xd δ M fun x M1 => r x M1 Q
structure OK1 (K : PySem.W.Frag) (r : V → Hp → VK → Prop) (rd : R1d) : Prop where
  go : ∀ {F H : Hp} {M : Md} {x : V} {d : D} {Qd : VD} {Q : VK}, Rl K F H M → Rp K F x d → Kv K F Qd Q → rd d M Qd → r x H Q
theorem low_U {r : V → Hp → VK → Prop} {rd : R1d} (ok : OK1 K r rd) {σ : L2.St} {H : Hp} {Q : VK} (h : low K W (tU rd ta) σ H Q) : tUn r (low K W ta) σ H Q := by
  obtain ⟨F, δ, M, Qd, Xd, l, s, k, kx, h⟩ := h
  exact low_then l s kx h ⟨fun {d M1 v G H1} g l1 r1 h1 => ok.go l1 r1 (k.mono g) h1⟩
theorem punop {op : UnaryOp} {r : V → Hp → VK → Prop} {rd : R1d} (ho : UnR X (unaryOp op) r) (ok : OK1 X.K r rd) (pa : PEd X W a ta) : PEd X W (.UnaryOp op a pos) (tU rd ta) := pe_imp (pe_un ho pa) fun _ _ _ h => low_U ok h

/-! ### tests -/
theorem ptval (pa : PEd X W a ta) (ht : ∀ whole, isTrue a X.env whole = isTrue a X.env (eval a X.env) := by intros; rfl) : PEd X W a ta := pa
theorem low_B {t : TEd} {σ : L2.St} {H : Hp} {Q : Bool → Hp → Prop} (h : lowT K W (tTs t) σ H Q) : tB (low K W t) σ H Q := low_Ts (u := low K W t) (fun _ q => q) h
def tNo (t : TTd) : TTd := fun Xd δ M Q => t Xd δ M fun c M1 => Q (!c) M1
def tAn (t u : TTd) : TTd := fun Xd δ M Q => t Xd δ M fun c M1 => if c = true then u Xd δ M1 Q else Q false M1
def tOr' (t u : TTd) : TTd := fun Xd δ M Q => t Xd δ M fun c M1 => if c = true then Q true M1 else u Xd δ M1 Q
theorem ptnot (h : PTd X W a tt) : PTd X W (.UnaryOp .Not a pos) (tNo tt) := pt_imp (pt_not h) fun σ H Q ⟨F, δ, M, Qd, Xd, l, s, k, kx, q⟩ => lowT_then l s kx q ⟨fun g l1 h1 => k.go g l1 h1⟩
theorem pwand1 (h : PTd X W a tt) : PWd X W (.BoolOp .And [a] pos) tt := pw_and1 h
theorem pwor1 (h : PTd X W a tt) : PWd X W (.BoolOp .Or [a] pos) tt := pw_or1 h
theorem low_An {σ : L2.St} {H : Hp} {Q : Bool → Hp → Prop} (h : lowT K W (tAn tt tu) σ H Q) : tAnd (lowT K W tt) (lowT K W tu) σ H Q := by
  obtain ⟨F, δ, M, Qd, Xd, l, s, k, kx, h⟩ := h
  refine lowT_then l s kx h ⟨fun {b M1 G H1} g l1 h1 => ?_⟩
  cases b with
  | true => exact lowT_then l1 (s.mono g) (kx.mono g) (show tu Xd δ M1 Qd from h1) (k.mono g)
  | false => exact k.go g l1 (show Qd false M1 from h1)
theorem low_Or {σ : L2.St} {H : Hp} {Q : Bool → Hp → Prop} (h : lowT K W (tOr' tt tu) σ H Q) : tOr (lowT K W tt) (lowT K W tu) σ H Q := by
  obtain ⟨F, δ, M, Qd, Xd, l, s, k, kx, h⟩ := h
  refine lowT_then l s kx h ⟨fun {b M1 G H1} g l1 h1 => ?_⟩
  cases b with
  | false => exact lowT_then l1 (s.mono g) (kx.mono g) (show tu Xd δ M1 Qd from h1) (k.mono g)
  | true => exact k.go g l1 (show Qd true M1 from h1)
theorem pwand {rest : List Expr} (h : PTd X W a tt) (g : PWd X W (.BoolOp .And (b :: rest) pos) tu) : PWd X W (.BoolOp .And (a :: b :: rest) pos) (tAn tt tu) := pw_imp (pw_and h g) fun _ _ _ q => low_An q
theorem pwor {rest : List Expr} (h : PTd X W a tt) (g : PWd X W (.BoolOp .Or (b :: rest) pos) tu) : PWd X W (.BoolOp .Or (a :: b :: rest) pos) (tOr' tt tu) := pw_imp (pw_or h g) fun _ _ _ q => low_Or q
/-- and, or, not as values: Bools -/
def tAnV (ta tb : TEd) : TEd := fun Xd δ M Q => ta Xd δ M fun d M1 => match d with
  | .bl c => if c = true then tb Xd δ M1 Q else Q (.bl false) M1
  | _ => False
def tOrV' (ta tb : TEd) : TEd := fun Xd δ M Q => ta Xd δ M fun d M1 => match d with
  | .bl c => if c = true then Q (.bl true) M1 else tb Xd δ M1 Q
  | _ => False
def tNoV (ta : TEd) : TEd := fun Xd δ M Q => ta Xd δ M fun d M1 => match d with
  | .bl c => Q (.bl (!c)) M1
  | _ => False
theorem pone {op : BoolOp} (h : PEd X W a ta) : PEd X W (.BoolOp op [a] pos) ta := pe_one h
theorem pand {rest : List Expr} (h : PEd X W a ta) (g : PEd X W (.BoolOp .And (b :: rest) pos) tb) : PEd X W (.BoolOp .And (a :: b :: rest) pos) (tAnV ta tb) := pe_imp (pe_and h g) fun σ H Q ⟨F, δ, M, Qd, Xd, l, s, k, kx, q⟩ =>
  low_then l s kx q ⟨fun {d M1 v G H1} g l1 r1 h1 => by
    cases r1 with
    | bl c =>
      refine ⟨c, rfl, ?_⟩
      cases c with
      | true => exact low_then l1 (s.mono g) (kx.mono g) (show tb Xd δ M1 Qd from h1) (k.mono g)
      | false => exact k.go g l1 (.bl false) (show Qd (.bl false) M1 from h1)
    | _ => exact h1.elim⟩
theorem por {rest : List Expr} (h : PEd X W a ta) (g : PEd X W (.BoolOp .Or (b :: rest) pos) tb) : PEd X W (.BoolOp .Or (a :: b :: rest) pos) (tOrV' ta tb) := pe_imp (pe_or h g) fun σ H Q ⟨F, δ, M, Qd, Xd, l, s, k, kx, q⟩ =>
  low_then l s kx q ⟨fun {d M1 v G H1} g l1 r1 h1 => by
    cases r1 with
    | bl c =>
      refine ⟨c, rfl, ?_⟩
      cases c with
      | false => exact low_then l1 (s.mono g) (kx.mono g) (show tb Xd δ M1 Qd from h1) (k.mono g)
      | true => exact k.go g l1 (.bl true) (show Qd (.bl true) M1 from h1)
    | _ => exact h1.elim⟩
theorem pnot (h : PEd X W a ta) : PEd X W (.UnaryOp .Not a pos) (tNoV ta) := pe_imp (pe_not h) fun σ H Q ⟨F, δ, M, Qd, Xd, l, s, k, kx, q⟩ =>
  low_then l s kx q ⟨fun {d M1 v G H1} g l1 r1 h1 => by
    cases r1 with
    | bl c => exact ⟨c, rfl, k.go g l1 (.bl _) h1⟩
    | _ => exact h1.elim⟩
def tIfE (t : TTd) (ta tb : TEd) : TEd := fun Xd δ M Q => t Xd δ M fun c M1 => if c = true then ta Xd δ M1 Q else tb Xd δ M1 Q
theorem pife (h : PTd X W c tt) (pa : PEd X W a ta) (pb : PEd X W b tb) : PEd X W (.IfExp c a b pos) (tIfE tt ta tb) := pe_imp (pe_ifExp h pa pb) fun σ H Q ⟨F, δ, M, Qd, Xd, l, s, k, kx, q⟩ =>
  lowT_then l s kx q ⟨fun {d M1 G H1} g l1 h1 => by
    cases d with
    | true => exact low_then l1 (s.mono g) (kx.mono g) (show ta Xd δ M1 Qd from h1) (k.mono g)
    | false => exact low_then l1 (s.mono g) (kx.mono g) (show tb Xd δ M1 Qd from h1) (k.mono g)⟩

/-! ### arguments, displays -/
def tN0 : TAd := fun _ _ M Q => Q [] M
def tCo (t : TEd) (u : TAd) : TAd := fun Xd δ M Q => t Xd δ M fun d M1 => u Xd δ M1 fun ds M2 => Q (d :: ds) M2
theorem pa0 : PAd X W [] tN0 := pa_imp pa_nil fun σ H Q ⟨F, δ, M, Qd, Xd, l, s, k, kx, q⟩ => k.go (.rfl' F) l .nil q
theorem pac (h : PEd X W e ta) (g : PAd X W es tes) (hs : starEach (e :: es) X.env = (false, eval e X.env) :: starEach es X.env := by rfl) : PAd X W (e :: es) (tCo ta tes) := pa_imp (pa_cons h g hs) fun σ H Q ⟨F, δ, M, Qd, Xd, l, s, k, kx, q⟩ =>
  low_then l s kx q ⟨fun {d M1 v G H1} g l1 r1 h1 => lowA_then l1 (s.mono g) (kx.mono g) h1 ⟨fun {ds M2 vs G2 H2} g2 l2 r2 h2 => k.go (g.then' g2) l2 (.cons (r1.mono g2) r2) h2⟩⟩
def tTu (t : TAd) : TEd := fun Xd δ M Q => t Xd δ M fun ds M1 => ds.length ≤ sizeLine ∧ Q (.tup ds) M1
theorem ptup {x1 : Nat} (h : PAd X W es tes) : PEd X W (.Tuple es x1 pos) (tTu tes) := pe_imp (pe_tup h) fun σ H Q ⟨F, δ, M, Qd, Xd, l, s, k, kx, q⟩ =>
  lowA_then l s kx q ⟨fun {ds M1 vs G H1} g l1 r1 h1 => ⟨by rw [r1.len]; exact h1.1, fun p hp => by
    obtain ⟨l2, e2⟩ := l1.keep hp (.tup vs)
    exact k.go (g.then' e2) l2 (.tup (.inl (.inl upd_same)) (r1.mono e2)) h1.2⟩⟩
/-- a list that is not changed from now on -/
def tLs (t : TAd) : TEd := fun Xd δ M Q => t Xd δ M fun ds M1 => ds.length ≤ sizeLine ∧ Q (.lst ds) M1
theorem plst (h : PAd X W es tes) : PEd X W (.List es pos) (tLs tes) := pe_imp (pe_lst h) fun σ H Q ⟨F, δ, M, Qd, Xd, l, s, k, kx, q⟩ =>
  lowA_then l s kx q ⟨fun {ds M1 vs G H1} g l1 r1 h1 => ⟨by rw [r1.len]; exact h1.1, fun p hp => by
    obtain ⟨l2, e2⟩ := l1.keep hp (.lst vs)
    exact k.go (g.then' e2) l2 (.lst upd_same (r1.mono e2)) h1.2⟩⟩
/-- a list that is a cell of the store -/
def tLsM (t : TAd) : TEd := fun Xd δ M Q => t Xd δ M fun ds M1 => ds.length ≤ sizeLine ∧ ∀ p, M1 p = none → Q (.ref p) (put M1 p (.lst ds))
theorem plstM (h : PAd X W es tes) : PEd X W (.List es pos) (tLsM tes) := pe_imp (pe_lst h) fun σ H Q ⟨F, δ, M, Qd, Xd, l, s, k, kx, q⟩ =>
  lowA_then l s kx q ⟨fun {ds M1 vs G H1} g l1 r1 h1 => ⟨by rw [r1.len]; exact h1.1, fun p hp => by
    obtain ⟨n1, n2⟩ := l1.free hp
    exact k.go g (l1.cellput (u := .lst vs) (c := .lst ds) n1 ⟨vs, upd_same, r1⟩) (.ref p) (h1.2 p n2)⟩⟩

/-! ### built-in functions by their values -/
abbrev RCd := List D → Md → VD → Prop
def tCl (r : RCd) (t : TAd) : TEd := fun Xd δ M Q => t Xd δ M fun ds M1 => r ds M1 Q
structure OKC (K : PySem.W.Frag) (r : List V → Hp → VK → Prop) (rd : RCd) : Prop where
  go : ∀ {F H : Hp} {M : Md} {vs : List V} {ds : List D} {Qd : VD} {Q : VK}, Rl K F H M → Rps K F vs ds → Kv K F Qd Q → rd ds M Qd → r vs H Q
theorem low_Cl {r : List V → Hp → VK → Prop} {rd : RCd} (ok : OKC K r rd) {σ : L2.St} {H : Hp} {Q : VK} (h : low K W (tCl rd tes) σ H Q) : tCB r (lowA K W tes) σ H Q := by
  obtain ⟨F, δ, M, Qd, Xd, l, s, k, kx, h⟩ := h
  exact lowA_then l s kx h ⟨fun {ds M1 vs G H1} g l1 r1 h1 => ok.go l1 r1 (k.mono g) h1⟩
theorem pcallB {id : String} {r : List V → Hp → VK → Prop} {rd : RCd} (hc : CallR X (.builtin id) r) (ok : OKC X.K r rd) (hg : Gl X x) (hm : X.mg x = none) (hv : bootBuiltins x = some (.builtin id)) (ha : PAd X W (e :: es) tes) (hn : x ≠ "__name__" := by decide) (hdb : (x == ("__debug__" : Str)) = false := by decide)
    (he : starEach (e :: es) X.env = (false, eval e X.env) :: starEach es X.env := by rfl) (hpl : (backTo pos (starEach es X.env)).any (·.1) = false := by rfl) : PEd X W (.Call (.Name x p) (e :: es) [] pos) (tCl rd tes) := pe_imp (pe_callB hc hg hm hv ha hn hdb he hpl) fun _ _ _ h => low_Cl ok h
theorem pcallTy {id : String} {r : List V → Hp → VK → Prop} {rd : RCd} (hc : CallR X (.type id) r) (ok : OKC X.K r rd) (hg : Gl X x) (hm : X.mg x = none) (hv : bootBuiltins x = some (.type id)) (ha : PAd X W (e :: es) tes) (hn : x ≠ "__name__" := by decide) (hdb : (x == ("__debug__" : Str)) = false := by decide)
    (he : starEach (e :: es) X.env = (false, eval e X.env) :: starEach es X.env := by rfl) (hpl : (backTo pos (starEach es X.env)).any (·.1) = false := by rfl) : PEd X W (.Call (.Name x p) (e :: es) [] pos) (tCl rd tes) := pe_imp (pe_callTy hc hg hm hv ha hn hdb he hpl) fun _ _ _ h => low_Cl ok h

/-! ### methods of built-in types -/
abbrev RMd := D → List D → Md → VD → Prop
def tMt (r : RMd) (t : TEd) (u : TAd) : TEd := fun Xd δ M Q => t Xd δ M fun o M1 => u Xd δ M1 fun ds M2 => r o ds M2 Q
end
end DL
/-! The data layer: defs, their promises and their calls. -/
namespace DL
open PySem PySem.Spec PyProof.Rows L2
variable [B : Obs]

/-! ### what a def keeps: as FnOk, where no repr is under way -/
structure FnG (P : Program) (w : World) (K : PySem.W.Frag) (mg : Str → Option Value) (base : Heap) (k : Nat) (f : Addr) (fd : FuncData) (ps : List Str) (sp : Sp) : Prop where
  many : ∀ {vs H Q E}, sp vs H Q E → vs.length = ps.length
  goes : ∀ {A : Around} {outer : List Env} {s : Shared} {H : Hp} {args : Args} {us : List Value} {vs : List V} {Q : VK} {E : XK},
    Room k A → A.guards = some [] → Env0 P w K mg base A outer s H → BindsTo s fd args (ps.zip us) → Vals vs us → sp vs H Q E →
    codeAny (model P w) A (.call (.ref f) args) (CR (L2N.CX P w) outer P w H s Q E) s
theorem FnG.up {P : Program} {w : World} {K : PySem.W.Frag} {mg : Str → Option Value} {base : Heap} {j k : Nat} {f : Addr} {fd : FuncData} {ps : List Str} {sp : Sp}
    (F : FnG P w K mg base j f fd ps sp) (h : j ≤ k) : FnG P w K mg base k f fd ps sp := ⟨F.many, fun r => F.goes (r.mono h)⟩
theorem guards_deeper {A : Around} {env : Env} (h : A.guards = some []) : (A.deeper env).guards = some [] := h
theorem guards_make {A : Around} {C : Addr} {us : List Value} (h : A.guards = some []) : (A.under (.builtin "type.__call__" ⟨.ref C :: us, []⟩)).guards = some [] := by
  simp [Around.under, h, Code.guards, Code.isGuard, guardIds]
  all_goals rfl

/-- a promise over data -/
abbrev SpD := List D → Md → VD → XD → Prop
def toSp (K : PySem.W.Frag) (sp : SpD) : Sp := fun vs H Q E => ∃ F M ds Qd Xd, Rl K F H M ∧ Rps K F vs ds ∧ Kv K F Qd Q ∧ Kx K F Xd E ∧ sp ds M Qd Xd
abbrev FnD (P : Program) (w : World) (K : PySem.W.Frag) (mg : Str → Option Value) (base : Heap) (k : Nat) (f : Addr) (fd : FuncData) (ps : List Str) (sp : SpD) : Prop := FnG P w K mg base k f fd ps (toSp K sp)

/-! ### what holds all through a body -/
structure Cd (X : Cx) (W : WX) (k : Nat) : Prop where
  nd : X.N.Nodup
  calm : X.calm = true
  tk : L2N.Takes X W
  hp : PassesOwn (model X.prog X.w) X.A X.env X.xe
  rm : Room k X.A
  gd : X.A.guards = some []
section
variable {X : Cx} {W : WX} {k n : Nat} {f C : Addr} {fd : FuncData} {ps : List Str} {sp : Sp} {spd : SpD} {ds : List Value} {dvs : List V} {dds : List D} {x m : Str} {p pos apos : Pos} {e o : Expr} {es : List Expr} {t : TA} {tes : TAd} {te : TEd}
theorem goes_fn {pins : List (Addr × Obj)} {σ : L2.St} {H : Hp} {s : Shared} {Q : VK} {us : List Value} {vs : List V} (c : Cd X W n) (F : FnG X.prog X.w X.K X.mg X.base k f fd ps sp) (hk : k ≤ n) (hb : Binds X.K fd ps ds) (hd : Vals dvs ds)
    (I : Inv X pins σ H s) (r : Vals vs us) (h : sp (vs ++ dvs) H Q (WE W σ)) : wpAny (model X.prog X.w) X.A (call (.ref f) us) (EP X pins σ Q) X.xe s := by
  have rr := r.append hd
  have many : (us ++ ds).length = ps.length := rr.length.symm.trans (F.many h)
  refine wpAny_call (codeAny_mono (F.goes (c.rm.mono hk) c.gd I.env0 (hb s us I.kIn many) rr h) fun z s' q => ?_)
  match z, q with
  | .error u, q => exact L2N.passAt c.tk σ pins H s u s' I q
  | .ok (.ret u), q => exact I.after q
  | .ok .next, q => exact q.elim
  | .ok .brk, q => exact q.elim
  | .ok .cont, q => exact q.elim
def tFnS (W : WX) (sp : Sp) (dvs : List V) (t : TA) : TE := fun σ H Q => t σ H fun vs H1 => sp (vs ++ dvs) H1 Q (WE W σ)
theorem pe_goes (c : Cd X W n) (F : FnG X.prog X.w X.K X.mg X.base k f fd ps sp) (hk : k ≤ n) (hg : Gl X x) (hm : X.mg x = some (.ref f)) (kp : PySem.W.keepIn X.K (.ref f) = true) (hb : Binds X.K fd ps ds) (hd : Vals dvs ds)
    (ha : PA X (e :: es) t) (hdb : (x == ("__debug__" : Str)) = false := by decide) (he : starEach (e :: es) X.env = (false, eval e X.env) :: starEach es X.env := by rfl)
    (hpl : (backTo pos (starEach es X.env)).any (·.1) = false := by rfl) : PE X (.Call (.Name x p) (e :: es) [] pos) (tFnS W sp dvs t) :=
  ⟨fun pins s σ H Q I h => wpAny_Call_Name_kw (ld_glob I hg hm (PySem.W.callWith_K (h₀ := X.base) I.ok.mod.kin kp
    (thn (ha.run pos pins s σ H _ I h) fun us s1 ⟨vs, H1, I1, r, q⟩ => ⟨I1.kIn, goes_fn c F hk hb hd I1 r q⟩) he hpl) hdb)⟩
theorem pe_goes0 (c : Cd X W n) (F : FnG X.prog X.w X.K X.mg X.base k f fd ps sp) (hk : k ≤ n) (hg : Gl X x) (hm : X.mg x = some (.ref f)) (kp : PySem.W.keepIn X.K (.ref f) = true) (hb : Binds X.K fd ps ds) (hd : Vals dvs ds)
    (hdb : (x == ("__debug__" : Str)) = false := by decide) : PE X (.Call (.Name x p) [] [] pos) (tFnS W sp dvs tNil) :=
  ⟨fun pins s σ H Q I h => wpAny_Call_Name_kw (ld_glob I hg hm (PySem.W.callWith_K0 I.kIn kp (goes_fn (us := []) c F hk hb hd I .nil h)) hdb)⟩
/-- f(e, ..): the promise at the arguments and the defaults -/
def tFn (sp : SpD) (dds : List D) (t : TAd) : TEd := fun Xd δ M Q => t Xd δ M fun ds M1 => sp (ds ++ dds) M1 Q Xd
theorem low_Fn {K : PySem.W.Frag} {σ : L2.St} {H : Hp} {Q : VK} (hq : ∀ F, Rps K F dvs dds) (h : low K W (tFn spd dds tes) σ H Q) : tFnS W (toSp K spd) dvs (lowA K W tes) σ H Q := by
  obtain ⟨F, δ, M, Qd, Xd, l, s, kq, kx, h⟩ := h
  exact lowA_then l s kx h ⟨fun {ds M1 vs G H1} g l1 r1 h1 => ⟨G, M1, _, Qd, Xd, l1, r1.app (hq G), kq.mono g, kx.mono g, h1⟩⟩
theorem pfn (c : Cd X W n) (F : FnD X.prog X.w X.K X.mg X.base k f fd ps spd) (hk : k ≤ n) (hg : Gl X x) (hm : X.mg x = some (.ref f)) (kp : PySem.W.keepIn X.K (.ref f) = true) (hb : Binds X.K fd ps []) (ha : PAd X W (e :: es) tes)
    (hdb : (x == ("__debug__" : Str)) = false := by decide) (he : starEach (e :: es) X.env = (false, eval e X.env) :: starEach es X.env := by rfl) (hpl : (backTo pos (starEach es X.env)).any (·.1) = false := by rfl) :
    PEd X W (.Call (.Name x p) (e :: es) [] pos) (tFn spd [] tes) := pe_imp (pe_goes c F hk hg hm kp hb .nil ha hdb he hpl) fun _ _ _ h => low_Fn (fun _ => .nil) h
theorem pfnD (c : Cd X W n) (F : FnD X.prog X.w X.K X.mg X.base k f fd ps spd) (hk : k ≤ n) (hg : Gl X x) (hm : X.mg x = some (.ref f)) (kp : PySem.W.keepIn X.K (.ref f) = true) (hb : Binds X.K fd ps ds) (hd : Vals dvs ds) (hq : ∀ F, Rps X.K F dvs dds) (ha : PAd X W (e :: es) tes)
    (hdb : (x == ("__debug__" : Str)) = false := by decide) (he : starEach (e :: es) X.env = (false, eval e X.env) :: starEach es X.env := by rfl) (hpl : (backTo pos (starEach es X.env)).any (·.1) = false := by rfl) :
    PEd X W (.Call (.Name x p) (e :: es) [] pos) (tFn spd dds tes) := pe_imp (pe_goes c F hk hg hm kp hb hd ha hdb he hpl) fun _ _ _ h => low_Fn hq h
theorem pfn0 (c : Cd X W n) (F : FnD X.prog X.w X.K X.mg X.base k f fd ps spd) (hk : k ≤ n) (hg : Gl X x) (hm : X.mg x = some (.ref f)) (kp : PySem.W.keepIn X.K (.ref f) = true) (hb : Binds X.K fd ps [])
    (hdb : (x == ("__debug__" : Str)) = false := by decide) : PEd X W (.Call (.Name x p) [] [] pos) (tFn spd [] tN0) := pe_imp (pe_goes0 c F hk hg hm kp hb .nil hdb) fun σ H Q ⟨F, δ, M, Qd, Xd, l, s, kq, kx, h⟩ => ⟨F, M, [], Qd, Xd, l, .nil, kq, kx, h⟩
end

/-! ### a def by its body -/
def startD (N : List Str) (ds : List D) : SD := ds.map some ++ List.replicate (N.length - ds.length) none
theorem start_rel {K : PySem.W.Frag} {F : Hp} {N : List Str} {vs : List V} {ds : List D} (h : Rps K F vs ds) : Sls K F (L2.start N vs) (startD N ds) := by
  unfold L2.start startD
  rw [h.len]
  generalize N.length - ds.length = n
  induction vs generalizing ds with
  | nil =>
    cases h
    induction n with
    | zero => exact .nil
    | succ n ih => exact .cons trivial ih
  | cons v vs ih =>
    cases h with
    | cons h t => exact .cons h (ih t)
/-- how a def ends: what it hands back may be told otherwise, its own cells forgotten -/
structure Fin (M : Md) (d : D) (M' : Md) (d' : D) : Prop where
  go : ∀ {K : PySem.W.Frag} {F H : Hp} {v : V}, Rl K F H M → Rp K F v d → ∃ G, Le F G ∧ Rl K G H M' ∧ Rp K G v d'
def outD (Qd : VD) (Xd : XD) : EndsD := { nx := fun _ M => ∃ M', (∀ a c, M' a = some c → M a = some c) ∧ Qd .non M', rt := fun d M => ∃ M' d', Fin M d M' d' ∧ Qd d' M', xx := fun C fs _ M => ∃ M', (∀ a c, M' a = some c → M a = some c) ∧ Xd C fs M' }
theorem lt_out {K : PySem.W.Frag} {F : Hp} {Qd : VD} {Xd : XD} {Q : VK} {E : XK} (kq : Kv K F Qd Q) (kx : Kx K F Xd E) : LT K (fun c d _ H => E c d H) F (outD Qd Xd) { nx := fun _ H => Q .non H, rt := Q } where
  nx := ⟨fun g l _ ⟨M', h1, h2⟩ => kq.go g (l.less h1) .non h2⟩
  rt := ⟨fun g l r ⟨M', d', f, h⟩ => by
    obtain ⟨J, e, l', r'⟩ := f.go l r
    exact kq.go (g.then' e) l' r' h⟩
  bk := ⟨fun _ _ _ h => h⟩
  ct := ⟨fun _ _ _ h => h⟩
  xx := fun g _ => ⟨fun g2 l f ⟨M', h1, h2⟩ => kx.go (g.then' g2) (l.less h1) f h2⟩
section
variable {P : Program} {w : World} {K : PySem.W.Frag} {mg : Str → Option Value} {base : Heap} {k : Nat} {f : Addr} {fd : FuncData} {name qual : Str} {params : Arguments} {body : List Stmt} {scope : Scope} {dvs : List V} {kws : List (Str × V)} {N ps : List Str} {sp : Sp} {spd : SpD}
theorem fn_goes (F : FunD K name qual params body scope dvs kws f fd) (S : FnScope N ps scope) (len : ∀ {vs H Q E}, sp vs H Q E → vs.length = ps.length)
    (hbody : ∀ (cdv : Value) (A : Around) (outer : List Env) (s : Shared) (H : Hp) (vs : List V) (Q : VK) (E : XK), Room k (A.deeper (envOfC qual scope s.heap.objs.size f cdv)) → A.guards = some [] → sp vs H Q E →
      ∃ t, PSs (cxOf (L2N.CX P w) P w K mg base N qual scope f cdv A outer s H E) body t ∧ t { nx := fun _ H' => Q .non H', rt := Q } (L2.start N vs) H) : FnG P w K mg base (k + 1) f fd ps sp := by
  obtain ⟨oc, od, dV, kV, doc, pm, an, cdv, ct, osl, rfl, lk, hcd, _, _⟩ := F.ex
  refine ⟨len, fun {A outer s H args us vs Q E} hr hg e0 hb r hsp => ?_⟩
  have old : ∀ b o, base.get? b = some o → s.heap.get? b = some o := fun b o e => (e0.bs b o e).1
  have KX : K.In s.heap := e0.mod.kin.keeps old
  have kinds : ∀ y ∈ ps.zip us, scope.names.lookup y.1 = some .local ∨ (scope.names.lookup y.1 = some .cell ∧ ((cellsFrom (s.heap.objs.size + 1) scope.names []).lookup y.1).isSome = true) := by
    intro y hy
    rcases S.par y.1 (List.of_mem_zip hy).1 with q | q
    · exact Or.inl q
    · exact Or.inr ⟨q, PySem.W.cellsFrom_some _ _ _ (Or.inl q)⟩
  refine codeAny_call_function hr.depth (KX _ _ lk) rfl S.co S.gen rfl (PySem.W.codeRec_of KX hcd) (hb _ _ _ _ (wpAny_newFunctionEnv_cells S.kind kinds fun env he s1 x => ?_))
  subst he
  refine ⟨(e0.mod.nolimit.keeps old).keeps x.toInCall.keep, codeAny_func ?_⟩
  obtain ⟨t, ht, hq⟩ := hbody cdv A outer s H vs Q E (hr.deeper _) hg hsp
  refine wpAny_mono (ht.run [] s1 _ H _ (inv_start S hr.hd e0 (len hsp) r x) hq) (fun fl s' hs => ?_) fun u s' z => z
  match fl, hs with
  | .ret u, ⟨v, σ', H', J, rv, q⟩ => exact ⟨v, H', J.os, J.bare, J.base, J.hok, rv, q⟩
  | .next, ⟨σ', H', J, q⟩ => exact ⟨.non, H', J.os, J.bare, J.base, J.hok, rfl, q⟩
  | .brk, ⟨_, _, _, q⟩ => exact q.elim
  | .cont, ⟨_, _, _, q⟩ => exact q.elim
/-- THE RULE: the body's reading over data, shown from the promise -/
theorem fn_data (F : FunD K name qual params body scope dvs kws f fd) (S : FnScope N ps scope) (len : ∀ {ds M Qd Xd}, spd ds M Qd Xd → ds.length = ps.length) {td : TSd}
    (hbody : ∀ (cdv : Value) (A : Around) (outer : List Env) (s : Shared) (H : Hp) (E : XK), Cd (cxOf (L2N.CX P w) P w K mg base N qual scope f cdv A outer s H E) (fun c d _ H => E c d H) k →
      PSsd (cxOf (L2N.CX P w) P w K mg base N qual scope f cdv A outer s H E) (fun c d _ H => E c d H) body td)
    (pure_ : ∀ {ds M Qd Xd}, spd ds M Qd Xd → td (outD Qd Xd) (startD N ds) M) : FnD P w K mg base (k + 1) f fd ps spd := by
  refine fn_goes F S (fun h => ?_) fun cdv A outer s H vs Q E hr hg h => ?_
  · obtain ⟨G, M, ds, Qd, Xd, l, r, kq, kx, q⟩ := h
    rw [r.len]
    exact len q
  · obtain ⟨G, M, ds, Qd, Xd, l, r, kq, kx, q⟩ := h
    refine ⟨_, hbody cdv A outer s H E ⟨S.nd, rfl, L2N.takes_of rfl rfl rfl rfl, passes_of rfl, hr, guards_deeper hg⟩, ?_⟩
    exact ⟨G, startD N ds, M, outD Qd Xd, l, start_rel r, lt_out kq kx, pure_ q⟩
end
end DL
/-! The data layer: statements, loops. -/
namespace DL
open PySem PySem.Spec PyProof.Rows L2
variable [B : Obs]
section
variable {X : Cx} {W : WX} {n : Nat} {K : PySem.W.Frag} {a b c e o tg iter : Expr} {es : List Expr} {st : Stmt} {sts body els : List Stmt} {pos p pos' : Pos} {x : Str} {te ta tb : TEd} {tt : TTd} {tes : TAd} {td tu : TSd} {gd : TGd} {gs : TGsd}
theorem lowS_then {F H : Hp} {σ : L2.St} {δ : SD} {M : Md} {t : TSd} {Dd : EndsD} {E : Ends} (l : Rl K F H M) (s : Sls K F σ δ) (lt : LT K W F Dd E) (h : t Dd δ M) : lowS K W t E σ H := ⟨F, δ, M, Dd, l, s, lt, h⟩
/-! ### in a row -/
def tNx : TSd := fun D δ M => D.nx δ M
def tSq (t u : TSd) : TSd := fun D δ M => t { D with nx := u D } δ M
theorem ss0 : PSsd X W [] tNx := pss_imp pss_nil fun E σ H ⟨F, δ, M, Dd, l, s, lt, h⟩ => lt.nx.go (.rfl' F) l s h
theorem ssc (h : PSd X W st td) (g : PSsd X W sts tu) : PSsd X W (st :: sts) (tSq td tu) := pss_imp (pss_cons h g) fun E σ H ⟨F, δ, M, Dd, l, s, lt, q⟩ =>
  lowS_then (Dd := { Dd with nx := tu Dd }) l s ⟨⟨fun {δ1 M1 σ1 G H1} g1 l1 s1 h1 => lowS_then l1 s1 (lt.mono g1) h1⟩, lt.rt, lt.bk, lt.ct, lt.xx⟩ q
theorem ss1 (h : PSd X W st td) : PSsd X W [st] td := pss_one h
/-- what is told of the slots and the store may be told otherwise -/
structure Vs (δ : SD) (M : Md) (δ' : SD) (M' : Md) : Prop where
  go : ∀ {K : PySem.W.Frag} {F H : Hp} {σ : L2.St}, Rl K F H M → Sls K F σ δ → ∃ G, Le F G ∧ Rl K G H M' ∧ Sls K G σ δ'
def tVs (t : TSd) : TSd := fun D δ M => ∃ δ' M', Vs δ M δ' M' ∧ t D δ' M'
theorem ssv (h : PSsd X W sts td) : PSsd X W sts (tVs td) := pss_imp h fun E σ H ⟨F, δ, M, Dd, l, s, lt, δ', M', v, q⟩ => by
  obtain ⟨G, g, l', s'⟩ := v.go l s
  exact lowS_then l' s' (lt.mono g) q
theorem sv (h : PSd X W st td) : PSd X W st (tVs td) := ps_imp h fun E σ H ⟨F, δ, M, Dd, l, s, lt, δ', M', v, q⟩ => by
  obtain ⟨G, g, l', s'⟩ := v.go l s
  exact lowS_then l' s' (lt.mono g) q
/-! ### simple statements -/
def tBk : TSd := fun D δ M => D.bk δ M
def tCt : TSd := fun D δ M => D.ct δ M
theorem spass : PSd X W (.Pass pos) tNx := ps_imp ps_pass fun E σ H ⟨F, δ, M, Dd, l, s, lt, h⟩ => lt.nx.go (.rfl' F) l s h
theorem sbreak : PSd X W (.Break pos) tBk := ps_imp ps_break fun E σ H ⟨F, δ, M, Dd, l, s, lt, h⟩ => lt.bk.go (.rfl' F) l s h
theorem scont : PSd X W (.Continue pos) tCt := ps_imp ps_continue fun E σ H ⟨F, δ, M, Dd, l, s, lt, h⟩ => lt.ct.go (.rfl' F) l s h
def tEx (t : TEd) : TSd := fun D δ M => t (D.xk δ) δ M fun _ M1 => D.nx δ M1
theorem sexpr (h : PEd X W e te) (hs : swapsWith e none pos.line X.env = pure false := by rfl) : PSd X W (.Expr e pos) (tEx te) := ps_imp (ps_expr h hs) fun E σ H ⟨F, δ, M, Dd, l, s, lt, q⟩ =>
  low_then l s (lt.xx (.rfl' F) s) q ⟨fun g l1 _ h1 => lt.nx.go g l1 (s.mono g) h1⟩
def tRt (t : TEd) : TSd := fun D δ M => t (D.xk δ) δ M D.rt
theorem sret (h : PEd X W e te) : PSd X W (.Return (some e) pos) (tRt te) := ps_imp (ps_ret h) fun E σ H ⟨F, δ, M, Dd, l, s, lt, q⟩ =>
  low_then l s (lt.xx (.rfl' F) s) q ⟨fun g l1 r1 h1 => lt.rt.go g l1 r1 h1⟩
def tRt0 : TSd := fun D δ M => D.rt .non M
theorem sret0 : PSd X W (.Return none pos) tRt0 := ps_imp ps_retN fun E σ H ⟨F, δ, M, Dd, l, s, lt, q⟩ => lt.rt.go (.rfl' F) l .non q
def tIf' (t : TTd) (u v : TSd) : TSd := fun D δ M => t (D.xk δ) δ M fun c M1 => if c = true then u D δ M1 else v D δ M1
theorem sif (h : PTd X W c tt) (g1 : PSsd X W body td) (g2 : PSsd X W els tu) : PSd X W (.If c body els pos) (tIf' tt td tu) := ps_imp (ps_if h g1 g2) fun E σ H ⟨F, δ, M, Dd, l, s, lt, q⟩ =>
  lowT_then l s (lt.xx (.rfl' F) s) q ⟨fun {b M1 G H1} g l1 h1 => by
    cases b with
    | true => exact lowS_then l1 (s.mono g) (lt.mono g) (show td Dd δ M1 from h1)
    | false => exact lowS_then l1 (s.mono g) (lt.mono g) (show tu Dd δ M1 from h1)⟩
/-- a statement that is never reached -/
def tNv : TSd := fun _ _ _ => False
theorem snever : PSd X W st tNv := ps_imp ps_never fun E σ H ⟨F, δ, M, Dd, l, s, lt, q⟩ => q
theorem ssnever : PSsd X W sts tNv := pss_imp pss_never fun E σ H ⟨F, δ, M, Dd, l, s, lt, q⟩ => q
/-! ### targets -/
def gN (i : Nat) : TGd := fun _ d δ M Q => Q (δ.set i (some d)) M
theorem low_gN {i : Nat} {v : V} {σ : L2.St} {H : Hp} {Q : L2.St → Hp → Prop} (h : lowG K W (gN i) v σ H Q) : gName i v σ H Q := by
  obtain ⟨F, δ, M, d, Qd, Xd, l, sl, rd, k, kx, h⟩ := h
  exact k.go (.rfl' F) l (sl.put' rd i) h
theorem pg_imp {t u : TG} (h : PG X e u) (k : ∀ v σ H Q, t v σ H Q → u v σ H Q) : PG X e t := ⟨fun pins s σ H v u Q I r q => h.run pins s σ H v u Q I r (k v σ H Q q)⟩
theorem pgs_imp {t u : TGs} (h : PGs X es u) (k : ∀ v σ H Q, t v σ H Q → u v σ H Q) : PGs X es t := ⟨fun pins s σ H v u Q I r q => h.run pins s σ H v u Q I r (k v σ H Q q)⟩
theorem gname {i : Nat} (hN : X.N.Nodup) (hi : X.N[i]? = some x) (hx : Loc X.env.scope x) (hf : X.fn x = true ∨ X.env.scope.names.lookup x = some .local := by first | exact .inl rfl | exact .inr rfl | assumption) : PGd X W (.Name x pos) (gN i) := pg_imp (pg_name hN hi hx hf) fun _ _ _ _ h => low_gN h
def gs0 : TGsd := fun ds δ M Q => match ds with
  | [] => Q δ M
  | _ => False
def gsc (t : TGd) (u : TGsd) : TGsd := fun ds δ M Q => match ds with
  | d :: r => t X0 d δ M fun δ' M' => u r δ' M' Q
  | [] => False
theorem gnil : PGsd X [] gs0 := pgs_imp pgs_nil fun v σ H Q ⟨F, δ, M, ds, Qd, l, sl, rd, k, h⟩ => by
  cases rd with
  | nil => exact ⟨rfl, k.go (.rfl' F) l sl h⟩
  | cons _ _ => exact h.elim
theorem gcons (h : PGd X W e gd) (g : PGsd X es gs) (he : (assignEach (e :: es) X.env).map (·.2) = assign e X.env :: (assignEach es X.env).map (·.2) := by rfl) : PGsd X (e :: es) (gsc gd gs) := pgs_imp (pgs_cons h g he) fun v σ H Q ⟨F, δ, M, ds, Qd, l, sl, rd, k, h⟩ => by
  cases rd with
  | nil => exact h.elim
  | cons r t => exact ⟨_, _, rfl, F, δ, M, _, _, X0, l, sl, r, ⟨fun {δ1 M1 σ1 G H1} g1 l1 s1 h1 => ⟨G, δ1, M1, _, Qd, l1, s1, t.mono g1, k.mono g1, h1⟩⟩, kx0, h⟩
/-- a, b = a tuple -/
def gT (n : Nat) (t : TGsd) : TGd := fun _ d δ M Q => match d with
  | .tup ds => ds.length = n ∧ t ds δ M Q
  | _ => False
theorem gtup {k m : Nat} (hc : X.calm = true) (h : PGsd X es gs) (hn : (assignEach es X.env).length = m := by rfl) (hst : (assignEach es X.env).findIdx? (·.1) = none := by rfl) : PGd X W (.Tuple es k pos) (gT m gs) :=
  pg_imp (pg_tup hc h hn hst) fun v σ H Q ⟨F, δ, M, d, Qd, Xd, l, sl, rd, k, kx, h⟩ => by
    cases rd with
    | tup hq r => exact ⟨_, _, rfl, l.sub.sqt hq, r.len.trans h.1, F, δ, M, _, Qd, l, sl, r, k, h.2⟩
    | _ => exact h.elim
/-! ### assignments -/
def tAs (t : TEd) (g : TGd) : TSd := fun D δ M => t (D.xk δ) δ M fun d M1 => g (D.xk δ) d δ M1 D.nx
theorem sasg (he : PEd X W e te) (hg : PGd X W tg gd) (hs : swapsWithSole [tg] e pos.line X.env = pure false := by rfl) (hw : swappedStores [tg] e X.env = pure none := by rfl)
    (h1 : (assignEach [tg] X.env).map (·.2) = [assign tg X.env] := by rfl) : PSd X W (.Assign [tg] e pos) (tAs te gd) := ps_imp (ps_asg he hg hs hw h1) fun E σ H ⟨F, δ, M, Dd, l, s, lt, q⟩ =>
  low_then l s (lt.xx (.rfl' F) s) q ⟨fun {d M1 v G H1} g l1 r1 h1 => ⟨G, δ, M1, d, Dd.nx, Dd.xk δ, l1, s.mono g, r1, lt.nx.mono g, lt.xx g (s.mono g), h1⟩⟩
def tSe (t : TEd) (i : Nat) : TSd := fun D δ M => t (D.xk δ) δ M fun d M1 => D.nx (δ.set i (some d)) M1
theorem sset {i : Nat} (hN : X.N.Nodup) (hi : X.N[i]? = some x) (hx : Loc X.env.scope x) (he : PEd X W e te) (hs : swapsWith e (some (.Name x pos')) pos.line X.env = pure false := by rfl)
    (hf : X.fn x = true ∨ X.env.scope.names.lookup x = some .local := by first | exact .inl rfl | exact .inr rfl | assumption) : PSd X W (.Assign [.Name x pos'] e pos) (tSe te i) := ps_imp (ps_set hN hi hx he hs hf) fun E σ H ⟨F, δ, M, Dd, l, s, lt, q⟩ =>
  low_then l s (lt.xx (.rfl' F) s) q ⟨fun {d M1 v G H1} g l1 r1 h1 => lt.nx.go g l1 ((s.mono g).put' r1 i) h1⟩
/-- x op= e -/
structure OKP (K : PySem.W.Frag) (r : TIp) (rd : R2d) : Prop where
  go : ∀ {F H : Hp} {M : Md} {x y : V} {d e : D} {Qd : VD} {Q : VK}, Rl K F H M → Rp K F x d → Rp K F y e → Kv K F Qd Q → rd d e M Qd → r x y H Q
def tAu (i : Nat) (t : TEd) (rd : R2d) : TSd := fun D δ M => match δ[i]? with
  | some (some d) => t (D.xk δ) δ M fun e M1 => rd d e M1 fun z M2 => D.nx (δ.set i (some z)) M2
  | _ => False
theorem saug {i : Nat} {op : Operator} {r : TIp} {rd : R2d} (hN : X.N.Nodup) (hi : X.N[i]? = some x) (hx : Loc X.env.scope x) (he : PEd X W e te) (ho : PIp X op r) (ok : OKP X.K r rd)
    (hf : X.fn x = true ∨ X.env.scope.names.lookup x = some .local := by first | exact .inl rfl | exact .inr rfl | assumption) : PSd X W (.AugAssign (.Name x pos') op e pos) (tAu i te rd) := ps_imp (ps_aug hN hi hx he ho hf) fun E σ H ⟨F, δ, M, Dd, l, s, lt, q⟩ => by
  unfold tAu at q
  split at q
  · rename_i d qd
    obtain ⟨v, q1, r0⟩ := s.get qd
    refine ⟨v, q1, low_then l s (lt.xx (.rfl' F) s) q ⟨fun {d1 M1 v1 G H1} g l1 r1 h1 => ok.go l1 (r0.mono g) r1 ⟨fun {d2 M2 v2 G2 H2} g2 l2 r2 h2 => ?_⟩ h1⟩⟩
    exact lt.nx.go (g.then' g2) l2 ((s.mono (g.then' g2)).put' r2 i) h2
  · exact q.elim
/-! ### while: by a word that falls -/
def tWh (t : TTd) (tb : TSd) : TSd := fun D δ M => ∃ W : Nat → SD → Md → Prop, (∃ m, W m δ M) ∧ ∀ m δ M, W m δ M →
  t (D.xk δ) δ M fun b M1 => if b = true then tb { D with nx := fun δ' M' => ∃ m', m' < m ∧ W m' δ' M', ct := fun δ' M' => ∃ m', m' < m ∧ W m' δ' M', bk := D.nx } δ M1 else D.nx δ M1
theorem swhile (hp : PassesOwn (model X.prog X.w) X.A X.env X.xe) (hc : PTd X W c tt) (hb : PSsd X W body td) : PSd X W (.While c body [] pos) (tWh tt td) := ps_imp (ps_while hp hc hb) fun E σ H ⟨F, δ, M, Dd, l, s, lt, Wd, ⟨m0, w0⟩, turn⟩ => by
  refine ⟨fun m σ H => ∃ G δ M, Le F G ∧ Rl X.K G H M ∧ Sls X.K G σ δ ∧ Wd m δ M, ⟨m0, F, δ, M, .rfl' F, l, s, w0⟩, ?_⟩
  rintro m σ1 H1 ⟨G, δ1, M1, g, l1, s1, w1⟩
  refine lowT_then l1 s1 (lt.xx g s1) (turn m δ1 M1 w1) ⟨fun {b M2 G2 H2} g2 l2 h2 => ?_⟩
  cases b with
  | false => exact lt.nx.go (g.then' g2) l2 (s1.mono g2) h2
  | true =>
    refine ⟨fun σ' H' => ∃ G' δ' M', Le F G' ∧ Rl X.K G' H' M' ∧ Sls X.K G' σ' δ' ∧ ∃ m', m' < m ∧ Wd m' δ' M', ?_, ?_⟩
    · rintro σ' H' ⟨G', δ', M', e1, e2, e3, m', hm, w'⟩
      exact ⟨m', hm, G', δ', M', e1, e2, e3, w'⟩
    · refine lowS_then (Dd := { Dd with nx := fun δ' M' => ∃ m', m' < m ∧ Wd m' δ' M', ct := fun δ' M' => ∃ m', m' < m ∧ Wd m' δ' M', bk := Dd.nx }) l2 (s1.mono g2) ⟨?_, lt.rt.mono (g.then' g2), lt.nx.mono (g.then' g2), ?_, fun e1 e2 => lt.xx ((g.then' g2).then' e1) e2⟩ h2
      · exact ⟨fun {δ' M' σ' G' H'} e1 e2 e3 h => ⟨G', δ', M', (g.then' g2).then' e1, e2, e3, h⟩⟩
      · exact ⟨fun {δ' M' σ' G' H'} e1 e2 e3 h => ⟨G', δ', M', (g.then' g2).then' e1, e2, e3, h⟩⟩
/-! ### what a loop walks -/
/-- items, and what must still hold of the store at each turn -/
structure Src where
  items : List D
  ok : Md → Prop
structure Feeds (K : PySem.W.Frag) (F : Hp) (S : Src) (J : It) : Prop where
  go : ∀ {i : Nat} {G H : Hp} {M : Md}, Le F G → Rl K G H M → S.ok M → i < S.items.length → J.go i H
  stop : ∀ {i : Nat} {G H : Hp} {M : Md}, Le F G → Rl K G H M → S.ok M → S.items.length ≤ i → J.stop i H
  yld : ∀ {i : Nat} {G H H' : Hp} {M : Md} {x : V} {d : D}, Le F G → Rl K G H M → S.ok M → S.items[i]? = some d → J.yld i H x H' → ∃ G', Le G G' ∧ Rl K G' H' M ∧ Rp K G' x d
abbrev TId := XD → SD → Md → (Src → Md → Prop) → Prop
def lowI (K : PySem.W.Frag) (W : WX) (t : TId) : TI := fun σ H R => ∃ F δ M Rd Xd, Rl K F H M ∧ Sls K F σ δ ∧ Kx K F Xd (WE W σ) ∧ (∀ {S : Src} {J : It} {M1 : Md} {G H1 : Hp}, Le F G → Rl K G H1 M1 → Feeds K G S J → Rd S M1 → R J H1) ∧ t Xd δ M Rd
abbrev PId (X : Cx) (W : WX) (tg iter : Expr) (t : TId) : Prop := PI X tg iter (lowI X.K W t)
theorem pi_imp {t u : TI} (h : PI X tg iter u) (k : ∀ σ H Q, t σ H Q → u σ H Q) : PI X tg iter t := ⟨fun pins s σ H Q I q => h.run pins s σ H Q I (k σ H Q q)⟩
/-- one turn behind another -/
def forGo (g : TGd) (tb : TSd) (ok : Md → Prop) (E : EndsD) : List D → SD → Md → Prop
  | [], δ, M => ok M ∧ E.nx δ M
  | d :: ds, δ, M => ok M ∧ g (E.xk δ) d δ M fun δ1 M1 => tb { E with nx := forGo g tb ok E ds, ct := forGo g tb ok E ds, bk := E.nx } δ1 M1
def tFo (ti : TId) (g : TGd) (tb : TSd) : TSd := fun D δ M => ti (D.xk δ) δ M fun S M1 => forGo g tb S.ok D S.items δ M1
theorem sfor (hp : PassesOwn (model X.prog X.w) X.A X.env X.xe) (hc : X.calm = true) {ti : TId} (hi : PId X W tg iter ti) (hg : PGd X W tg gd) (hb : PSsd X W body td) (hs : ∀ x, foldedSetIterable iter X.env x = pure x := by intros; rfl) :
    PSd X W (.For tg iter body [] pos) (tFo ti gd td) := ps_imp (ps_for hp hc hi hg hb hs) fun E σ H ⟨F, δ, M, Dd, l, s, lt, q⟩ => by
  refine ⟨F, δ, M, _, Dd.xk δ, l, s, lt.xx (.rfl' F) s, fun {S J M1 G H1} g l1 fd h1 => ?_, q⟩
  refine ⟨fun i m σ H => ∃ G1 δ M, Le G G1 ∧ Rl X.K G1 H M ∧ Sls X.K G1 σ δ ∧ i + m = S.items.length ∧ forGo gd td S.ok Dd (S.items.drop i) δ M, ⟨S.items.length, G, δ, M1, .rfl' G, l1, s.mono g, Nat.zero_add _, h1⟩, ?_⟩
  rintro i m σ1 H2 ⟨G1, δ1, M2, g1, l2, s2, him, w⟩
  by_cases hi : i < S.items.length
  · right
    rw [List.drop_eq_getElem_cons hi] at w
    obtain ⟨w1, w2⟩ := w
    refine ⟨fd.go g1 l2 w1 hi, fun σ' H' => ∃ G' δ' M', Le G G' ∧ Rl X.K G' H' M' ∧ Sls X.K G' σ' δ' ∧ forGo gd td S.ok Dd (S.items.drop (i + 1)) δ' M', ?_, ?_⟩
    · rintro σ' H' ⟨G', δ', M', e1, e2, e3, h⟩
      exact ⟨m - 1, by omega, G', δ', M', e1, e2, e3, by omega, h⟩
    · intro x H' hy
      obtain ⟨G3, g3, l3, r3⟩ := fd.yld g1 l2 w1 (List.getElem?_eq_getElem hi) hy
      have gg := g.then' (g1.then' g3)
      refine ⟨G3, δ1, M2, _, _, Dd.xk δ1, l3, s2.mono g3, r3, ⟨fun {δ4 M4 σ4 G4 H4} g4 l4 s4 h4 => ?_⟩, lt.xx gg (s2.mono g3), w2⟩
      refine lowS_then (Dd := { Dd with nx := forGo gd td S.ok Dd (S.items.drop (i + 1)), ct := forGo gd td S.ok Dd (S.items.drop (i + 1)), bk := Dd.nx }) l4 s4 ⟨?_, lt.rt.mono (gg.then' g4), lt.nx.mono (gg.then' g4), ?_, fun e1 e2 => lt.xx ((gg.then' g4).then' e1) e2⟩ h4
      · exact ⟨fun {δ' M' σ' G' H'} e1 e2 e3 h => ⟨G', δ', M', ((g1.then' g3).then' g4).then' e1, e2, e3, h⟩⟩
      · exact ⟨fun {δ' M' σ' G' H'} e1 e2 e3 h => ⟨G', δ', M', ((g1.then' g3).then' g4).then' e1, e2, e3, h⟩⟩
  · left
    rw [List.drop_eq_nil_of_le (by omega)] at w
    exact ⟨fd.stop g1 l2 w.1 (by omega), lt.nx.go (g.then' g1) l2 s2 w.2⟩
end
end DL
/-! The data layer: operations by values. -/
namespace DL
open PySem PySem.Spec PyProof.Rows L2
variable [B : Obs]
section
variable {X : Cx} {W : WX} {K : PySem.W.Frag} {F H : Hp} {M : Md} {v : V} {d : D}
/-! ### what a list, a tuple holds -/
def seqL (M : Md) : D → Option (List D)
  | .lst xs => some xs
  | .ref a => match M a with
    | some (.lst xs) => some xs
    | _ => none
  | _ => none
theorem seqL_ok (l : Rl K F H M) (r : Rp K F v d) {xs : List D} (h : seqL M d = some xs) : ∃ a vs, v = .ref a ∧ H a = some (.lst vs) ∧ Rps K F vs xs := by
  cases r with
  | lst p q =>
    cases h
    exact ⟨_, _, rfl, l.sub.of p, q⟩
  | ref a =>
    have h' : (match M a with
      | some (MC.lst xs) => some xs
      | _ => Option.none) = some xs := h
    cases e : M a with
    | none =>
      rw [e] at h'
      cases h'
    | some c =>
      rw [e] at h'
      cases c with
      | lst ys =>
        cases h'
        obtain ⟨_, vs, p, q⟩ := l.cell a _ e
        exact ⟨a, vs, rfl, p, q⟩
      | _ => cases h'
  | _ => cases h
def seqT : D → Option (List D)
  | .tup xs => some xs
  | _ => none
theorem seqT_ok (l : Rl K F H M) (r : Rp K F v d) {xs : List D} (h : seqT d = some xs) : ∃ a vs, v = .ref a ∧ SqT K H a vs ∧ Rps K F vs xs := by
  cases r with
  | tup p q =>
    cases h
    exact ⟨_, _, rfl, l.sub.sqt p, q⟩
  | _ => cases h
/-- a list or a tuple -/
def seqA (M : Md) (d : D) : Option (List D) := match d with
  | .tup xs => some xs
  | .lst xs => some xs
  | .ref a => match M a with
    | some (.lst xs) => some xs
    | some (.tux xs) => some xs
    | _ => none
  | _ => none
theorem seqA_out {a : Addr} {xs : List D} (h : seqA M (.ref a) = some xs) : M a = some (.lst xs) ∨ M a = some (.tux xs) := by
  have h' : (match M a with
    | some (MC.lst xs) => some xs
    | some (MC.tux xs) => some xs
    | _ => Option.none) = some xs := h
  cases e : M a with
  | none =>
    rw [e] at h'
    cases h'
  | some c =>
    rw [e] at h'
    cases c with
    | lst ys =>
      cases h'
      exact .inl rfl
    | tux ys =>
      cases h'
      exact .inr rfl
    | _ => cases h'
theorem seqA_ref {a : Addr} {xs : List D} (h : M a = some (.lst xs)) : seqA M (.ref a) = some xs := by
  show (match M a with
    | some (MC.lst xs) => some xs
    | some (MC.tux xs) => some xs
    | _ => Option.none) = some xs
  rw [h]
theorem seqA_tux {a : Addr} {xs : List D} (h : M a = some (.tux xs)) : seqA M (.ref a) = some xs := by
  show (match M a with
    | some (MC.lst xs) => some xs
    | some (MC.tux xs) => some xs
    | _ => Option.none) = some xs
  rw [h]
/-- .. and which of both -/
def seqS (M : Md) (d : D) : Option (Bool × List D) := match d with
  | .tup xs => some (true, xs)
  | .lst xs => some (false, xs)
  | .ref a => match M a with
    | some (.lst xs) => some (false, xs)
    | some (.tux xs) => some (true, xs)
    | _ => none
  | _ => none
theorem seqS_out {a : Addr} {b : Bool} {xs : List D} (h : seqS M (.ref a) = some (b, xs)) : M a = some (if b = true then .tux xs else .lst xs) := by
  have h' : (match M a with
    | some (MC.lst xs) => some (false, xs)
    | some (MC.tux xs) => some (true, xs)
    | _ => Option.none) = some (b, xs) := h
  cases e : M a with
  | none =>
    rw [e] at h'
    cases h'
  | some c =>
    rw [e] at h'
    cases c with
    | lst ys =>
      cases h'
      rfl
    | tux ys =>
      cases h'
      rfl
    | _ => cases h'
theorem seqS_of {xs : List D} (h : seqA M d = some xs) : ∃ b, seqS M d = some (b, xs) := by
  cases d with
  | tup ys =>
    cases h
    exact ⟨true, rfl⟩
  | lst ys =>
    cases h
    exact ⟨false, rfl⟩
  | ref a =>
    rcases seqA_out h with e | e
    · refine ⟨false, ?_⟩
      show (match M a with
        | some (MC.lst xs) => some (false, xs)
        | some (MC.tux xs) => some (true, xs)
        | _ => Option.none) = _
      rw [e]
    · refine ⟨true, ?_⟩
      show (match M a with
        | some (MC.lst xs) => some (false, xs)
        | some (MC.tux xs) => some (true, xs)
        | _ => Option.none) = _
      rw [e]
  | _ => cases h
theorem seqA_of {b : Bool} {xs : List D} (h : seqS M d = some (b, xs)) : seqA M d = some xs := by
  cases d with
  | tup ys =>
    cases h
    rfl
  | lst ys =>
    cases h
    rfl
  | ref a =>
    have e := seqS_out h
    cases b with
    | true => exact seqA_tux e
    | false => exact seqA_ref e
  | _ => cases h
theorem tux_sqt (l : Rl K F H M) {a : Addr} {xs : List D} (h : M a = some (.tux xs)) : ∃ vs, SqT K H a vs ∧ Rps K F vs xs := by
  obtain ⟨_, o, vs, p, c, q⟩ := l.cell a _ h
  exact ⟨vs, .inl (.inr ⟨o, p⟩), q⟩
theorem seqA_ok (l : Rl K F H M) (r : Rp K F v d) {xs : List D} (h : seqA M d = some xs) : ∃ a vs, v = .ref a ∧ (H a = some (.lst vs) ∨ SqT K H a vs) ∧ Rps K F vs xs := by
  cases d with
  | tup ys =>
    obtain ⟨a, vs, e, p, q⟩ := seqT_ok l r (xs := ys) rfl
    cases h
    exact ⟨a, vs, e, .inr p, q⟩
  | lst ys =>
    obtain ⟨a, vs, e, p, q⟩ := seqL_ok l r (xs := xs) h
    exact ⟨a, vs, e, .inl p, q⟩
  | ref a =>
    cases r
    rcases seqA_out h with e | e
    · obtain ⟨_, vs, p, q⟩ := l.cell a _ e
      exact ⟨a, vs, rfl, .inl p, q⟩
    · obtain ⟨vs, p, q⟩ := tux_sqt l e
      exact ⟨a, vs, rfl, .inr p, q⟩
  | _ => cases h

/-! ### whole numbers -/
def i2 (g : Int → Int → D) : R2d := fun x y M Q => match x, y with
  | .int i, .int j => Q (g i j) M
  | _, _ => False
theorem ok_i2 {gv : Int → Int → V} {g : Int → Int → D} (h : ∀ F i j, Rp K F (gv i j) (g i j)) : OK2 K (rI0 gv) (i2 g) := ⟨fun {F H M x y d e Qd Q} l rx ry k q => by
  cases rx with
  | int i => cases ry with
    | int j => exact ⟨i, j, rfl, rfl, k.go (.rfl' F) l (h F i j) q⟩
    | _ => exact q.elim
  | _ => exact q.elim⟩
def i2c (C : Int → Int → Prop) (g : Int → Int → D) : R2d := fun x y M Q => match x, y with
  | .int i, .int j => C i j ∧ Q (g i j) M
  | _, _ => False
theorem ok_i2c {C : Int → Int → Prop} {gv : Int → Int → V} {g : Int → Int → D} (h : ∀ F i j, Rp K F (gv i j) (g i j)) : OK2 K (rI C gv) (i2c C g) := ⟨fun {F H M x y d e Qd Q} l rx ry k q => by
  cases rx with
  | int i => cases ry with
    | int j => exact ⟨i, j, rfl, rfl, q.1, k.go (.rfl' F) l (h F i j) q.2⟩
    | _ => exact q.elim
  | _ => exact q.elim⟩
abbrev rSubD : R2d := i2 fun i j => .int (i - j)
abbrev rAndD : R2d := i2 fun i j => .int (Builtin.bitAnd i j)
abbrev rOrD : R2d := i2 fun i j => .int (Builtin.bitOr i j)
abbrev rXorD : R2d := i2 fun i j => .int (Builtin.bitXor i j)
abbrev rLtD : R2d := i2 fun i j => .bl (decide (i < j))
abbrev rLeD : R2d := i2 fun i j => .bl (decide (i ≤ j))
abbrev rGtD : R2d := i2 fun i j => .bl (decide (j < i))
abbrev rGeD : R2d := i2 fun i j => .bl (decide (j ≤ i))
abbrev rDivD : R2d := i2c CDiv fun i j => .int (i / j)
abbrev rModD : R2d := i2c (fun _ j => 0 < j) fun i j => .int (i % j)
abbrev rShlD : R2d := i2c CPow fun i j => .int (i * 2 ^ j.toNat)
abbrev rShrD : R2d := i2c (fun _ j => 0 ≤ j) fun i j => .int (i / 2 ^ j.toNat)
/-- + of ints, texts, lists, tuples -/
def rAddD : R2d := fun x y M Q => match x, y with
  | .int i, .int j => Q (.int (i + j)) M
  | .str a, .str b => a.length + b.length ≤ sizeLine ∧ Q (.str (a ++ b)) M
  | .tup xs, .tup ys => xs.length + ys.length ≤ sizeLine ∧ xs ≠ [] ∧ Q (.tup (xs ++ ys)) M
  | x, y => ∃ xs ys, seqL M x = some xs ∧ seqL M y = some ys ∧ xs.length + ys.length ≤ sizeLine ∧ Q (.lst (xs ++ ys)) M
abbrev rAddH (K : PySem.W.Frag) : R2 := fun x y H Q => (rI0 fun i j => .int (i + j)) x y H Q ∨ (fun x y H Q => (fun x y H Q => ∃ i j, x = .str i ∧ y = .str j ∧ i.length + j.length ≤ sizeLine ∧ Q (.str (i ++ j)) H) x y H Q ∨
  (fun x y H Q => rCatT K x y H Q ∨ rCat x y H Q) x y H Q) x y H Q
theorem op_addA : OpR X (binaryOp .Add) (rAddH X.K) := op_add.or (op_add_str.or (op_catT.or op_cat))
theorem ok_add : OK2 K (rAddH K) rAddD := ⟨fun {F H M x y d e Qd Q} l rx ry k q => by
  unfold rAddD at q
  split at q
  · cases rx
    cases ry
    exact .inl ⟨_, _, rfl, rfl, k.go (.rfl' F) l (.int _) q⟩
  · cases rx
    cases ry
    exact .inr (.inl ⟨_, _, rfl, rfl, q.1, k.go (.rfl' F) l (.str _) q.2⟩)
  · rename_i xs ys
    obtain ⟨a, vs, e1, p1, r1⟩ := seqT_ok l rx (xs := xs) rfl
    obtain ⟨b, ws, e2, p2, r2⟩ := seqT_ok l ry (xs := ys) rfl
    obtain ⟨q1, q2, q3⟩ := q
    refine .inr (.inr (.inl ⟨a, b, vs, ws, e1, e2, p1, p2, fun z => ?_, by rw [r1.len, r2.len]; exact q1, fun z => ?_, fun z p hp => ?_⟩))
    · rw [z] at r1
      cases r1
      exact q2 rfl
    · rw [z] at r2
      cases r2
      rw [List.append_nil] at q3
      rw [← e1]
      exact k.go (.rfl' F) l rx q3
    · obtain ⟨l2, g2⟩ := l.keep hp (.tup (vs ++ ws))
      exact k.go g2 l2 (.tup (.inl (.inl upd_same)) ((r1.app r2).mono g2)) q3
  · obtain ⟨xs, ys, h1, h2, hz, q3⟩ := q
    obtain ⟨a, vs, e1, p1, r1⟩ := seqL_ok l rx h1
    obtain ⟨b, ws, e2, p2, r2⟩ := seqL_ok l ry h2
    refine .inr (.inr (.inr ⟨a, b, vs, ws, e1, e2, p1, p2, by rw [r1.len, r2.len]; exact hz, fun p hp => ?_⟩))
    obtain ⟨l2, g2⟩ := l.keep hp (.lst (vs ++ ws))
    exact k.go g2 l2 (.lst upd_same ((r1.app r2).mono g2)) q3⟩
/-- * of ints, of a list and an int -/
def rMulD : R2d := fun x y M Q => match x, y with
  | .int i, .int j => CMul i j ∧ Q (.int (i * j)) M
  | x, .int k => ∃ xs, seqL M x = some xs ∧ (-(2 ^ 63) ≤ k ∧ k < 2 ^ 63) ∧ xs.length * k.toNat ≤ sizeLine ∧ Q (.lst (List.replicate k.toNat xs).flatten) M
  | _, _ => False
abbrev rMulH : R2 := fun x y H Q => (rI CMul fun i j => .int (i * j)) x y H Q ∨ rRep x y H Q
theorem op_mulA : OpR X (binaryOp .Mult) rMulH := op_mul.or op_rep
theorem Rps.rep {vs : List V} {ds : List D} (r : Rps K F vs ds) : ∀ n : Nat, Rps K F (List.replicate n vs).flatten (List.replicate n ds).flatten
  | 0 => .nil
  | n + 1 => by
    rw [List.replicate_succ, List.replicate_succ, List.flatten_cons, List.flatten_cons]
    exact r.app (Rps.rep r n)
theorem ok_mul : OK2 K rMulH rMulD := ⟨fun {F H M x y d e Qd Q} l rx ry k q => by
  unfold rMulD at q
  split at q
  · cases rx
    cases ry
    exact .inl ⟨_, _, rfl, rfl, q.1, k.go (.rfl' F) l (.int _) q.2⟩
  · obtain ⟨xs, h1, hk, hz, q3⟩ := q
    obtain ⟨a, vs, e1, p1, r1⟩ := seqL_ok l rx h1
    cases ry
    refine .inr ⟨a, _, vs, e1, rfl, p1, hk.1, hk.2, by rw [r1.len]; exact hz, fun p hp => ?_⟩
    obtain ⟨l2, g2⟩ := l.keep hp (.lst (List.replicate _ vs).flatten)
    exact k.go g2 l2 (.lst upd_same ((r1.rep _).mono g2)) q3
  · exact q.elim⟩
def rNegD : R1d := fun x M Q => match x with
  | .int i => Q (.int (-i)) M
  | _ => False
theorem ok_neg : OK1 K (rU fun i => .int (-i)) rNegD := ⟨fun {F H M x d Qd Q} l rx k q => by
  cases rx with
  | int i => exact ⟨i, rfl, k.go (.rfl' F) l (.int _) q⟩
  | _ => exact q.elim⟩

/-! ### == -/
mutual
/-- the plain datum that d stands for -/
inductive Py (M : Md) : D → PyData → Prop
  | non : Py M .non .none
  | bl (b : Bool) : Py M (.bl b) (.bool b)
  | int (i : Int) : Py M (.int i) (.int i)
  | str (x : Str) : Py M (.str x) (.str x)
  | lst {ds : List D} {ps : List PyData} (h : Pys M ds ps) : Py M (.lst ds) (.list ps)
  | tup {ds : List D} {ps : List PyData} (h : Pys M ds ps) : Py M (.tup ds) (.tuple ps)
  | cell {a : Addr} {ds : List D} {ps : List PyData} (e : M a = some (.lst ds)) (h : Pys M ds ps) : Py M (.ref a) (.list ps)
inductive Pys (M : Md) : List D → List PyData → Prop
  | nil : Pys M [] []
  | cons {d : D} {p : PyData} {ds : List D} {ps : List PyData} (h : Py M d p) (t : Pys M ds ps) : Pys M (d :: ds) (p :: ps)
end
mutual
theorem Py.dp (l : Rl K F H M) {v : V} {d : D} {p : PyData} (h : Py M d p) (r : Rp K F v d) : Dp K H v p := by
  cases h with
  | non =>
    cases r
    exact .non
  | bl b =>
    cases r
    exact .bl b
  | int i =>
    cases r
    exact .int i
  | str x =>
    cases r
    exact .str x
  | lst h =>
    cases r with
    | lst e q => exact .lst (.inl (.inl (l.sub.of e))) (Pys.dp l h q)
  | tup h =>
    cases r with
    | tup e q => exact .tup (l.sub.sqt e) (Pys.dp l h q)
  | cell e h =>
    cases r
    obtain ⟨_, vs, p1, p2⟩ := l.cell _ _ e
    exact .lst (.inl (.inl p1)) (Pys.dp l h p2)
theorem Pys.dp (l : Rl K F H M) {vs : List V} {ds : List D} {ps : List PyData} (h : Pys M ds ps) (r : Rps K F vs ds) : DpAll K H vs ps := by
  cases h with
  | nil =>
    cases r
    exact .nil
  | cons h t =>
    cases r with
    | cons r1 r2 => exact .cons (Py.dp l h r1) (Pys.dp l t r2)
end
/-- equality of scalars comes out by computation; else by what both stand for -/
def rEqD : R2d := fun x y M Q => match x, y with
  | .int i, .int j => Q (.bl (decide (i = j))) M
  | .str a, .str b => Q (.bl (decide (a = b))) M
  | .bl a, .bl b => Q (.bl (decide (a = b))) M
  | x, y => ∃ p q, Py M x p ∧ Py M y q ∧ SeqAt.shaped p = true ∧ SeqAt.shaped q = true ∧ Q (.bl (PyData.eqv p q)) M
def rNeD : R2d := fun x y M Q => match x, y with
  | .int i, .int j => Q (.bl (!decide (i = j))) M
  | .str a, .str b => Q (.bl (!decide (a = b))) M
  | .bl a, .bl b => Q (.bl (!decide (a = b))) M
  | x, y => ∃ p q, Py M x p ∧ Py M y q ∧ SeqAt.shaped p = true ∧ SeqAt.shaped q = true ∧ Q (.bl (!PyData.eqv p q)) M
abbrev rEqH (K : PySem.W.Frag) : R2 := fun x y H Q => rEq x y H Q ∨ L2.rEqD K x y H Q
abbrev rNeH (K : PySem.W.Frag) : R2 := fun x y H Q => rNe x y H Q ∨ L2.rNeD K x y H Q
theorem op_eqA (hu : X.A.units + 64 < cLine) : OpR X (compareOp .Eq) (rEqH X.K) := op_eq.or (op_eqD hu)
theorem op_neA (hu : X.A.units + 64 < cLine) : OpR X (compareOp .NotEq) (rNeH X.K) := op_ne.or (op_neD hu)
theorem dec_int (i j : Int) : decide (V.int i = V.int j) = decide (i = j) := by simp
theorem dec_str (i j : Str) : decide (V.str i = V.str j) = decide (i = j) := by simp
theorem dec_bl (i j : Bool) : decide (V.bl i = V.bl j) = decide (i = j) := by simp
theorem ok_eq : OK2 K (rEqH K) rEqD := ⟨fun {F H M x y d e Qd Q} l rx ry k q => by
  unfold rEqD at q
  split at q
  · cases rx
    cases ry
    exact .inl ⟨rfl, by rw [dec_int]; exact k.go (.rfl' F) l (.bl _) q⟩
  · cases rx
    cases ry
    exact .inl ⟨rfl, by rw [dec_str]; exact k.go (.rfl' F) l (.bl _) q⟩
  · cases rx
    cases ry
    exact .inl ⟨rfl, by rw [dec_bl]; exact k.go (.rfl' F) l (.bl _) q⟩
  · obtain ⟨p, p', h1, h2, s1, s2, q⟩ := q
    exact .inr ⟨p, p', h1.dp l rx, h2.dp l ry, s1, s2, k.go (.rfl' F) l (.bl _) q⟩⟩
theorem ok_ne : OK2 K (rNeH K) rNeD := ⟨fun {F H M x y d e Qd Q} l rx ry k q => by
  unfold rNeD at q
  split at q
  · cases rx
    cases ry
    exact .inl ⟨rfl, by rw [dec_int]; exact k.go (.rfl' F) l (.bl _) q⟩
  · cases rx
    cases ry
    exact .inl ⟨rfl, by rw [dec_str]; exact k.go (.rfl' F) l (.bl _) q⟩
  · cases rx
    cases ry
    exact .inl ⟨rfl, by rw [dec_bl]; exact k.go (.rfl' F) l (.bl _) q⟩
  · obtain ⟨p, p', h1, h2, s1, s2, q⟩ := q
    exact .inr ⟨p, p', h1.dp l rx, h2.dp l ry, s1, s2, k.go (.rfl' F) l (.bl _) q⟩⟩
/-! ### is None, is not None; is, is not of Bools -/
def isNon : D → Bool
  | .non => true
  | _ => false
theorem isNon_ok (r : Rp K F v d) : decide (v = .non) = isNon d := by
  cases r <;> rfl
def rIsD : R2d := fun x y M Q => match y with
  | .non => Q (.bl (isNon x)) M
  | .bl b => match x with
    | .bl a => Q (.bl (decide (a = b))) M
    | _ => False
  | _ => False
def rIsnD : R2d := fun x y M Q => match y with
  | .non => Q (.bl (!isNon x)) M
  | .bl b => match x with
    | .bl a => Q (.bl (!decide (a = b))) M
    | _ => False
  | _ => False
abbrev rIsH : R2 := fun x y H Q => (fun x y H Q => y = .non ∧ Q (.bl (decide (x = .non))) H) x y H Q ∨ rIsB x y H Q
abbrev rIsnH : R2 := fun x y H Q => (fun x y H Q => y = .non ∧ Q (.bl (!decide (x = .non))) H) x y H Q ∨ rNotB x y H Q
theorem op_isA : OpR X (compareOp .Is) rIsH := op_isN.or op_isBl
theorem op_isnA : OpR X (compareOp .IsNot) rIsnH := op_notN.or op_notBl
theorem ok_is : OK2 K rIsH rIsD := ⟨fun {F H M x y d e Qd Q} l rx ry k q => by
  cases ry with
  | non => exact .inl ⟨rfl, by rw [isNon_ok rx]; exact k.go (.rfl' F) l (.bl _) q⟩
  | bl b => cases rx with
    | bl a => exact .inr ⟨a, b, rfl, rfl, k.go (.rfl' F) l (.bl _) q⟩
    | _ => exact q.elim
  | _ => exact q.elim⟩
theorem ok_isn : OK2 K rIsnH rIsnD := ⟨fun {F H M x y d e Qd Q} l rx ry k q => by
  cases ry with
  | non => exact .inl ⟨rfl, by rw [isNon_ok rx]; exact k.go (.rfl' F) l (.bl _) q⟩
  | bl b => cases rx with
    | bl a => exact .inr ⟨a, b, rfl, rfl, k.go (.rfl' F) l (.bl _) q⟩
    | _ => exact q.elim
  | _ => exact q.elim⟩
/-! ### in, of flat things -/
def flatD : D → Bool
  | .non => true
  | .bl _ => true
  | .int _ => true
  | .str _ => true
  | _ => false
theorem flat_ok (r : Rp K F v d) (h : flatD d = true) : flatV v = true := by
  cases r with
  | non => rfl
  | bl b => rfl
  | int i => rfl
  | str x => rfl
  | _ => cases h
theorem flats_ok {vs : List V} {ds : List D} (r : Rps K F vs ds) (h : ds.all flatD = true) : vs.all flatV = true := by
  induction vs generalizing ds with
  | nil => rfl
  | cons v vs ih =>
    cases r with
    | cons r t =>
      rw [List.all_cons, Bool.and_eq_true] at h ⊢
      exact ⟨flat_ok r h.1, ih t h.2⟩
def eqF : D → D → Bool
  | .non, .non => true
  | .bl a, .bl b => a == b
  | .bl a, .int b => (if a then 1 else 0) == b
  | .int a, .bl b => a == (if b then 1 else 0)
  | .int a, .int b => a == b
  | .str a, .str b => a == b
  | _, _ => false
theorem eqF_ok {u : V} {e : D} (r : Rp K F v d) (q : Rp K F u e) : eqV v u = eqF d e := by
  cases r <;> cases q <;> rfl
def inF (x : D) (xs : List D) : Bool := xs.any fun y => eqF y x
theorem inF_ok {vs : List V} {ds : List D} (r : Rp K F v d) (q : Rps K F vs ds) : inV v vs = inF d ds := by
  unfold inV inF
  induction vs generalizing ds with
  | nil =>
    cases q
    rfl
  | cons u vs ih =>
    cases q with
    | cons q t => rw [List.any_cons, List.any_cons, eqF_ok q r, ih t]
/-- x in a list or a tuple of flat things, in a text -/
def rInD (neg : Bool) : R2d := fun x y M Q => match y with
  | .str b => match x with
    | .str a => Q (.bl (if neg then !(!(Builtin.Str.occurrences b a 0 b.length 1).isEmpty) else !(Builtin.Str.occurrences b a 0 b.length 1).isEmpty)) M
    | _ => False
  | y => ∃ xs, seqA M y = some xs ∧ flatD x = true ∧ xs.all flatD = true ∧ Q (.bl (if neg then !inF x xs else inF x xs)) M
abbrev rInH (K : PySem.W.Frag) : R2 := fun x y H Q => rIn K false x y H Q ∨ (fun x y H Q => ∃ i j, x = .str i ∧ y = .str j ∧ Q (.bl (!(Builtin.Str.occurrences j i 0 j.length 1).isEmpty)) H) x y H Q
abbrev rNinH (K : PySem.W.Frag) : R2 := fun x y H Q => rIn K true x y H Q ∨ (fun x y H Q => ∃ i j, x = .str i ∧ y = .str j ∧ Q (.bl (!(!(Builtin.Str.occurrences j i 0 j.length 1).isEmpty))) H) x y H Q
theorem op_inA : OpR X (compareOp .In) (rInH X.K) := op_in_seq.or op_in_str
theorem op_ninA : OpR X (compareOp .NotIn) (rNinH X.K) := op_notIn_seq.or op_notIn_str
theorem ok_in_seq {neg : Bool} {x y : V} {d e : D} {Qd : VD} {Q : VK} (l : Rl K F H M) (rx : Rp K F x d) (ry : Rp K F y e) (k : Kv K F Qd Q)
    (q : ∃ xs, seqA M e = some xs ∧ flatD d = true ∧ xs.all flatD = true ∧ Qd (.bl (if neg then !inF d xs else inF d xs)) M) : rIn K neg x y H Q := by
  obtain ⟨xs, h, f1, f2, q⟩ := q
  obtain ⟨a, vs, e1, p, r⟩ := seqA_ok l ry h
  refine ⟨a, vs, e1, ?_, flat_ok rx f1, flats_ok r f2, ?_⟩
  · rcases p with p | p
    · exact .inl (.inl (.inl p))
    · exact .inr p
  · rw [inF_ok rx r]
    exact k.go (.rfl' F) l (.bl _) q
theorem ok_in : OK2 K (rInH K) (rInD false) := ⟨fun {F H M x y d e Qd Q} l rx ry k q => by
  cases ry with
  | str b => cases rx with
    | str a => exact .inr ⟨a, b, rfl, rfl, k.go (.rfl' F) l (.bl _) q⟩
    | _ => exact q.elim
  | lst p r => exact .inl (ok_in_seq l rx (.lst p r) k q)
  | tup p r => exact .inl (ok_in_seq l rx (.tup p r) k q)
  | ref a => exact .inl (ok_in_seq l rx (.ref a) k q)
  | _ =>
    obtain ⟨xs, h, _⟩ := q
    cases h⟩
theorem ok_nin : OK2 K (rNinH K) (rInD true) := ⟨fun {F H M x y d e Qd Q} l rx ry k q => by
  cases ry with
  | str b => cases rx with
    | str a => exact .inr ⟨a, b, rfl, rfl, k.go (.rfl' F) l (.bl _) q⟩
    | _ => exact q.elim
  | lst p r => exact .inl (ok_in_seq l rx (.lst p r) k q)
  | tup p r => exact .inl (ok_in_seq l rx (.tup p r) k q)
  | ref a => exact .inl (ok_in_seq l rx (.ref a) k q)
  | _ =>
    obtain ⟨xs, h, _⟩ := q
    cases h⟩
/-! ### a place in a list, a tuple, a text -/
def rIxD : R2d := fun x y M Q => match y with
  | .int i => match seqA M x with
    | some xs => optP (atI xs i) fun v => Q v M
    | none => match x with
      | .str z => z.length ≤ sizeLine ∧ optP (atI z.cps.toList i) fun c => Q (.str ⟨#[c]⟩) M
      | _ => False
  | _ => False
theorem at_rel {vs : List V} {ds : List D} (r : Rps K F vs ds) {i : Int} {d : D} (h : atI ds i = some d) : ∃ v, atI vs i = some v ∧ Rp K F v d := by
  unfold atI at h ⊢
  rw [r.len]
  cases e : ixN ds.length i with
  | none =>
    rw [e] at h
    cases h
  | some j =>
    rw [e] at h
    exact r.at' h
theorem ok_ix_seq {x : V} {d : D} {i : Int} {Qd : VD} {Q : VK} (l : Rl K F H M) (rx : Rp K F x d) (k : Kv K F Qd Q) (q : ∃ xs v, seqA M d = some xs ∧ atI xs i = some v ∧ Qd v M) : rIx K x (.int i) H Q := by
  obtain ⟨xs, w, h, e, q⟩ := q
  obtain ⟨a, vs, e1, p, r⟩ := seqA_ok l rx h
  obtain ⟨u, e2, r2⟩ := at_rel r e
  rcases p with p | p
  · exact .inl ⟨a, vs, i, u, e1, rfl, .inl (.inl p), e2, k.go (.rfl' F) l r2 q⟩
  · exact .inr (.inl ⟨a, vs, i, u, e1, rfl, p, e2, k.go (.rfl' F) l r2 q⟩)
theorem ix_out {x : D} {i : Int} {M : Md} {Q : VD} (h : rIxD x (.int i) M Q) : (∃ xs v, seqA M x = some xs ∧ atI xs i = some v ∧ Q v M) ∨ ∃ z c, x = .str z ∧ z.length ≤ sizeLine ∧ atI z.cps.toList i = some c ∧ Q (.str ⟨#[c]⟩) M := by
  simp only [rIxD] at h
  split at h
  · rename_i xs e
    obtain ⟨v, e2, q⟩ := optP_out h
    exact .inl ⟨xs, v, e, e2, q⟩
  · split at h
    · obtain ⟨h1, q⟩ := h
      obtain ⟨c, h2, q⟩ := optP_out q
      exact .inr ⟨_, c, rfl, h1, h2, q⟩
    · exact h.elim
theorem ok_ix : OK2 K (rIx K) rIxD := ⟨fun {F H M x y d e Qd Q} l rx ry k q => by
  cases ry with
  | int i =>
    rcases ix_out q with q | ⟨z, c, rfl, h1, h2, q⟩
    · exact ok_ix_seq l rx k q
    · cases rx with
      | str z => exact .inr (.inr ⟨z, i, c, rfl, rfl, h1, h2, k.go (.rfl' F) l (.str _) q⟩)
  | _ => exact q.elim⟩
/-! ### x[i] = v -/
theorem pe_cell {a : Addr} {xs : List D} (l : Rl K F H M) (h : M a = some (.lst xs)) : ∃ vs, F a = none ∧ H a = some (.lst vs) ∧ Rps K F vs xs := by
  obtain ⟨n, vs, p, q⟩ := l.cell a _ h
  exact ⟨vs, n, p, q⟩
def setD (o i v : D) (M : Md) (Q : Md → Prop) : Prop := match o, i with
  | .ref a, .int j => match M a with
    | some (.lst xs) => optP (ixN xs.length j) fun n => Q (put M a (.lst (xs.set n v)))
    | _ => False
  | _, _ => False
theorem setD_out {o i v : D} {M : Md} {Q : Md → Prop} (h : setD o i v M Q) : ∃ a j xs n, o = .ref a ∧ i = .int j ∧ M a = some (.lst xs) ∧ ixN xs.length j = some n ∧ Q (put M a (.lst (xs.set n v))) := by
  unfold setD at h
  split at h
  · split at h
    · obtain ⟨n, e, h⟩ := optP_out h
      exact ⟨_, _, _, n, rfl, rfl, by assumption, e, h⟩
    · exact h.elim
  · exact h.elim
def gS (to ti : TEd) : TGd := fun Xd v δ M Q => to Xd δ M fun o M1 => ti Xd δ M1 fun i M2 => setD o i v M2 fun M3 => Q δ M3
theorem gsub {o i : Expr} {pos : Pos} {to ti : TEd} (ho : PEd X W o to) (hi : PEd X W i ti)
    (ha : ∀ v, assign (.Subscript o i pos) X.env v = (do let p ← holding [v] (eval o X.env); let q ← holding [v, p] (eval i X.env); standAt pos; holding [v, p, q] (setItem p q v); release [v, p, q] []) := by intro; rfl) : PGd X W (.Subscript o i pos) (gS to ti) := pg_imp (pg_sub ho hi set_list ha) fun v σ H Q ⟨F, δ, M, d, Qd, Xd, l, s, rd, k, kx, q⟩ =>
  low_then l s kx q ⟨fun {d1 M1 v1 G1 H1} g1 l1 r1 q1 => low_then l1 (s.mono g1) (kx.mono g1) q1 ⟨fun {d2 M2 v2 G2 H2} g2 l2 r2 q2 => by
    obtain ⟨a, j, xs, n, ea, ej, h, hn, q3⟩ := setD_out q2
    subst ea ej
    cases r1
    cases r2
    obtain ⟨vs, hf, hh, r⟩ := pe_cell l2 h
    refine ⟨a, vs, j, n, rfl, rfl, hh, by rw [r.len]; exact hn, ?_⟩
    exact k.go (g1.then' g2) (l2.cellput (u := .lst (vs.set n v)) (c := .lst (xs.set n d)) hf ⟨_, upd_same, r.put (rd.mono (g1.then' g2)) n⟩) (s.mono (g1.then' g2)) q3⟩⟩
/-! ### methods of lists -/
def tMt0 (r : D → Md → VD → Prop) (t : TEd) : TEd := fun Xd δ M Q => t Xd δ M fun o M1 => r o M1 Q
def tMt1 (r : D → D → Md → VD → Prop) (t u : TEd) : TEd := fun Xd δ M Q => t Xd δ M fun o M1 => u Xd δ M1 fun d M2 => r o d M2 Q
/-- a list's method with one argument; the list is of the kind told by isL ahead of the argument -/
structure OKM (K : PySem.W.Frag) (T : String) (r : V → List V → Hp → VK → Prop) (rd : RMd) (pre : D → Md → Prop) : Prop where
  ty : ∀ {F H : Hp} {M : Md} {x : V} {d : D}, Rl K F H M → Rp K F x d → pre d M → tyV K T x H
  go : ∀ {F H : Hp} {M : Md} {x : V} {d : D} {vs : List V} {ds : List D} {Qd : VD} {Q : VK}, Rl K F H M → Rp K F x d → Rps K F vs ds → Kv K F Qd Q → rd d ds M Qd → r x vs H Q
def tMe (pre : D → Md → Prop) (rd : RMd) (t : TEd) (u : TAd) : TEd := fun Xd δ M Q => t Xd δ M fun o M1 => pre o M1 ∧ u Xd δ M1 fun ds M2 => rd o ds M2 Q
def tMe0 (pre : D → Md → Prop) (rd : RMd) (t : TEd) : TEd := fun Xd δ M Q => t Xd δ M fun o M1 => pre o M1 ∧ rd o [] M1 Q
section
variable {T : String} {id : String} {name : Str} {o e : Expr} {es : List Expr} {apos cpos : Pos} {to : TEd} {tes : TAd} {r : V → List V → Hp → VK → Prop} {rd : RMd} {pre : D → Md → Prop}
theorem pbm (pa : PlainAttrs T) (slot : Slot T name id) (hty : typeOf (.builtin id) = pure (.type "method_descriptor")) (hm : MtR X id r) (ok : OKM X.K T r rd pre) (ho : PEd X W o to) (ha : PAd X W (e :: es) tes)
    (hbase : attributeBase o name X.env (eval o X.env) = eval o X.env := by rfl)
    (hfew : ((backTo cpos (starEach (e :: es) X.env)).all (fun x => !x.1) && (backToKw cpos (keywordEach [] X.env)).all (fun x => x.1.isSome) && decide ((e :: es).length + ([] : List Keyword).length + (if ([] : List Keyword).isEmpty then 0 else 1) < 30)) = true := by rfl)
    (hline : (apos.endLine == cpos.line) = true := by rfl) (hs : starEach (e :: es) X.env = (false, eval e X.env) :: starEach es X.env := by rfl) (hplain : (backTo cpos (starEach es X.env)).any (·.1) = false := by rfl) :
    PEd X W (.Call (.Attribute o name apos) (e :: es) [] cpos) (tMe pre rd to tes) := pe_imp (pe_bm pa slot hty hm ho ha hbase hfew hline hs hplain) fun σ H Q ⟨F, δ, M, Qd, Xd, l, s, k, kx, q⟩ =>
  low_then l s kx q ⟨fun {d1 M1 v1 G1 H1} g1 l1 r1 q1 => ⟨ok.ty l1 r1 q1.1, lowA_then l1 (s.mono g1) (kx.mono g1) q1.2 ⟨fun {d2 M2 v2 G2 H2} g2 l2 r2 q2 => ok.go l2 (r1.mono g2) r2 (k.mono (g1.then' g2)) q2⟩⟩⟩
theorem pbm0 (pa : PlainAttrs T) (slot : Slot T name id) (hty : typeOf (.builtin id) = pure (.type "method_descriptor")) (hm : MtR X id r) (ok : OKM X.K T r rd pre) (ho : PEd X W o to)
    (hbase : attributeBase o name X.env (eval o X.env) = eval o X.env := by rfl) (hline : (apos.endLine == cpos.line) = true := by rfl) :
    PEd X W (.Call (.Attribute o name apos) [] [] cpos) (tMe0 pre rd to) := pe_imp (pe_bm0 pa slot hty hm ho hbase hline) fun σ H Q ⟨F, δ, M, Qd, Xd, l, s, k, kx, q⟩ =>
  low_then l s kx q ⟨fun {d1 M1 v1 G1 H1} g1 l1 r1 q1 => ⟨ok.ty l1 r1 q1.1, ok.go l1 r1 .nil (k.mono g1) q1.2⟩⟩
end
/-- d is a list: a cell, or one that never changes -/
def isLs (d : D) (M : Md) : Prop := (seqL M d).isSome = true
theorem ty_list {x : V} (l : Rl K F H M) (r : Rp K F x d) (h : isLs d M) : tyV K "list" x H := by
  obtain ⟨xs, e⟩ := Option.isSome_iff_exists.mp h
  obtain ⟨a, vs, rfl, p, _⟩ := seqL_ok l r e
  exact .inl ⟨rfl, vs, .inl (.inl p)⟩
def mAppD : RMd := fun o ds M Q => match o, ds with
  | .ref a, [d] => match M a with
    | some (.lst xs) => xs.length < sizeLine ∧ Q .non (put M a (.lst (xs ++ [d])))
    | _ => False
  | _, _ => False
theorem ok_app : OKM K "list" rAppend mAppD isLs := ⟨ty_list, fun {F H M x d vs ds Qd Q} l rx rs k q => by
  cases rx with
  | ref a => cases rs with
    | nil => exact q.elim
    | cons r1 r2 => cases r2 with
      | cons _ _ => exact q.elim
      | nil =>
        have q : (match M a with
            | some (MC.lst xs) => xs.length < sizeLine ∧ Qd .non (put M a (.lst (xs ++ [_])))
            | _ => False) := q
        split at q
        case h_2 => exact q.elim
        rename_i xs h
        obtain ⟨hz, q⟩ := q
        obtain ⟨ws, hf, hh, r⟩ := pe_cell l h
        exact ⟨a, ws, _, rfl, rfl, hh, by rw [r.len]; exact hz, k.go (.rfl' F) (l.cellput (u := .lst (ws ++ [_])) (c := .lst (xs ++ [_])) hf ⟨_, upd_same, r.app (.one r1)⟩) .non q⟩
  | _ => exact q.elim⟩
def mPopD : RMd := fun o ds M Q => match o, ds with
  | .ref a, [] => match M a with
    | some (.lst xs) => optP xs[xs.length - 1]? fun d => Q d (put M a (.lst xs.dropLast))
    | _ => False
  | _, _ => False
theorem ok_pop : OKM K "list" rPop mPopD isLs := ⟨ty_list, fun {F H M x d vs ds Qd Q} l rx rs k q => by
  cases rx with
  | ref a => cases rs with
    | cons _ _ => exact q.elim
    | nil =>
      have q : (match M a with
          | some (MC.lst xs) => optP xs[xs.length - 1]? fun d => Qd d (put M a (.lst xs.dropLast))
          | _ => False) := q
      split at q
      case h_2 => exact q.elim
      rename_i xs h
      obtain ⟨y, hy, q⟩ := optP_out q
      obtain ⟨ws, hf, hh, r⟩ := pe_cell l h
      obtain ⟨u, hu, ru⟩ := r.at' hy
      exact ⟨a, ws, u, rfl, rfl, hh, by rw [r.len]; exact hu, k.go (.rfl' F) (l.cellput (u := .lst ws.dropLast) (c := .lst xs.dropLast) hf ⟨_, upd_same, r.init⟩) ru q⟩
  | _ => exact q.elim⟩
end
end DL
/-! The data layer: slices, truth, chains, what loops walk, comprehensions. -/
namespace DL
open PySem PySem.Spec PyProof.Rows L2
variable [B : Obs]
section
variable {X : Cx} {W : WX} {K : PySem.W.Frag} {F H : Hp} {M : Md} {v : V} {d : D}
/-! ### slices -/
abbrev TOd := XD → SD → Md → (Option Int → Md → Prop) → Prop
structure Ko (K : PySem.W.Frag) (F : Hp) (Qd : Option Int → Md → Prop) (Q : Option Int → Hp → Prop) : Prop where
  go : ∀ {o : Option Int} {M : Md} {G H : Hp}, Le F G → Rl K G H M → Qd o M → Q o H
def lowO (K : PySem.W.Frag) (W : WX) (t : TOd) : TO := fun σ H Q => ∃ F δ M Qd Xd, Rl K F H M ∧ Sls K F σ δ ∧ Ko K F Qd Q ∧ Kx K F Xd (WE W σ) ∧ t Xd δ M Qd
abbrev POd (X : Cx) (W : WX) (e : Option Expr) (t : TOd) : Prop := PO X e (lowO X.K W t)
theorem po_imp {e : Option Expr} {t u : TO} (h : PO X e u) (k : ∀ σ H Q, t σ H Q → u σ H Q) : PO X e t := ⟨fun pins s σ H Q I q => h.run pins s σ H Q I (k σ H Q q)⟩
def tP0 : TOd := fun _ _ M Q => Q none M
def tP1 (t : TEd) : TOd := fun Xd δ M Q => t Xd δ M fun d M1 => match d with
  | .int i => Q (some i) M1
  | _ => False
theorem po0 : POd X W none tP0 := po_imp po_none fun σ H Q ⟨F, δ, M, Qd, Xd, l, s, k, kx, q⟩ => k.go (.rfl' F) l q
theorem po1 {e : Expr} {te : TEd} (h : PEd X W e te) : POd X W (some e) (tP1 te) := po_imp (po_some h) fun σ H Q ⟨F, δ, M, Qd, Xd, l, s, k, kx, q⟩ => low_then l s kx q ⟨fun {d1 M1 v1 G1 H1} g1 l1 r1 q1 => by
  cases r1 with
  | int i => exact ⟨i, rfl, k.go g1 l1 q1⟩
  | _ => exact q1.elim⟩
def cutD {α : Type} (xs : List α) (lo hi : Option Int) : List α := (xs.drop (HT.sIx xs.length 0 lo)).take (HT.sIx xs.length xs.length hi - HT.sIx xs.length 0 lo)
theorem cut_rel {vs : List V} {ds : List D} (r : Rps K F vs ds) (lo hi : Option Int) : Rps K F (cutV vs lo hi) (cutD ds lo hi) := by
  unfold cutV cutD
  rw [r.len]
  exact (r.drop' _).take' _
theorem cut_int (ns : List Int) (lo hi : Option Int) : cutV (ns.map V.int) lo hi = (cutD ns lo hi).map V.int := by
  unfold cutV cutD
  rw [List.length_map, List.map_take, List.map_drop]
def rSlD : D → Option Int → Option Int → Md → VD → Prop := fun x lo hi M Q => match x with
  | .str z => z.length ≤ sizeLine ∧ Q (.str (cutS z lo hi)) M
  | .tup xs => Q (.tup (cutD xs lo hi)) M
  | .scr ns => Q (.lst ((cutD ns lo hi).map .int)) M
  | x => ∃ xs, seqL M x = some xs ∧ Q (.lst (cutD xs lo hi)) M
abbrev rSlH (K : PySem.W.Frag) : V → Option Int → Option Int → Hp → VK → Prop := fun x lo hi H Q => rSlL K x lo hi H Q ∨ (fun x lo hi H Q => rSlA K x lo hi H Q ∨ rSlS x lo hi H Q) x lo hi H Q
theorem sl_all : SlR X (rSlH X.K) := sl_list.or (sl_tupA.or sl_str)
theorem ok_sl {x : V} {lo hi : Option Int} {Qd : VD} {Q : VK} (l : Rl K F H M) (rx : Rp K F x d) (k : Kv K F Qd Q) (q : rSlD d lo hi M Qd) : rSlH K x lo hi H Q := by
  have cell : ∀ {xs : List D}, seqL M d = some xs → Qd (.lst (cutD xs lo hi)) M → rSlH K x lo hi H Q := fun {xs} h q => by
    obtain ⟨a, vs, e, p, r⟩ := seqL_ok l rx h
    refine .inl ⟨a, vs, e, .inl (.inl p), fun p hp => ?_⟩
    obtain ⟨l2, g2⟩ := l.keep hp (.lst (cutV vs lo hi))
    exact k.go g2 l2 (.lst upd_same ((cut_rel r lo hi).mono g2)) q
  cases rx with
  | str z => exact .inr (.inr ⟨z, rfl, q.1, k.go (.rfl' F) l (.str _) q.2⟩)
  | tup p r =>
    rename_i a vs ds
    have q : Qd (.tup (cutD ds lo hi)) M := q
    refine .inr (.inl ⟨a, vs, rfl, l.sub.sqt p, fun z => ?_, fun _ p hp => ?_⟩)
    · have e : cutD ds lo hi = ds := by
        unfold cutD
        rw [r.len] at z
        rw [z.1, z.2, List.drop_zero, Nat.sub_zero, List.take_length]
      rw [e] at q
      exact k.go (.rfl' F) l (.tup p r) q
    · obtain ⟨l2, g2⟩ := l.keep hp (.tup (cutV vs lo hi))
      exact k.go g2 l2 (.tup (.inl (.inl upd_same)) ((cut_rel r lo hi).mono g2)) q
  | scr p =>
    rename_i a ns
    refine .inl ⟨a, ns.map V.int, rfl, l.sub.sql p, fun p hp => ?_⟩
    obtain ⟨l2, g2⟩ := l.keep hp (.lst (cutV (ns.map V.int) lo hi))
    exact k.go g2 l2 (.lst upd_same (by rw [cut_int]; exact Rps.ints _)) q
  | lst p r =>
    obtain ⟨xs, h, q⟩ := q
    exact cell h q
  | ref a =>
    obtain ⟨xs, h, q⟩ := q
    exact cell h q
  | _ =>
    obtain ⟨xs, h, q⟩ := q
    cases h
def tSlc (te : TEd) (tl th : TOd) : TEd := fun Xd δ M Q => te Xd δ M fun x M1 => tl Xd δ M1 fun lo M2 => th Xd δ M2 fun hi M3 => rSlD x lo hi M3 Q
theorem psl {e : Expr} {lo hi : Option Expr} {te : TEd} {tl th : TOd} {pos p2 : Pos} (he : PEd X W e te) (hl : POd X W lo tl) (hh : POd X W hi th) : PEd X W (.Subscript e (.Slice lo hi none p2) pos) (tSlc te tl th) := pe_imp (pe_slice sl_all he hl hh) fun σ H Q ⟨F, δ, M, Qd, Xd, l, s, k, kx, q⟩ =>
  low_then l s kx q ⟨fun {d1 M1 v1 G1 H1} g1 l1 r1 q1 => ⟨G1, δ, M1, _, Xd, l1, s.mono g1, ⟨fun {o2 M2 G2 H2} g2 l2 q2 => ⟨G2, δ, M2, _, Xd, l2, s.mono (g1.then' g2), ⟨fun {o3 M3 G3 H3} g3 l3 q3 => ok_sl l3 (r1.mono (g2.then' g3)) (k.mono ((g1.then' g2).then' g3)) q3⟩, kx.mono (g1.then' g2), q2⟩⟩, kx.mono g1, q1⟩⟩
/-! ### truth -/
def truD (d : D) (M : Md) (Q : Bool → Md → Prop) : Prop := match d with
  | .non => Q false M
  | .bl b => Q b M
  | .int i => Q (i != 0) M
  | .str y => y.length ≤ sizeLine ∧ Q ((y.length : Int) != 0) M
  | d => optP (seqA M d) fun xs => Q (!xs.isEmpty) M
def tTr (t : TEd) : TTd := fun Xd δ M Q => t Xd δ M fun d M1 => truD d M1 Q
theorem empty_rel {vs : List V} {ds : List D} (r : Rps K F vs ds) : ds.isEmpty = vs.isEmpty := by
  cases r <;> rfl
theorem truV_seq {x : V} (l : Rl K F H M) (rx : Rp K F x d) {xs : List D} (h : seqA M d = some xs) : TruV K x H (!xs.isEmpty) := by
  obtain ⟨a, vs, rfl, p, r⟩ := seqA_ok l rx h
  rw [empty_rel r]
  rcases p with p | p
  · exact .inl ⟨vs, .inl (.inl p), rfl⟩
  · exact .inr (.inl ⟨vs, p, rfl⟩)
theorem tru_out {d : D} {M : Md} {Q : Bool → Md → Prop} (h : truD d M Q) : (d = .non ∧ Q false M) ∨ (∃ b, d = .bl b ∧ Q b M) ∨ (∃ i, d = .int i ∧ Q (i != 0) M) ∨ (∃ y, d = .str y ∧ y.length ≤ sizeLine ∧ Q ((y.length : Int) != 0) M) ∨ ∃ xs, seqA M d = some xs ∧ Q (!xs.isEmpty) M := by
  cases d with
  | non => exact .inl ⟨rfl, h⟩
  | bl b => exact .inr (.inl ⟨b, rfl, h⟩)
  | int i => exact .inr (.inr (.inl ⟨i, rfl, h⟩))
  | str y => exact .inr (.inr (.inr (.inl ⟨y, rfl, h⟩)))
  | _ =>
    simp only [truD] at h
    exact .inr (.inr (.inr (.inr (optP_out h))))
theorem pttru {a : Expr} {ta : TEd} (h : PEd X W a ta) (he : ∀ whole, isTrue a X.env whole = (do let v ← whole; standAt a.pos; holding [v] (truthy v)) := by intro; rfl) : PTd X W a (tTr ta) := pt_imp (pt_truth h he) fun σ H Q ⟨F, δ, M, Qd, Xd, l, s, k, kx, q⟩ =>
  low_then l s kx q ⟨fun {d1 M1 v1 G1 H1} g1 l1 r1 q1 => by
    rcases tru_out q1 with ⟨rfl, q⟩ | ⟨b, rfl, q⟩ | ⟨i, rfl, q⟩ | ⟨y, rfl, h1, q⟩ | ⟨xs, h, q⟩
    · cases r1
      exact ⟨false, rfl, k.go g1 l1 q⟩
    · cases r1
      exact ⟨b, rfl, k.go g1 l1 q⟩
    · cases r1
      exact ⟨_, rfl, k.go g1 l1 q⟩
    · cases r1
      exact ⟨_, ⟨h1, rfl⟩, k.go g1 l1 q⟩
    · exact ⟨_, truV_seq l1 r1 h, k.go g1 l1 q⟩⟩
/-- a value that is True or False, as a test -/
theorem ptv {a : Expr} {ta : TEd} (h : PEd X W a ta) (he : ∀ whole, isTrue a X.env whole = (do let v ← whole; standAt a.pos; holding [v] (truthy v)) := by intro; rfl) : PTd X W a (tTr ta) := pttru h he

/-! ### what is walked -/
/-- a value is walked -/
structure ItR (X : Cx) (tg : Expr) (r : V → Hp → (It → Hp → Prop) → Prop) : Prop where
  go : ∀ {pins : List (Addr × Obj)} {s : Shared} {σ : L2.St} {H : Hp} {R : It → Hp → Prop} {x : V} {v : Value}, L2.Inv X pins σ H s → RelV x v → r x H R → wpAny (model X.prog X.w) X.A (pyIter v) (PIE X pins σ tg R) X.xe s
theorem pi_of {tg e : Expr} {te : TE} {r : V → Hp → (It → Hp → Prop) → Prop} (he : PE X e te) (hr : ItR X tg r) : PI X tg e (fun σ H R => te σ H fun x H1 => r x H1 R) :=
  ⟨fun pins s σ H R I h => thn (he.run pins s σ H _ I h) fun v s1 ⟨x, H1, I1, r1, q1⟩ => hr.go I1 r1 q1⟩
theorem ItR.or' {tg : Expr} {r r' : V → Hp → (It → Hp → Prop) → Prop} (h : ItR X tg r) (h' : ItR X tg r') : ItR X tg (fun x H R => r x H R ∨ r' x H R) := ⟨fun I rv q => q.elim (h.go I rv) (h'.go I rv)⟩
theorem new_fp {pins : List (Addr × Obj)} {s : Shared} {σ : L2.St} {H : Hp} (I : L2.Inv X pins σ H s) : ∀ b ∈ [s.heap.objs.size], FpOk X pins H b := fun b hb => by
  have z := List.mem_singleton.mp hb
  subst z
  exact I.fpOk (Nat.le_refl _) (I.hok.fresh (Nat.le_refl _))
theorem it_list {tg : Expr} : ItR X tg (fun x H R => ∃ a xs, x = .ref a ∧ SqL X.K H a xs ∧ R (Itl X.K a) H) := ⟨fun {pins s σ H R x v} I rv ⟨a, xs, ex, hq, q⟩ => by
  subst ex
  cases rv
  obtain ⟨its, r, p, hz⟩ := I.list hq
  exact wpAny_pyIter_list p.isList ⟨_, [s.heap.objs.size], _, _, H, rfl, I.kept (t' := s.toks) fun b o e => Heap.get?_push_of_some _ e, turn_list a _, ⟨_, Heap.get?_push_size _ rfl, rfl, rfl⟩, new_fp I, q⟩⟩
theorem it_tup {tg : Expr} : ItR X tg (fun x H R => ∃ a xs, x = .ref a ∧ SqT X.K H a xs ∧ R (Itt X.K a) H) := ⟨fun {pins s σ H R x v} I rv ⟨a, xs, ex, hq, q⟩ => by
  subst ex
  cases rv
  obtain ⟨its, r, p, hz⟩ := I.tuple hq
  exact wpAny_pyIter_tuple (show s.heap.IsTuple a its.toArray from p) ⟨_, [s.heap.objs.size], _, _, H, rfl, I.kept (t' := s.toks) fun b o e => Heap.get?_push_of_some _ e, turn_tuple a _, ⟨_, Heap.get?_push_size _ rfl, rfl, rfl⟩, new_fp I, q⟩⟩
theorem it_rng {tg : Expr} : ItR X tg (fun x H R => ∃ a lo hi, x = .ref a ∧ H a = some (.rng lo hi) ∧ (-(2 ^ 62) ≤ lo ∧ lo < 2 ^ 62 ∧ -(2 ^ 62) ≤ hi ∧ hi < 2 ^ 62) ∧ R (Itr lo (hi - lo).toNat) H) := ⟨fun {pins s σ H R x v} I rv ⟨a, lo, hi, ex, hq, hb, q⟩ => by
  subst ex
  cases rv
  obtain ⟨t, u, w, he⟩ := I.hok a _ hq
  refine wpAny_pyIter_range (a := lo) (b := hi) (c := 1) (t := t) (u := u) (v := w) he (small_one hb.1 hb.2.1 hb.2.2.1 hb.2.2.2) ⟨_, [s.heap.objs.size], _, _, H, rfl, I.kept (t' := s.toks) fun b o e => Heap.get?_push_of_some _ e, turn_range _ lo (hi - lo).toNat, ?_, new_fp I, q⟩
  have e1 : lo + ((0 : Nat) : Int) * 1 = lo := by simp
  have e2 : (((hi - lo).toNat : Nat) : Int) - ((0 : Nat) : Int) = Builtin.Range.rangeSize lo hi 1 := by
    rw [rangeSize_one]
    split <;> omega
  show IsRangeIter _ _ (lo + ((0 : Nat) : Int) * 1) ((((hi - lo).toNat : Nat) : Int) - ((0 : Nat) : Int)) 1
  rw [e1, e2]
  exact Heap.get?_push_size _ rfl⟩
def rIt (K : PySem.W.Frag) : V → Hp → (It → Hp → Prop) → Prop := fun x H R => (∃ a xs, x = .ref a ∧ SqL K H a xs ∧ R (Itl K a) H) ∨ (fun x H R => (∃ a xs, x = .ref a ∧ SqT K H a xs ∧ R (Itt K a) H) ∨ (∃ a lo hi, x = .ref a ∧ H a = some (.rng lo hi) ∧ (-(2 ^ 62) ≤ lo ∧ lo < 2 ^ 62 ∧ -(2 ^ 62) ≤ hi ∧ hi < 2 ^ 62) ∧ R (Itr lo (hi - lo).toNat) H)) x H R
theorem it_all {tg : Expr} : ItR X tg (rIt X.K) := it_list.or' (it_tup.or' it_rng)
/-- what a datum gives, one behind another -/
def itemsD (d : D) (M : Md) (R : Src → Md → Prop) : Prop := match d with
  | .rng lo hi => (-(2 ^ 62) ≤ lo ∧ lo < 2 ^ 62 ∧ -(2 ^ 62) ≤ hi ∧ hi < 2 ^ 62) ∧ R ⟨(List.range (hi - lo).toNat).map fun i => .int (lo + (i : Nat)), fun _ => True⟩ M
  | d => optP (seqS M d) fun bx => R ⟨bx.2, fun N => seqS N d = some bx⟩ M
theorem feed_list {a : Addr} {xs : List D} {ok : Md → Prop} (hv : ∀ {G H : Hp} {M : Md}, Le F G → Rl K G H M → ok M → ∃ vs, H a = some (.lst vs) ∧ Rps K G vs xs) : Feeds K F ⟨xs, ok⟩ (Itl K a) where
  go := fun {i G H M} g l h hi => by
    obtain ⟨vs, p, r⟩ := hv g l h
    obtain ⟨v, e, _⟩ := r.at' (List.getElem?_eq_getElem hi)
    exact ⟨vs, v, .inl (.inl p), e⟩
  stop := fun {i G H M} g l h hi => by
    obtain ⟨vs, p, r⟩ := hv g l h
    exact ⟨vs, .inl (.inl p), by rw [r.len]; exact hi⟩
  yld := fun {i G H H' M x d'} g l h e hy => by
    obtain ⟨rfl, hx⟩ := hy
    obtain ⟨vs, p, r⟩ := hv g l h
    obtain ⟨v, e1, r1⟩ := r.at' e
    have e2 := hx vs (.inl (.inl p))
    rw [e1] at e2
    cases e2
    exact ⟨G, .rfl' G, l, r1⟩
theorem feed_tup {a : Addr} {xs : List D} {ok : Md → Prop} (hv : ∀ {G H : Hp} {M : Md}, Le F G → Rl K G H M → ok M → ∃ vs, SqT K H a vs ∧ Rps K G vs xs) : Feeds K F ⟨xs, ok⟩ (Itt K a) where
  go := fun {i G H M} g l h hi => by
    obtain ⟨vs, p, r⟩ := hv g l h
    obtain ⟨v, e, _⟩ := r.at' (List.getElem?_eq_getElem hi)
    exact ⟨vs, v, p, e⟩
  stop := fun {i G H M} g l h hi => by
    obtain ⟨vs, p, r⟩ := hv g l h
    exact ⟨vs, p, by rw [r.len]; exact hi⟩
  yld := fun {i G H H' M x d'} g l h e hy => by
    obtain ⟨rfl, hx⟩ := hy
    obtain ⟨vs, p, r⟩ := hv g l h
    obtain ⟨v, e1, r1⟩ := r.at' e
    have e2 := hx vs p
    rw [e1] at e2
    cases e2
    exact ⟨G, .rfl' G, l, r1⟩
theorem feed_rng {lo : Int} {n : Nat} {ok : Md → Prop} : Feeds K F ⟨(List.range n).map fun i => .int (lo + (i : Nat)), ok⟩ (Itr lo n) where
  go := fun {i G H M} g l h hi => by
    simp only [List.length_map, List.length_range] at hi
    exact hi
  stop := fun {i G H M} g l h hi => by
    simp only [List.length_map, List.length_range] at hi
    exact hi
  yld := fun {i G H H' M x d'} g l h e hy => by
    obtain ⟨rfl, hx⟩ := hy
    simp only [List.getElem?_map, List.getElem?_range'] at e
    cases q : (List.range n)[i]? with
    | none =>
      rw [q] at e
      cases e
    | some j =>
      rw [q] at e
      cases e
      have z : j = i := by
        have hi := (List.getElem?_eq_some_iff.mp q)
        obtain ⟨h1, h2⟩ := hi
        rw [List.getElem_range] at h2
        exact h2.symm
      subst z
      subst hx
      exact ⟨G, .rfl' G, l, .int _⟩
theorem items_out {d : D} {M : Md} {R : Src → Md → Prop} (h : itemsD d M R) : (∃ lo hi, d = .rng lo hi ∧ (-(2 ^ 62) ≤ lo ∧ lo < 2 ^ 62 ∧ -(2 ^ 62) ≤ hi ∧ hi < 2 ^ 62) ∧ R ⟨(List.range (hi - lo).toNat).map fun i => .int (lo + (i : Nat)), fun _ => True⟩ M) ∨
    ∃ b xs, seqS M d = some (b, xs) ∧ R ⟨xs, fun N => seqS N d = some (b, xs)⟩ M := by
  cases d with
  | rng lo hi => exact .inl ⟨lo, hi, rfl, h⟩
  | _ =>
    simp only [itemsD] at h
    obtain ⟨⟨b, xs⟩, h1, h2⟩ := optP_out h
    exact .inr ⟨b, xs, h1, h2⟩
/-- for .. in a value -/
def tIS (t : TEd) : TId := fun Xd δ M R => t Xd δ M fun d M1 => itemsD d M1 R
theorem low_IS {te : TEd} {σ : L2.St} {R : It → Hp → Prop} (h : lowI K W (tIS te) σ H R) : low K W te σ H fun x H1 => rIt K x H1 R := by
  obtain ⟨F, δ, M, Rd, Xd, l, s, kx, k, q⟩ := h
  refine low_then l s kx q ⟨fun {d1 M1 v1 G1 H1} g1 l1 r1 q1 => ?_⟩
  rcases items_out q1 with ⟨lo, hi, rfl, hb, q⟩ | ⟨b, xs, h, q⟩
  · cases r1 with
    | rng p => exact .inr (.inr ⟨_, lo, hi, rfl, l1.sub.of p, hb, k g1 l1 feed_rng q⟩)
  · cases d1 with
    | tup ys =>
      cases h
      cases r1 with
      | tup p r => exact .inr (.inl ⟨_, _, rfl, l1.sub.sqt p, k g1 l1 (feed_tup fun {G H M} g l _ => ⟨_, l.sub.sqt (g.sqt p), r.mono g⟩) q⟩)
    | lst ys =>
      cases h
      cases r1 with
      | lst p r => exact .inl ⟨_, _, rfl, .inl (.inl (l1.sub.of p)), k g1 l1 (feed_list fun {G H M} g l _ => ⟨_, l.sub.of (g.of p), r.mono g⟩) q⟩
    | ref a =>
      cases r1
      cases b with
      | false =>
        obtain ⟨_, vs, p, r⟩ := l1.cell a _ (seqS_out h)
        refine .inl ⟨a, vs, rfl, .inl (.inl p), k g1 l1 (feed_list fun {G H M} g l h => ?_) q⟩
        obtain ⟨_, ws, p2, r2⟩ := l.cell a _ (seqS_out h)
        exact ⟨ws, p2, r2⟩
      | true =>
        obtain ⟨vs, p, r⟩ := tux_sqt l1 (seqS_out h)
        refine .inr (.inl ⟨a, vs, rfl, p, k g1 l1 (feed_tup fun {G H M} g l h => ?_) q⟩)
        obtain ⟨ws, p2, r2⟩ := tux_sqt l (seqS_out h)
        exact ⟨ws, p2, r2⟩
    | _ => cases h
theorem pis {tg e : Expr} {te : TEd} (h : PEd X W e te) : PId X W tg e (tIS te) := pi_imp (pi_of h it_all) fun _ _ _ q => low_IS q
/-- range(..), just made -/
def tIR1 (t : TAd) : TId := fun Xd δ M R => t Xd δ M fun ds M1 => match ds with
  | [.int j] => (-(2 ^ 62) ≤ j ∧ j < 2 ^ 62) ∧ R ⟨(List.range j.toNat).map fun i => .int ((i : Nat) : Int), fun _ => True⟩ M1
  | _ => False
def tIR2 (t : TAd) : TId := fun Xd δ M R => t Xd δ M fun ds M1 => match ds with
  | [.int i, .int j] => (-(2 ^ 62) ≤ i ∧ i < 2 ^ 62 ∧ -(2 ^ 62) ≤ j ∧ j < 2 ^ 62) ∧ R ⟨(List.range (j - i).toNat).map fun n => .int (i + (n : Nat)), fun _ => True⟩ M1
  | _ => False
theorem pir1 {tg a : Expr} {ta : TAd} {p pos : Pos} (hg : Gl X "range") (hm : X.mg "range" = none) (ha : PAd X W [a] ta) (hs : starEach [a] X.env = [(false, eval a X.env)] := by rfl) : PId X W tg (.Call (.Name "range" p) [a] [] pos) (tIR1 ta) := pi_imp (pi_range1 hg hm ha hs) fun σ H R ⟨F, δ, M, Rd, Xd, l, s, kx, k, q⟩ =>
  lowA_then l s kx q ⟨fun {ds M1 vs G1 H1} g1 l1 r1 q1 => by
    match ds, r1, q1 with
    | [.int j], .cons r .nil, ⟨hb, q⟩ =>
      cases r
      refine ⟨j, rfl, hb.1, hb.2, k g1 l1 ?_ q⟩
      have f := feed_rng (K := X.K) (F := G1) (lo := 0) (n := j.toNat) (ok := fun _ => True)
      simp only [Int.zero_add] at f
      exact f⟩
theorem pir2 {tg a b : Expr} {ta : TAd} {p pos : Pos} (hg : Gl X "range") (hm : X.mg "range" = none) (ha : PAd X W [a, b] ta) (hs : starEach [a, b] X.env = [(false, eval a X.env), (false, eval b X.env)] := by rfl) (hs2 : starEach [b] X.env = [(false, eval b X.env)] := by rfl) :
    PId X W tg (.Call (.Name "range" p) [a, b] [] pos) (tIR2 ta) := pi_imp (pi_range2 hg hm ha hs hs2) fun σ H R ⟨F, δ, M, Rd, Xd, l, s, kx, k, q⟩ =>
  lowA_then l s kx q ⟨fun {ds M1 vs G1 H1} g1 l1 r1 q1 => by
    match ds, r1, q1 with
    | [.int i, .int j], .cons r (.cons r' .nil), ⟨hb, q⟩ =>
      cases r
      cases r'
      exact ⟨i, j, rfl, hb, k g1 l1 feed_rng q⟩⟩
/-! ### comprehensions -/
/-- where the items of a comprehension go: one name, or a tuple of names -/
inductive Tg where
  | one (i : Nat) | many (is : List Nat)
def setsD : List Nat → List D → SD → Option SD
  | [], [], δ => some δ
  | i :: is, d :: ds, δ => setsD is ds (δ.set i (some d))
  | _, _, _ => none
def Tg.put (t : Tg) (d : D) (δ : SD) : Option SD := match t with
  | .one i => some (δ.set i (some d))
  | .many is => match d with
    | .tup ds => setsD is ds δ
    | _ => none
def gNames : List Nat → TGs
  | [] => gNil
  | i :: is => gCons (gName i) (gNames is)
def Tg.g (K : PySem.W.Frag) : Tg → TG
  | .one i => gName i
  | .many is => gTup K is.length (gNames is)
def Tg.ix : Tg → List Nat
  | .one i => [i]
  | .many is => is
def wipeD (δ : SD) : List Nat → SD
  | [] => δ
  | v :: vs => (wipeD δ vs).set v none
theorem wipe_rel {σ : L2.St} {δ : SD} (s : Sls K F σ δ) : ∀ vs : List Nat, Sls K F (wipe σ vs) (wipeD δ vs)
  | [] => s
  | v :: vs => Sls.set' (x := none) (y := none) trivial v (wipe_rel s vs)
theorem wipe_put (σ : L2.St) (i : Nat) (x : Option V) : ∀ vs : List Nat, wipe (σ.set i x) vs = if i ∈ vs then wipe σ vs else (wipe σ vs).set i x
  | [] => by
    rw [if_neg (by simp)]
    rfl
  | v :: vs => by
    show (wipe (σ.set i x) vs).set v none = _
    rw [wipe_put σ i x vs]
    by_cases e : i = v
    · subst e
      rw [if_pos (List.mem_cons_self ..)]
      by_cases h : i ∈ vs
      · rw [if_pos h]
        rfl
      · rw [if_neg h, List.set_set]
        rfl
    · by_cases h : i ∈ vs
      · rw [if_pos h, if_pos (List.mem_cons_of_mem _ h)]
        rfl
      · rw [if_neg h, if_neg (by simp [e, h]), List.set_comm _ _ e]
        rfl
theorem wipe_same {σ : L2.St} {i : Nat} {x : Option V} {vs : List Nat} (h : i ∈ vs) : wipe (σ.set i x) vs = wipe σ vs := by rw [wipe_put, if_pos h]
theorem wipe_get (σ : L2.St) (i : Nat) : ∀ vs : List Nat, (wipe σ vs)[i]? = if i ∈ vs then σ[i]?.map (fun _ => none) else σ[i]?
  | [] => by
    rw [if_neg (by simp)]
    rfl
  | v :: vs => by
    show ((wipe σ vs).set v none)[i]? = _
    rw [List.getElem?_set]
    by_cases e : v = i
    · subst e
      rw [if_pos rfl, if_pos (List.mem_cons_self ..), wipe_length]
      by_cases h : v < σ.length
      · rw [if_pos h, List.getElem?_eq_getElem h]
        rfl
      · rw [if_neg h, List.getElem?_eq_none (by omega)]
        rfl
    · rw [if_neg e, wipe_get σ i vs]
      have z : i ∈ v :: vs ↔ i ∈ vs := by simp [Ne.symm e]
      by_cases h : i ∈ vs
      · rw [if_pos h, if_pos (z.mpr h)]
      · rw [if_neg h, if_neg (fun q => h (z.mp q))]
theorem wipe_idem (σ : L2.St) (vs : List Nat) : wipe (wipe σ vs) vs = wipe σ vs := by
  apply List.ext_getElem?
  intro i
  rw [wipe_get, wipe_get]
  split
  · cases σ[i]? <;> rfl
  · rfl
theorem names_run {vs : List Nat} : ∀ {is : List Nat} {ds : List D} {ws : List V} {σ : L2.St} {δ δ' : SD} {Q : L2.St → Hp → Prop}, (∀ i ∈ is, i ∈ vs) → Rps K F ws ds → Sls K F σ δ → setsD is ds δ = some δ' →
    (∀ σ', Sls K F σ' δ' → wipe σ' vs = wipe σ vs → Q σ' H) → gNames is ws σ H Q
  | [], [], _, σ, δ, δ', Q, _, .nil, s, e, k => by
    cases e
    exact ⟨rfl, k σ s rfl⟩
  | i :: is, d :: ds, w :: ws, σ, δ, δ', Q, hm, .cons r t, s, e, k => ⟨w, ws, rfl, names_run (is := is) (fun j hj => hm j (List.mem_cons_of_mem _ hj)) t (s.put' r i) e fun σ' s' z => k σ' s' (z.trans (wipe_same (hm i (List.mem_cons_self ..))))⟩
  | [], _ :: _, _, _, _, _, _, _, _, _, e, _ => by cases e
  | _ :: _, [], _, _, _, _, _, _, _, _, e, _ => by cases e
theorem Tg.run {t : Tg} {vs : List Nat} {v : V} {d : D} {σ : L2.St} {δ δ' : SD} {Q : L2.St → Hp → Prop} (l : Rl K F H M) (hm : ∀ i ∈ t.ix, i ∈ vs) (r : Rp K F v d) (s : Sls K F σ δ) (e : t.put d δ = some δ')
    (k : ∀ σ', Sls K F σ' δ' → wipe σ' vs = wipe σ vs → Q σ' H) : t.g K v σ H Q := by
  cases t with
  | one i =>
    cases e
    exact k _ (s.put' r i) (wipe_same (hm i (List.mem_cons_self ..)))
  | many is =>
    cases r with
    | tup p q =>
      refine ⟨_, _, rfl, l.sub.sqt p, ?_, names_run (is := is) hm q s e k⟩
      rw [q.len]
      clear k p q l s hm
      have len : ∀ (is : List Nat) (ds : List D) (δ δ' : SD), setsD is ds δ = some δ' → ds.length = is.length := by
        intro is
        induction is with
        | nil =>
          intro ds δ δ' e
          cases ds with
          | nil => rfl
          | cons _ _ => cases e
        | cons i is ih =>
          intro ds δ δ' e
          cases ds with
          | nil => cases e
          | cons d ds => exact congrArg Nat.succ (ih ds _ _ e)
      exact len is _ δ δ' e
    | _ => cases e
/-- the list at p grows -/
def lcGo (t : Tg) (tt : TTd) (te : TEd) (ok : Md → Prop) (δ : SD) (p : Addr) (Q : Md → Prop) : List D → Md → Prop
  | [], M => ok M ∧ (∃ acc, M p = some (.lst acc)) ∧ Q M
  | d :: ds, M => ok M ∧ ∃ δ', t.put d δ = some δ' ∧ tt X0 δ' M fun b M1 => if b = true then te X0 δ' M1 fun y M2 => ∃ acc, M2 p = some (.lst acc) ∧ acc.length < sizeLine ∧ lcGo t tt te ok δ p Q ds (put M2 p (.lst (acc ++ [y]))) else lcGo t tt te ok δ p Q ds M1
/-- a list that does not change from then on -/
def tLcF (t : Tg) (ti : TId) (tt : TTd) (te : TEd) (vs : List Nat) : TEd := fun Xd δ M Q => ti Xd δ M fun S M1 => ∀ p, M1 p = none → lcGo t tt te S.ok (wipeD δ vs) p (fun N => ∃ acc, N p = some (.lst acc) ∧ Q (.lst acc) (cut N p)) S.items (put M1 p (.lst []))
/-- a list that is a cell -/
def tLcM (t : Tg) (ti : TId) (tt : TTd) (te : TEd) (vs : List Nat) : TEd := fun Xd δ M Q => ti Xd δ M fun S M1 => ∀ p, M1 p = none → lcGo t tt te S.ok (wipeD δ vs) p (fun N => Q (.ref p) N) S.items (put M1 p (.lst []))
def W0 : WX := fun _ _ _ _ => False
theorem low_lc {t : Tg} {ti : TId} {tt : TTd} {te : TEd} {vs : List Nat} {σ : L2.St} {Q : VK} (hm : ∀ i ∈ t.ix, i ∈ vs) {Qe : Addr → VD → Md → Prop}
    (hQ : ∀ {F H : Hp} {M : Md} {p : Addr} {Qd : VD} {acc : List D}, Rl K F H M → M p = some (.lst acc) → Kv K F Qd Q → Qe p Qd M → Q (.ref p) H)
    (h : ∃ F δ M Qd Xd, Rl K F H M ∧ Sls K F σ δ ∧ Kv K F Qd Q ∧ Kx K F Xd (WE W σ) ∧ ti Xd δ M fun S M1 => ∀ p, M1 p = none → lcGo t tt te S.ok (wipeD δ vs) p (Qe p Qd) S.items (put M1 p (.lst []))) :
    tLc (lowI K W ti) (t.g K) (lowT K W0 tt) (low K W0 te) vs σ H Q := by
  obtain ⟨F, δ, M, Qd, Xd, l, s, k, kx, h⟩ := h
  refine ⟨F, δ, M, _, Xd, l, s, kx, fun {S J M1 G H1} g l1 fd h1 => fun p hp => ?_, h⟩
  obtain ⟨n1, n2⟩ := l1.free hp
  refine ⟨fun i m H => ∃ G1 M, Le G G1 ∧ Rl K G1 H M ∧ i + m = S.items.length ∧ lcGo t tt te S.ok (wipeD δ vs) p (Qe p Qd) (S.items.drop i) M,
    ⟨S.items.length, G, _, .rfl' G, l1.cellput (u := .lst []) (c := .lst []) n1 ⟨[], upd_same, .nil⟩, Nat.zero_add _, h1 p n2⟩, ?_⟩
  rintro i m H2 ⟨G1, M2, g1, l2, him, w⟩
  by_cases hi : i < S.items.length
  · right
    rw [List.drop_eq_getElem_cons hi] at w
    obtain ⟨w1, δ', ep, w2⟩ := w
    refine ⟨fd.go g1 l2 w1 hi, fun H' => ∃ G' M', Le G G' ∧ Rl K G' H' M' ∧ lcGo t tt te S.ok (wipeD δ vs) p (Qe p Qd) (S.items.drop (i + 1)) M', ?_, ?_⟩
    · rintro H' ⟨G', M', e1, e2, h⟩
      exact ⟨m - 1, by omega, G', M', e1, e2, by omega, h⟩
    · intro x H' hy
      obtain ⟨G3, g3, l3, r3⟩ := fd.yld g1 l2 w1 (List.getElem?_eq_getElem hi) hy
      have s3 : Sls K G3 (wipe σ vs) (wipeD δ vs) := wipe_rel (s.mono ((g.then' g1).then' g3)) vs
      refine Tg.run l3 hm r3 s3 ep fun σ2 s2 z => ⟨?_, lowT_then l3 s2 kx0 w2 ⟨fun {b M4 G4 H4} g4 l4 h4 => ?_⟩⟩
      · rw [z, wipe_idem]
      have gg := g1.then' (g3.then' g4)
      cases b with
      | false => exact ⟨G4, M4, gg.then' (.rfl' _) |> (fun e => g1.then' (g3.then' g4)), l4, h4⟩
      | true =>
        refine low_then l4 (s2.mono g4) kx0 h4 ⟨fun {y M5 v5 G5 H5} g5 l5 r5 ⟨acc, ha, hz, h5⟩ => ?_⟩
        obtain ⟨ws, hf, hh, rr⟩ := pe_cell l5 ha
        refine ⟨ws, hh, by rw [rr.len]; exact hz, G5, _, gg.then' g5, l5.cellput (u := .lst (ws ++ [v5])) (c := .lst (acc ++ [y])) hf ⟨_, upd_same, rr.app (.one r5)⟩, h5⟩
  · left
    rw [List.drop_eq_nil_of_le (by omega)] at w
    obtain ⟨w1, ⟨acc, ha⟩, w2⟩ := w
    exact ⟨fd.stop g1 l2 w1 (by omega), hQ l2 ha (k.mono (g.then' g1)) w2⟩
theorem low_lcF {t : Tg} {ti : TId} {tt : TTd} {te : TEd} {vs : List Nat} {σ : L2.St} {Q : VK} (hm : ∀ i ∈ t.ix, i ∈ vs) (h : low K W (tLcF t ti tt te vs) σ H Q) : tLc (lowI K W ti) (t.g K) (lowT K W0 tt) (low K W0 te) vs σ H Q :=
  low_lc hm (Qe := fun p Q N => ∃ acc, N p = some (.lst acc) ∧ Q (.lst acc) (cut N p)) (fun {F H M p Qd acc} l ha k ⟨acc', hb, q⟩ => by
    obtain ⟨vs, hf, hh, r⟩ := pe_cell l hb
    obtain ⟨l2, g2⟩ := l.froze hh hf
    exact k.go g2 l2 (.lst upd_same (r.mono g2)) q) h
theorem low_lcM {t : Tg} {ti : TId} {tt : TTd} {te : TEd} {vs : List Nat} {σ : L2.St} {Q : VK} (hm : ∀ i ∈ t.ix, i ∈ vs) (h : low K W (tLcM t ti tt te vs) σ H Q) : tLc (lowI K W ti) (t.g K) (lowT K W0 tt) (low K W0 te) vs σ H Q :=
  low_lc hm (Qe := fun p Q N => Q (.ref p) N) (fun {F H M p Qd acc} l ha k q => k.go (.rfl' F) l (.ref p) q) h
def tYs : TTd := fun _ _ M Q => Q true M
theorem pts0 {X : Cx} : PTs X [] (lowT X.K W0 tYs) := ⟨fun pins s σ H Q I h => by
  obtain ⟨F, δ, M, Qd, Xd, l, s1, k, kx, q⟩ := h
  exact pts_nil.run pins s σ H Q I (k.go (.rfl' F) l q)⟩
theorem pts1 {X : Cx} {c : Expr} {tt : TTd} (h : PTd X W0 c tt) : PTs X [c] (lowT X.K W0 tt) := pts_one h
theorem Cd.blk {n : Nat} (c : Cd X W n) {s : Shared} {H : Hp} {scope : Scope} {env : Env} {fp : List Addr} : Cd (X.blk s H scope env fp) W0 n := ⟨c.nd, c.calm, fun _ _ ⟨_, _, _, _, _, _, _, _, _, _, _, _, _, _, _, _, w⟩ => w.elim, PassesOwn.never, c.rm, c.gd⟩
section
variable {elt tg iter : Expr} {ifs : List Expr} {scope : Scope} {own : List (Str × Nat)} {pos : Pos} {t : Tg} {ti : TId} {tt : TTd} {te : TEd} {n : Nat}
/-- what stands within a comprehension -/
structure LcIn (X : Cx) (scope : Scope) (own : List (Str × Nat)) (t : Tg) (tg : Expr) (ifs : List Expr) (elt : Expr) (tt : TTd) (te : TEd) (n : Nat) : Prop where
  ok : BlkOk X.N X.env.scope scope own
  ix : ∀ i ∈ t.ix, i ∈ own.map (·.2)
  g : ∀ (s : Shared) (H : Hp) (C : Addr) (cl : List (Str × Addr)) (fp : List Addr), PG (X.blk s H scope (compEnvC scope cl C X.env) fp) tg (t.g X.K)
  t : ∀ (s : Shared) (H : Hp) (C : Addr) (cl : List (Str × Addr)) (fp : List Addr), Cd (X.blk s H scope (compEnvC scope cl C X.env) fp) W0 n → PTs (X.blk s H scope (compEnvC scope cl C X.env) fp) ifs (lowT X.K W0 tt)
  e : ∀ (s : Shared) (H : Hp) (C : Addr) (cl : List (Str × Addr)) (fp : List Addr), Cd (X.blk s H scope (compEnvC scope cl C X.env) fp) W0 n → PE (X.blk s H scope (compEnvC scope cl C X.env) fp) elt (low X.K W0 te)
theorem plcF (c : Cd X W n) (hi : PId X W tg iter ti) (b : LcIn X scope own t tg ifs elt tt te n) (hs : ∀ x, foldedSetIterable iter X.env x = pure x := by intro _; rfl) :
    PEd X W (.ListComp elt [⟨tg, iter, ifs, 0⟩] scope pos) (tLcF t ti tt te (own.map (·.2))) := pe_imp (pe_lc c.calm c.nd hi b.ok b.g (fun s H C cl fp => b.t s H C cl fp c.blk) (fun s H C cl fp => b.e s H C cl fp c.blk) hs) fun _ _ _ h => low_lcF b.ix h
theorem plcM (c : Cd X W n) (hi : PId X W tg iter ti) (b : LcIn X scope own t tg ifs elt tt te n) (hs : ∀ x, foldedSetIterable iter X.env x = pure x := by intro _; rfl) :
    PEd X W (.ListComp elt [⟨tg, iter, ifs, 0⟩] scope pos) (tLcM t ti tt te (own.map (·.2))) := pe_imp (pe_lc c.calm c.nd hi b.ok b.g (fun s H C cl fp => b.t s H C cl fp c.blk) (fun s H C cl fp => b.e s H C cl fp c.blk) hs) fun _ _ _ h => low_lcM b.ix h
/-- y = [..] -/
theorem ssetLc {i : Nat} {y : Str} {py spos : Pos} (c : Cd X W n) (hy : X.N[i]? = some y) (hyl : X.env.scope.names.lookup y = some .local)
    (hsw : swapsWith (.ListComp elt [⟨tg, iter, ifs, 0⟩] scope pos) (some (.Name y py)) spos.line X.env = pure true) (hi : PId X W tg iter ti) (b : LcIn X scope own t tg ifs elt tt te n) (hs : ∀ x, foldedSetIterable iter X.env x = pure x := by intro _; rfl) :
    PSd X W (.Assign [.Name y py] (.ListComp elt [⟨tg, iter, ifs, 0⟩] scope pos) spos) (tSe (tLcF t ti tt te (own.map (·.2))) i) := ps_imp (ps_setLc c.calm c.nd hy hyl hsw hi b.ok b.g (fun s H C cl fp => b.t s H C cl fp c.blk) (fun s H C cl fp => b.e s H C cl fp c.blk) hs) fun E σ H ⟨F, δ, M, Dd, l, s, lt, q⟩ =>
  low_lcF b.ix (low_then l s (lt.xx (.rfl' F) s) q ⟨fun {d1 M1 v1 G1 H1} g1 l1 r1 q1 => lt.nx.go g1 l1 ((s.mono g1).put' r1 i) q1⟩)
theorem ssetLcM {i : Nat} {y : Str} {py spos : Pos} (c : Cd X W n) (hy : X.N[i]? = some y) (hyl : X.env.scope.names.lookup y = some .local)
    (hsw : swapsWith (.ListComp elt [⟨tg, iter, ifs, 0⟩] scope pos) (some (.Name y py)) spos.line X.env = pure true) (hi : PId X W tg iter ti) (b : LcIn X scope own t tg ifs elt tt te n) (hs : ∀ x, foldedSetIterable iter X.env x = pure x := by intro _; rfl) :
    PSd X W (.Assign [.Name y py] (.ListComp elt [⟨tg, iter, ifs, 0⟩] scope pos) spos) (tSe (tLcM t ti tt te (own.map (·.2))) i) := ps_imp (ps_setLc c.calm c.nd hy hyl hsw hi b.ok b.g (fun s H C cl fp => b.t s H C cl fp c.blk) (fun s H C cl fp => b.e s H C cl fp c.blk) hs) fun E σ H ⟨F, δ, M, Dd, l, s, lt, q⟩ =>
  low_lcM b.ix (low_then l s (lt.xx (.rfl' F) s) q ⟨fun {d1 M1 v1 G1 H1} g1 l1 r1 q1 => lt.nx.go g1 l1 ((s.mono g1).put' r1 i) q1⟩)
end
/-! ### comprehensions without draws: what they give -/
def Sub (M N : Md) : Prop := ∀ a c, M a = some c → N a = some c
theorem Sub.put {M N : Md} {p : Addr} {c : MC} (h : Sub M N) (hp : M p = none) : Sub M (put N p c) := fun a e k => by
  have z : a ≠ p := by
    intro z
    subst z
    rw [hp] at k
    cases k
  rw [put_ne z]
  exact h a e k
/-- at each turn the test gives b d and the element f d, whatever else the store holds -/
theorem lc_run {t : Tg} {tt : TTd} {te : TEd} {ok : Md → Prop} {δ : SD} {p : Addr} {Q : Md → Prop} {b : D → Bool} {f : D → D} : ∀ {ds acc : List D} {N : Md}, N p = none → acc.length + ds.length ≤ sizeLine → (∀ c, ok (put N p c)) →
    (∀ d ∈ ds, ∀ c, ∃ δ', t.put d δ = some δ' ∧ ∀ Q : Bool → Md → Prop, Q (b d) (put N p c) → tt X0 δ' (put N p c) Q) →
    (∀ d ∈ ds, b d = true → ∀ c δ', t.put d δ = some δ' → ∀ Q : VD, Q (f d) (put N p c) → te X0 δ' (put N p c) Q) →
    Q (put N p (.lst (acc ++ (ds.filter b).map f))) → lcGo t tt te ok δ p Q ds (put N p (.lst acc))
  | [], acc, N, hp, hz, ho, ht, he, q => by
    rw [List.filter_nil, List.map_nil, List.append_nil] at q
    exact ⟨ho _, ⟨acc, put_same⟩, q⟩
  | d :: ds, acc, N, hp, hz, ho, ht, he, q => by
    obtain ⟨δ', e1, e2⟩ := ht d (List.mem_cons_self ..) (.lst acc)
    have hz' : acc.length + (ds.length + 1) ≤ sizeLine := hz
    refine ⟨ho _, δ', e1, e2 _ ?_⟩
    cases hb : b d with
    | false =>
      show lcGo t tt te ok δ p Q ds (put N p (.lst acc))
      refine lc_run hp (by omega) ho (fun x hx => ht x (List.mem_cons_of_mem _ hx)) (fun x hx => he x (List.mem_cons_of_mem _ hx)) ?_
      rw [List.filter_cons, if_neg (by rw [hb]; exact Bool.false_ne_true)] at q
      exact q
    | true =>
      refine he d (List.mem_cons_self ..) hb _ δ' e1 _ ⟨acc, put_same, by omega, ?_⟩
      rw [put_put]
      refine lc_run hp (by rw [List.length_append]; show acc.length + 1 + ds.length ≤ sizeLine; omega) ho (fun x hx => ht x (List.mem_cons_of_mem _ hx)) (fun x hx => he x (List.mem_cons_of_mem _ hx)) ?_
      rw [List.filter_cons, if_pos hb, List.map_cons] at q
      rw [List.append_assoc]
      exact q
end
end DL
/-! An own exception's __init__ that begins with super().__init__(..): over the heap. -/
namespace DX
open PySem PySem.Spec PyProof.Rows L2 NdefX
open PySem.W (Frag)
open PySem.W (ks_loadName_global kxs_getMethod kxs_callWith kxs_mw kxs_ValueError looks_opaque)
/-- what the written part tells of the class at C, of its __init__ at fI (F; closed over its class's cell), of the code -/
structure SupT (P : Program) (K : Frag) (C fI : Addr) (F : NF) (cc : Addr) : Prop where
  oex : OexC K C
  cl : F.cl = [(("__class__" : Str), cc)]
  fn : ∃ (oc doc pm ct : Value) (od : Option Addr) (osl : Array (Option Value)), K.lookup fI = some ⟨oc, od, .func (F.fd doc pm ct), osl⟩
  code : PySem.W.codeIn K (.ref F.c) F.qual = true
  file : ∃ (cl : Value) (cd : Option Addr) (vs : Array Value) (sl : Array (Option Value)) (z : Str) (t : Tok), K.lookup F.c = some ⟨cl, cd, .fields vs, sl⟩ ∧ vs[2]? = some (.str z t) ∧ ((P.main.file : Str) == z) = true
  cell : ∃ (cl : Value) (cd : Option Addr) (sl : Array (Option Value)), K.lookup cc = some ⟨cl, cd, .cell (some (.ref C)), sl⟩
  sup : PySem.W.nsIn K mainGlobals "super" = some none
  top : (P.main.scope.names.lookup ("super" : Str)).isSome = false
  mro : PySem.W.mroIn K C (.ref C) = some true
  opq : PySem.W.nsIn K cStatics "thirdparty.any" = some none
  vinit : PySem.W.ks_superIn K C C "__init__" = some (some (.builtin "ValueError.__init__"))
  sub : PySem.W.subIn K (.ref C) (.type "ValueError") = some true
  arg : ∃ (ar : Arg), (F.params.posonlyargs ++ F.params.args).head? = some ar ∧ ar.arg = "self"
section
variable {CX : CXT} {P : Program} {w : World} {K : Frag} {mg : Str → Option Value} {base : Heap} {N ps : List Str} {F : NF} {fI C cc : Addr} {k : Nat} {sp : Sp}
theorem one_cell {c : Addr} {y : Str} (q : List.lookup y [(("__class__" : Str), cc)] = some c) : y = "__class__" := by
  by_cases z : y = "__class__"
  · exact z
  · have zz : (y == ("__class__" : Str)) = false := by simpa using z
    unfold List.lookup at q
    rw [zz] at q
    cases q
theorem cells_of (T : SupT P K C fI F cc) {h : Heap} {H : Hp} (hk : K.In h) (hn : ∀ b o, K.lookup b = some o → H b = none) : CellsAt F.cl ["__class__"] [some (.ref C)] h H := by
  obtain ⟨cl, cd, sl, e⟩ := T.cell
  have hc : h.IsCell cc (some (.ref C)) := ⟨_, hk _ _ e, rfl⟩
  refine ⟨rfl, fun y c q => ?_, fun x y c q r => ?_, fun i y q => ?_⟩
  · rw [T.cl] at q
    by_cases z : y = "__class__"
    · subst z
      have q : some cc = some c := q
      cases q
      exact ⟨hn _ _ e, _, hc⟩
    · exact absurd (one_cell q) z
  · rw [T.cl] at q r
    exact (one_cell q).trans (one_cell r).symm
  · cases i with
    | zero =>
      cases q
      refine ⟨cc, by rw [T.cl]; rfl, fun v hv => ?_⟩
      cases hv
      exact ⟨.ref C, rfl, hc⟩
    | succ i => simp at q
set_option maxHeartbeats 4000000 in
theorem init_ok (T : SupT P K C fI F cc) {oc doc pm ct : Value} {od : Option Addr} {osl : Array (Option Value)} (lk : K.lookup fI = some ⟨oc, od, .func (F.fd doc pm ct), osl⟩) (S : NScope N (("self" : Str) :: ps) ["__class__"] F.scope)
    (hks : F.scope.names.lookup ("super" : Str) = some .globalImplicit) {e1 : Expr} {rest : List Stmt} {p0 p1 p2 p3 p4 : Pos} {ta : TA}
    (hbody : F.body = .Expr (.Call (.Attribute (.Call (.Name "super" p0) [] [] p1) "__init__" p2) [e1] [] p3) p4 :: rest)
    (len : ∀ vs H Q E, sp vs H Q E → vs.length = (("self" : Str) :: ps).length)
    (hgo : ∀ (A : Around) (outer : List Env) (s : Shared) (H : Hp) (vs : List V) (Q : VK) (E : XK), Room k (A.deeper (envF F fI s.heap.objs.size)) → sp vs H Q E →
      ∃ a ws t, vs = .ref a :: ws ∧ H a = some (exo a C none) ∧ PA (ncx CX P w K mg base N F fI A outer s H E) [e1] ta ∧ PSs (ncx CX P w K mg base N F fI A outer s H E) rest t ∧
        ta (startF N vs [some (.ref C)]) H fun us H1 => us.length ≤ 1000 ∧ H1 a = some (exo a C none) ∧ t { nx := fun _ H' => Q .non H', rt := Q } (startF N vs [some (.ref C)]) H1)
    (hstar : ∀ env, starEach [e1] env = [(false, eval e1 env)] := by intro; rfl)
    (hcall : ∀ env, ∃ pl, eval (.Call (.Attribute (.Call (.Name "super" p0) [] [] p1) "__init__" p2) [e1] [] p3) env = (do let o ← attributeBase (.Call (.Name "super" p0) [] [] p1) "__init__" env (eval (.Call (.Name "super" p0) [] [] p1) env); standAt p2.atName; let (f, first) ← holding [o] (getMethod o "__init__" pl); callWith p3 f first (backTo p3 (starEach [e1] env)) []) := by intro; exact ⟨_, rfl⟩) : FnOk P w K mg base CX (k + 1) fI (F.fd doc pm ct) (("self" : Str) :: ps) sp := by
  refine ⟨len, fun A outer s H args us vs Q E hr e0 hbind r hsp => ?_⟩
  have old : ∀ b o, base.get? b = some o → s.heap.get? b = some o := fun b o e => (e0.bs b o e).1
  have KX : K.In s.heap := e0.mod.kin.keeps old
  have lim : s.heap.NoLimit := e0.mod.nolimit.keeps old
  have hl := len _ _ _ _ hsp
  obtain ⟨a, wsv, t, ev, hE, pa, pss, hq⟩ := hgo A outer s H vs Q E (hr.deeper _) hsp
  refine ks_codeAny_call_defAt (binds := (("self" : Str) :: ps).zip us) hr.depth (KX _ _ lk) rfl lim (PySem.W.codeRec_of KX T.code) rfl hbind S.nocell (fun x hx => S.par x.1 (List.of_mem_zip hx).1) (fun h1 hns hk1 => ?_) S.co S.gen S.kind
  have noK : ∀ b o, K.lookup b = some o → H b = none := fun b o e => (e0.bs b o (e0.mod.kin b o e)).2
  have I : L2.Inv (ncx CX P w K mg base N F fI A outer s H E) [] (startF N vs [some (.ref C)]) H { s with heap := h1, toks := s.toks + ((("self" : Str) :: ps).zip us).length } :=
    inv_startN S hr.hd e0 hl r (cells_of T KX noK) hns hk1
  -- self stands first
  subst ev
  obtain ⟨u0, ur, rfl⟩ : ∃ u0 ur, us = u0 :: ur := by
    cases r with
    | cons _ _ => exact ⟨_, _, rfl⟩
  have ru : u0 = Value.ref a := by
    cases r with
    | cons r _ => exact r
  subst ru
  obtain ⟨t1, ho⟩ := exo_at I.hok hE
  obtain ⟨nm, q, Nn, bs, bm, sn, sub, ab, col, dd, k0, k1, k2, k3, k5, hC, hbm⟩ := T.oex.cls
  have K1 : K.In h1 := I.kIn
  have hD1 : h1.get? C = some (excClassObj nm q C Nn bs bm true sn sub ab col dd k0 k1 k2 k3 k5 "ValueError.__new__") := K1 _ _ hC
  have hcl : PySem.W.clsIn K C = some { name := nm, bases := bs, mro := .ref C :: bm, ns := Nn, qualname := q, hasDict := true, slotNames := sn, subclasses := sub, abstract := ab, collection := col, hasDel := false } := by
    unfold PySem.W.clsIn
    rw [hC]
    all_goals rfl
  obtain ⟨fcl, fcd, fvs, fsl, fz, ft, hcode, hvs, hfile⟩ := T.file
  obtain ⟨ccl, ccd, csl, hcell⟩ := T.cell
  obtain ⟨ar, harg, har⟩ := T.arg
  have hself : F.scope.names.lookup ("self" : Str) = some .local := S.par "self" (List.mem_cons_self ..)
  have hclass : F.scope.names.lookup ("__class__" : Str) = some .free := S.frk "__class__" (List.mem_cons_self ..)
  show PySem.wpAt _ _ _ (execs F.body _) _ _ _
  rw [hbody]
  obtain ⟨pl, hcall⟩ := hcall (envF F fI s.heap.objs.size)
  refine ks_wpAt_execs_cons (ks_wpAt_Expr_any (ks_wpAt_MethodCall (pl := pl) ?_ hcall) I.quiet)
  refine ks_wpAt_super_base (ar := ar) (env := envF F fI s.heap.objs.size) hks hclass (by decide) rfl (K1 _ _ lk) rfl harg rfl (K1 _ _ hcode) rfl hvs hfile T.top ?_
  obtain ⟨mb, hmb, hblt⟩ := e0.mod.blt
  refine ks_loadName_global S.kind hks (Calls.loadGlobal_builtin (mg := mg) (mb := mb) (e0.mod.glob.keeps I.bk) (PySem.W.mg_none_of e0.mod.kin e0.mod.glob T.sup) (hmb.keeps I.bk) (hblt _ (by decide)) ⟨?_, ?_⟩)
  · first
      | rfl
      | decide +kernel
  refine wpAny_loadName_free S.kind hclass (show F.cl.lookup ("__class__" : Str) = some cc by rw [T.cl]; rfl) ⟨_, K1 _ _ hcell, rfl⟩ ?_ (by first | rfl | decide)
  rw [har]
  refine wpAny_loadName_local S.kind hself hns (v := .ref a) ?_ ?_
  · have nd : ((("self" : Str) :: ps)).Nodup := by
      have q := (List.take_sublist ((("self" : Str) :: ps).length + ([("__class__" : Str)]).length) N).nodup S.nd
      rw [S.pre] at q
      exact (List.nodup_append.mp q).1
    exact zip_look nd (i := 0) rfl rfl
  refine ks_wpAny_isType_cls hD1 rfl ⟨rfl, ?_⟩
  refine ks_wpAny_call_super hD1 rfl ho rfl (fun c z => by cases z) (PySem.W.looks_mroIn K1 T.mro) fun h2 hso k2 => ?_
  have K2 : K.In h2 := K1.keeps k2
  have hx2 : PySem.W.InstAt h2 a { cls := .ref C, dict := none, data := .fields #[.ref t1, .none, .none, .none, .bool false, .none] } C none := ⟨k2 _ _ ho, rfl, rfl, trivial⟩
  have hvi := T.vinit
  unfold PySem.W.ks_superIn at hvi
  rw [hcl] at hvi
  refine kxs_getMethod kxs_ValueError hso (looks_opaque K2 T.opq) (l₀ := .ref C :: bm) (fun A Q E s k q => wpAny_bind ((PySem.W.looks_clsIn K2 hcl) A _ E s k (wpAny_pure q))) rfl K2 hvi (hx2.type.andThen (PySem.W.looks_subIn K2 T.sub)) (PySem.W.ks_ne K2 hx2 hcl) (by decide) ?_
  -- the bound __init__ stands at the end of the heap; the arguments
  have hu : (h2.push (kxs_mw "ValueError.__init__" a)).get? h2.objs.size = some (kxs_mw "ValueError.__init__" a) := Heap.get?_push_at rfl rfl
  have lt2 : h1.objs.size < h2.objs.size := Heap.lt_size hso
  have I2 := I.kept (t' := s.toks + (((("self" : Str) :: ps)).zip (.ref a :: ur)).length + 1) (h' := h2.push (kxs_mw "ValueError.__init__" a)) fun b o e => Heap.get?_push_of_some _ (k2 b o e)
  have I3 : L2.Inv (ncx CX P w K mg base N F fI A outer s H E) [(h2.objs.size, kxs_mw "ValueError.__init__" a)] (startF N (.ref a :: wsv) [some (.ref C)]) H ⟨h2.push (kxs_mw "ValueError.__init__" a), s.gens, s.drawn, s.toks + (((("self" : Str) :: ps)).zip (.ref a :: ur)).length + 1, s.os⟩ := by
    refine I2.pins_of fun p hp => ?_
    have z := List.mem_singleton.mp hp
    subst z
    refine ⟨hu, I.hok.fresh (Nat.le_of_lt lt2), ?_, I.nofs (Nat.le_of_lt lt2), fun v z => by cases z⟩
    have lz : s.heap.objs.size < h1.objs.size := I.lt
    exact Nat.ne_of_gt (Nat.lt_trans lz lt2)
  rw [hstar]
  have bt : backTo p3 [(false, eval e1 (envF F fI s.heap.objs.size))] = [(false, eval e1 (envF F fI s.heap.objs.size))] ∨ True := .inr trivial
  refine kxs_callWith (i := "ValueError.__init__") (x := a) (by first | rfl | simp [backTo]) ?_
  have hA := pa.run p3 _ _ _ _ _ I3 hq
  have hst := hstar (ncx CX P w K mg base N F fI A outer s H E).env
  rw [hst] at hA
  refine Calls.evalArgs_plain ?_
  refine thn hA fun us1 s1 hh => ?_
  obtain ⟨vs1, H1, I4, r1, hz, hE1, ht⟩ := hh
  have hu1 : s1.heap.get? h2.objs.size = some (kxs_mw "ValueError.__init__" a) := (I4.pin (h2.objs.size, kxs_mw "ValueError.__init__" a) (by simp)).1
  refine ⟨hu1, ?_⟩
  obtain ⟨t2, ho4⟩ := exo_at I4.hok hE1
  have hC4 := I4.kIn _ _ hC
  have hlen : us1.length ≤ sizeLine := by
    rw [← Paired.length r1, sizeLine_eq]
    omega
  obtain ⟨hp, g, d, tk, os⟩ := s1
  show wpAny _ _ (call (.ref h2.objs.size) us1) _ _ _
  refine wpAny_call (codeAny_of_tree ?_)
  show wpAny _ _ (callAny (.ref h2.objs.size) ⟨us1, []⟩) _ _ _
  simp only [callAny]
  refine wpAny_bind (wpAny_load hu1 ?_)
  simp only [kxs_mw, show (Value.type "method-wrapper" == Value.type "method" || Value.type "method-wrapper" == Value.type "builtin_function_or_method" || Value.type "method-wrapper" == Value.type "method-wrapper") = true by decide, if_true]
  refine PySem.W.KFB.if_so (by decide) ?_
  refine wpAny_bind (PySem.W.check_bound_init PySem.F.excBase_ValueError.toExcCallFacts hC4 ho4 rfl ?_)
  refine wpAny_bind (wpAny_pure (wpAny_pure ?_))
  refine ⟨plainId_quiet PySem.F.excBase_ValueError.init.plain _, codeAny_builtin PySem.F.excBase_ValueError.initEntry ?_⟩
  refine PySem.W.exc_init_tree (cls := .ref C) (t0 := t2) (dv := none) (c2 := .none) (c3 := .none) (b4 := .bool false) ho4 hlen fun h5 k5 hx5 _ => ?_
  have J := I4.write (t' := tk) (x := a) (e := a) (o := exo a C none) (by rw [hE1]; exact True.intro) (.inl rfl) k5 ⟨_, hx5⟩ (exo_ok hx5)
  have eu : upd H1 a (exo a C none) = H1 := by
    funext b
    by_cases hb : b = a
    · rw [hb, upd_same, hE1]
    · rw [upd_ne hb]
  rw [eu] at J
  have J0 : L2.Inv (ncx CX P w K mg base N F fI A outer s H E) [] (startF N (.ref a :: wsv) [some (.ref C)]) H1 ⟨h5, g, d, tk, os⟩ := J.pins_of fun p hp => by cases hp
  -- the rest of the body
  refine wpAt_of_wpAny (thn (pss.run [] _ _ H1 _ J0 ht) fun fl s6 hs => ?_)
  match fl, hs with
  | .ret u, ⟨v, σ', H', J, rv, q⟩ => exact ⟨v, H', J.os, J.bare, J.base, J.hok, rv, q⟩
  | .next, ⟨σ', H', J, q⟩ => exact ⟨.non, H', J.os, J.bare, J.base, J.hok, rfl, q⟩
  | .brk, ⟨_, _, _, q⟩ => exact q.elim
  | .cont, ⟨_, _, _, q⟩ => exact q.elim
end
end DX
/-! Own errors with one field: made, raised. -/
namespace DX
open PySem PySem.Spec PyProof.Rows L2 NdefX
open PySem.W (Frag)
/-- what an error's field may hold -/
def OkV (v : V) : Prop := (∃ y : Str, v = .str y ∧ y.length ≤ 10000) ∨ ∃ i : Int, v = .int i ∧ i.natAbs.log2 < 1920
/-- __init__ stores its one argument -/
def spX (C : Addr) (x : Str) : Sp := fun vs H Q _ => ∃ a v, vs = [.ref a, v] ∧ OkV v ∧ H a = some (exo a C none) ∧ ∀ d, H d = none → d ≠ a → Q .non (upd (upd H d (exd d [(x, v)])) a (exo a C (some d)))
section
variable {CX : CXT} {P : Program} {w : World} {K : Frag} {mg : Str → Option Value} {base : Heap} {F : NF} {fI C cc : Addr} {k : Nat} {x : Str}
theorem join_len (a b : Str) : (a ++ b).length = a.length + b.length := by
  show (a.cps ++ b.cps).size = a.cps.size + b.cps.size
  simp
/-- the values of a text with one place: f'..{x}..' -/
def msgT (m0 : Str) (i : Nat) : List Str → List TE
  | ms => tC (.str m0) :: tFmt (tVar i) :: ms.map fun m => tC (.str m)
theorem msg_run {m0 : Str} {ms : List Str} {i : Nat} {v : V} {σ : L2.St} {H : Hp} {Q : Str → Hp → Prop} (hv : σ[i]? = some (some v)) (ok : OkV v) (h0 : m0.length ≤ 1000) (hm : ms = [] ∨ ∃ m1 : Str, ms = [m1] ∧ m1.length ≤ 1000) (q : ∀ out, Q out H) : tJs (msgT m0 i ms) Str.empty σ H Q := by
  have hb : ∀ y : Str, y.length ≤ 10000 → tJs (ms.map fun m => tC (.str m)) (Str.empty ++ m0 ++ y) σ H Q := fun y hy => by
    rcases hm with rfl | ⟨m1, rfl, hl⟩
    · exact q _
    · refine ⟨m1, rfl, ?_, q _⟩
      rw [join_len, join_len, join_len]
      have e : Str.empty.length = 0 := rfl
      have z : sizeLine = 16777216 := sizeLine_eq
      omega
  have z : sizeLine = 16777216 := sizeLine_eq
  have e : Str.empty.length = 0 := rfl
  refine ⟨m0, rfl, by rw [join_len]; omega, v, hv, ?_⟩
  rcases ok with ⟨y, rfl, hy⟩ | ⟨n, rfl, hn⟩
  · exact .inl ⟨y, rfl, by omega, y, rfl, by rw [join_len, join_len]; omega, hb y hy⟩
  · have hl := int_text_len_1921 hn
    exact .inr ⟨n, rfl, hn, _, rfl, by rw [join_len, join_len]; omega, hb _ (by omega)⟩
theorem exc_init (T : SupT P K C fI F cc) {oc doc pm ct : Value} {od : Option Addr} {osl : Array (Option Value)} (lk : K.lookup fI = some ⟨oc, od, .func (F.fd doc pm ct), osl⟩) (S : NScope ["self", x, "__class__"] ["self", x] ["__class__"] F.scope)
    (hks : F.scope.names.lookup ("super" : Str) = some .globalImplicit) (hno : PySem.W.findIn K (.ref C) x = some none) (hx1 : (x == ("__debug__" : Str)) = false) (hx2 : (x == ("__classdict__" : Str)) = false)
    {m0 : Str} {ms : List Str} {tl : List Expr} {p0 p1 p2 p3 p4 q0 q1 q2 q3 q4 q5 q6 c0 : Pos} {j0 : Nat}
    (hbody : F.body = [.Expr (.Call (.Attribute (.Call (.Name "super" p0) [] [] p1) "__init__" p2) [.JoinedStr (.Constant (.str m0) j0 c0 :: .FormattedValue (.Name x q0) (-1) none q1 :: tl) q2] [] p3) p4, .Assign [.Attribute (.Name "self" q3) x q4] (.Name x q5) q6])
    (htl : (tl = [] ∧ ms = []) ∨ ∃ m1 j1 c1, tl = [.Constant (.str m1) j1 c1] ∧ ms = [m1] ∧ m1.length ≤ 1000) (h0 : m0.length ≤ 1000)
    (hcall : ∀ env, ∃ pl, eval (.Call (.Attribute (.Call (.Name "super" p0) [] [] p1) "__init__" p2) [.JoinedStr (.Constant (.str m0) j0 c0 :: .FormattedValue (.Name x q0) (-1) none q1 :: tl) q2] [] p3) env = (do let o ← attributeBase (.Call (.Name "super" p0) [] [] p1) "__init__" env (eval (.Call (.Name "super" p0) [] [] p1) env); standAt p2.atName; let (f, first) ← holding [o] (getMethod o "__init__" pl); callWith p3 f first (backTo p3 (starEach [.JoinedStr (.Constant (.str m0) j0 c0 :: .FormattedValue (.Name x q0) (-1) none q1 :: tl) q2] env)) []) := by intro; exact ⟨_, rfl⟩)
    (hsw : ∀ env, swapsWith (.Name x q5) (some (.Attribute (.Name "self" q3) x q4)) q6.line env = pure false := by intro; rfl) : FnOk P w K mg base CX 1 fI (F.fd doc pm ct) ["self", x] (spX C x) := by
  have hself : F.scope.names.lookup ("self" : Str) = some .local := S.par "self" (List.mem_cons_self ..)
  have hxl : F.scope.names.lookup x = some .local := S.par x (by simp)
  have go : ∀ A outer s (H : Hp) (E : XK), ∀ {p : Pos}, PE (ncx CX P w K mg base ["self", x, "__class__"] F fI A outer s H E) (.Name x p) (tVar 1) := fun A outer s H E p => pe_var (i := 1) rfl (.inl hxl) hx1 hx2
  have gs : ∀ A outer s (H : Hp) (E : XK), ∀ {p : Pos}, PE (ncx CX P w K mg base ["self", x, "__class__"] F fI A outer s H E) (.Name "self" p) (tVar 0) := fun A outer s H E p => pe_var (i := 0) rfl (.inl hself)
  rcases htl with ⟨rfl, rfl⟩ | ⟨m1, j1, c1, rfl, rfl, hl⟩
  · refine init_ok (k := 0) T lk S hks hbody (fun vs H Q E ⟨a, v, e, _⟩ => by rw [e]; rfl) (fun A outer s H vs Q E hr ⟨a, v, e, ok, hE, q⟩ => ?_) (hcall := hcall) (ta := tCons (fun σ H Q => tJs (msgT m0 1 []) Str.empty σ H fun out H1 => Q (.str out) H1) tNil)
    subst e
    refine ⟨a, [v], _, rfl, hE, pa_cons (pe_joined (.cons pe_str (.cons (pe_fmt (go ..)) .nil))) pa_nil, pss_one (ps_ost (gs ..) (go ..) (hsw _)), ?_⟩
    refine msg_run (i := 1) (v := v) (ms := []) rfl ok h0 (.inl rfl) fun out => ⟨(by show 1 ≤ 1000; decide), hE, ?_⟩
    exact ⟨v, rfl, .ref a, rfl, a, C, rfl, T.oex, hno, .inl ⟨hE, fun dx n ne => q dx n ne⟩⟩
  · refine init_ok (k := 0) T lk S hks hbody (fun vs H Q E ⟨a, v, e, _⟩ => by rw [e]; rfl) (fun A outer s H vs Q E hr ⟨a, v, e, ok, hE, q⟩ => ?_) (hcall := hcall) (ta := tCons (fun σ H Q => tJs (msgT m0 1 [m1]) Str.empty σ H fun out H1 => Q (.str out) H1) tNil)
    subst e
    refine ⟨a, [v], _, rfl, hE, pa_cons (pe_joined (.cons pe_str (.cons (pe_fmt (go ..)) (.cons pe_str .nil)))) pa_nil, pss_one (ps_ost (gs ..) (go ..) (hsw _)), ?_⟩
    refine msg_run (i := 1) (v := v) (ms := [m1]) rfl ok h0 (.inr ⟨m1, rfl, hl⟩) fun out => ⟨(by show 1 ≤ 1000; decide), hE, ?_⟩
    exact ⟨v, rfl, .ref a, rfl, a, C, rfl, T.oex, hno, .inl ⟨hE, fun dx n ne => q dx n ne⟩⟩
end
/-! ### made where nothing is handled: its context is None -/
theorem passN {X : Cx} : Passes (L2N.CX X.prog X.w) X (fun _ _ _ => False) := fun _ _ _ _ _ _ _ ⟨_, _, _, _, _, _, _, _, _, _, _, _, q⟩ => q.elim
theorem pmk_oexN {X : Cx} {CX : CXT} {y : Str} {e : Expr} {es : List Expr} {ta : TA} {p pos : Pos} {C fI : Addr} {k : Nat} {fd : FuncData} {ps : List Str} {sp : Sp} (T : OexC X.K C) (iC : PySem.W.findIn X.K (.ref C) "__init__" = some (some (.ref fI))) (tI : PySem.W.typeIn X.K (.ref fI) = some (.type "function"))
    (F1 : FnOk X.prog X.w X.K X.mg X.base CX k fI fd ps sp) (hr : Room (k + 1) X.A) (hb : Binds X.K fd ps []) (hx : Passes CX X (fun _ _ _ => False)) (hg : Gl X y) (hm : X.mg y = some (.ref C)) (ha : PA X (e :: es) ta)
    (hdb : (y == ("__debug__" : Str)) = false) (he : starEach (e :: es) X.env = (false, eval e X.env) :: starEach es X.env) (hpl : (backTo pos (starEach es X.env)).any (·.1) = false) : L2N.PMk X (.Call (.Name y p) (e :: es) [] pos) (tMkO C sp [] ta) := by
  intro pins s σ H Q I h
  obtain ⟨nm, q, N, bs, bm, sn, sub, ab, col, dd, k0, k1, k2, k3, k5, hC, hbm⟩ := T.cls
  refine wpAny_Call_Name_kw (ld_glob I hg hm (PySem.W.callWith_K (h₀ := X.base) I.ok.mod.kin T.kC (thn (ha.run pos pins s σ H _ I h) fun us s1 ⟨vs, H1, I1, r1, hz, q1⟩ => ⟨I1.kIn, ?_⟩) he hpl) hdb)
  obtain ⟨hp, g, dr, tk, os⟩ := s1
  have le1 : hp.objs.size ≤ hp.objs.size + 1 := Nat.le_succ _
  have hq := q1 (hp.objs.size + 1) (I1.hok.fresh le1)
  rw [List.append_nil] at hq
  -- the new exception and its tuple of arguments
  let h2 : Heap := (hp.push (PySem.W.kdv_tup us)).push (PySem.HandSPX.excO C hp.objs.size)
  have kk : ∀ b o, hp.get? b = some o → h2.get? b = some o := fun b o z => Heap.get?_push_of_some _ (Heap.get?_push_of_some _ z)
  have at1 : h2.get? (hp.objs.size + 1) = some (PySem.HandSPX.excO C hp.objs.size) := by heap_get
  have I2 : Inv X pins σ (upd H1 (hp.objs.size + 1) (exo (hp.objs.size + 1) C none)) ⟨h2, g, dr, tk, os⟩ := I1.laid (t' := tk) (o := exo (hp.objs.size + 1) C none) kk le1 (exo_ok at1)
  have r2 : Vals (V.ref (hp.objs.size + 1) :: vs) (Value.ref (hp.objs.size + 1) :: us) := .cons rfl r1
  have len : (Value.ref (hp.objs.size + 1) :: us ++ []).length = ps.length := by
    rw [List.append_nil, ← r2.length]
    exact F1.len _ _ _ _ hq
  have few : us.length ≤ sizeLine := by
    rw [← Paired.length r1, sizeLine_eq]
    omega
  have b2 := hb ⟨h2, g, dr, tk, os⟩ _ I2.kIn len
  rw [List.append_nil] at b2
  refine wpAny_call (PySem.HandSPX.call_own F.excBase_ValueError (fun Y => PySem.HandSPX.refsVE_contains Y bm hbm) (I1.kIn _ _ hC) (PySem.W.looks_findIn I1.kIn iC) (fun self => PySem.W.bind_fn I1.kIn self tI) few
    (codeAny_mono (F1.run _ X.stack _ _ ⟨_, []⟩ _ _ _ (fun _ _ _ => False) (hr.make C us []) (I2.env0.make C us []) b2 r2 hq) fun r s' hq' => ?_))
  match r, hq' with
  | .error er, hq' => exact hx pins σ _ _ er s' I2 hq'
  | .ok (.ret u), ⟨v, H2, os2, bare2, un2, hok2, rv, ev, d, fs, ea, ed, hd1, q2⟩ =>
    subst ev
    obtain ⟨h3, g2, d2, t2, os'⟩ := s'
    obtain ⟨t0, G, J, kG, ge, hoe, na⟩ := mk_end0 (d2 := d2) (t2 := t2) I1 le1 kk un2 hok2 os2 bare2 ea ed hd1
    exact ⟨rv, hp.objs.size + 1, _, _, ⟨G, g2, d2, t2, os'⟩, _, .ref C, some d, rfl, J, kG, ge, hoe, ⟨rfl, rfl, fun vs hv => by cases hv; rfl⟩, rfl, rfl, na, rfl, bare2, raises_own T.exC T.tyC, q2⟩
  | .ok .next, hq' => exact hq'.elim
  | .ok .brk, hq' => exact hq'.elim
  | .ok .cont, hq' => exact hq'.elim
/-! ### over data -/
section
open DL
variable [B : Obs] {X : Cx} {W : WX} {n : Nat}
def OkD : D → Prop
  | .str y => y.length ≤ 10000
  | .int i => i.natAbs.log2 < 1920
  | _ => False
theorem okV_of {K : Frag} {F : Hp} {v : V} {d : D} (r : Rp K F v d) (h : OkD d) : OkV v := by
  cases r with
  | str y => exact .inl ⟨y, rfl, h⟩
  | int i => exact .inr ⟨i, rfl, h⟩
  | _ => exact h.elim
/-- raise C(e) -/
def tRs (C : Addr) (x : Str) (t : TAd) : TSd := fun E δ M => t (E.xk δ) δ M fun ds M1 => match ds with
  | [d] => OkD d ∧ E.xx C [(x, d)] δ M1
  | _ => False
theorem Rl.more {K : Frag} {F H J : Hp} {M : Md} (l : Rl K F H M) (h : ∀ b u, H b = some u → J b = some u) : Rl K F J M := ⟨⟨fun e => h _ _ (l.sub.of e)⟩, fun a c e => by
  obtain ⟨k1, k2⟩ := l.cell a c e
  obtain ⟨u, hu⟩ := k2.there
  exact ⟨k1, k2.mono (.rfl' F) (hu.trans (h _ _ hu).symm)⟩⟩
/-- the error's class at C under the name y, its __init__ at fI -/
structure ErrT (X : Cx) (C fI : Addr) (fd : FuncData) (x : Str) : Prop where
  oex : OexC X.K C
  iC : PySem.W.findIn X.K (.ref C) "__init__" = some (some (.ref fI))
  tI : PySem.W.typeIn X.K (.ref fI) = some (.type "function")
  ok : FnOk X.prog X.w X.K X.mg X.base (L2N.CX X.prog X.w) 1 fI fd ["self", x] (spX C x)
  bd : Binds X.K fd ["self", x] []
theorem sraise {C fI : Addr} {fd : FuncData} {x y : Str} {e : Expr} {ta : TAd} {p pos pos2 : Pos} (c : Cd X W n) (hn : 2 ≤ n) (T : ErrT X C fI fd x) (hg : Gl X y) (hm : X.mg y = some (.ref C)) (ha : PAd X W [e] ta)
    (hdb : (y == ("__debug__" : Str)) = false := by decide) (he : starEach (e :: []) X.env = (false, eval e X.env) :: starEach [] X.env := by rfl) (hpl : (backTo pos (starEach [] X.env)).any (·.1) = false := by rfl) :
    PSd X W (.Raise (some (.Call (.Name y p) [e] [] pos)) none pos2) (tRs C x ta) :=
  ps_imp (L2N.ps_raise c.calm c.tk (pmk_oexN T.oex T.iC T.tI T.ok (c.rm.mono hn) T.bd passN hg hm ha hdb he hpl)) fun E σ H ⟨F, δ, M, Dd, l, s, lt, q⟩ => by
    refine lowA_then l s (lt.xx (.rfl' F) s) q ⟨fun {ds M1 vs G H1} g l1 r1 h1 => ?_⟩
    match ds, vs, r1, h1 with
    | [d], [v], .cons r .nil, ⟨ok, h⟩ =>
      refine ⟨(by show 1 ≤ 1000; decide), fun a na => ⟨a, v, rfl, okV_of r ok, upd_same, fun dx nd ne => ⟨rfl, dx, [(x, v)], upd_same, ?_, ?_, ?_⟩⟩⟩
      · rw [upd_ne ne, upd_same]
      · rw [upd_ne ne] at nd
        exact nd
      · rw [upd_ne ne] at nd
        have k : ∀ b u, H1 b = some u → upd (del (upd (upd (upd H1 a (exo a C none)) dx (exd dx [(x, v)])) a (exo a C (some dx))) a) dx (.xd [(x, v)]) b = some u := fun b u e => by
          have b1 : b ≠ dx := known_ne nd e
          have b2 : b ≠ a := known_ne na e
          rw [upd_ne b1, del_ne b2, upd_ne b2, upd_ne b1, upd_ne b2]
          exact e
        refine (lt.xx g (s.mono g)).go (.rfl' G) (Rl.more l1 k) (.inr ⟨dx, [(x, v)], rfl, l1.sub.off nd, upd_same, .cons ⟨rfl, r⟩ .nil⟩) h
end
end DX
/-! try: body, several except clauses, each with or without a name; calls within their suites. -/
namespace DX
open PySem PySem.Spec PyProof.Rows L2 L2H
/-- one clause: the class, the slot of its name, what its suite does -/
structure Cla where
  c : Value
  i : Option Nat
  ts : Addr → Value → Option Addr → TS
def bindC (i : Option Nat) (a : Addr) (σ : L2.St) : L2.St := match i with
  | none => σ
  | some j => σ.set j (some (.ref a))
def dropC (i : Option Nat) (σ : L2.St) : L2.St := match i with
  | none => σ
  | some j => σ.set j none
def endC (i : Option Nat) (D : Ends) : Ends := { nx := fun σ H => D.nx (dropC i σ) H, rt := D.rt, bk := fun σ H => D.bk (dropC i σ) H, ct := fun σ H => D.ct (dropC i σ) H }
/-- what the clauses wish -/
def wAll (K : PySem.W.Frag) (Wout : WX) (D : Ends) : List Cla → WX
  | [] => Wout
  | c :: r => fun cls d σ H => ∃ b, PySem.W.exmOne K cls c.c = some b ∧ (b = true → ∀ a, H a = none → c.ts a cls d (endC c.i D) (bindC c.i a σ) H) ∧ (b = false → wAll K Wout D r cls d σ H)
abbrev SuOk (X : Cx) (sts : List Stmt) (ts : Addr → Value → Option Addr → TS) : Prop := ∀ (a : Addr) (oe : Obj) (cls : Value) (d : Option Addr) (pn : List (Addr × Obj)), L2N.Zn cls d oe → (∃ vs, oe.data = .fields vs) → HotC (X.suite a ((a, oe) :: pn)) → PSs (X.suite a ((a, oe) :: pn)) sts (ts a cls d)
inductive ClasOk (X : Cx) : List ExceptHandler → List Cla → Prop
  | nil : ClasOk X [] []
  | plain {x : Str} {c : Value} {ts : Addr → Value → Option Addr → TS} {b₀ : Stmt} {suite : List Stmt} {np pos' : Pos} {hds : List ExceptHandler} {l : List Cla} (hc : Names X x c) (hsu : SuOk X (b₀ :: suite) ts) (r : ClasOk X hds l) :
      ClasOk X (.ExceptHandler (some (.Name x np)) none (b₀ :: suite) pos' :: hds) (⟨c, none, ts⟩ :: l)
  | named {x n : Str} {i : Nat} {c : Value} {ts : Addr → Value → Option Addr → TS} {b₀ : Stmt} {suite : List Stmt} {np pos' : Pos} {hds : List ExceptHandler} {l : List Cla} (hc : Names X x c) (hi : X.N[i]? = some n) (hln : X.env.kindOf n = some .local) (hsu : SuOk X (b₀ :: suite) ts)
      (r : ClasOk X hds l) : ClasOk X (.ExceptHandler (some (.Name x np)) (some n) (b₀ :: suite) pos' :: hds) (⟨c, some i, ts⟩ :: l)
section
variable {X : Cx} {body : List Stmt} {h₀ : ExceptHandler} {hds : List ExceptHandler} {l : List Cla} {pos : Pos} {tb : WX → TS} {Wout : WX}
theorem ps_try_all (hs : X.stack = X.env :: X.outer) (hf : X.env.frame = some X.env.locals) (hN : X.N.Nodup) (tk : L2N.Takes X Wout)
    (hb : ∀ (W : WX) (pn : List (Addr × Obj)) (xe : Value → Shared → Prop), L2N.Takes (X.tr pn xe) W → PassesOwn (model X.prog X.w) X.A X.env xe → PSs (X.tr pn xe) body (tb W)) (hh : ClasOk X (h₀ :: hds) l) :
    PS X (.Try body (h₀ :: hds) [] [] pos) (fun D σ H => tb (wAll X.K Wout D l) D σ H) := by
  refine ⟨fun pins s σ H D I h => wpAny_Try_except ?_⟩
  have ok := I.ok
  have hfr : X.A.frames = some (X.env :: X.outer) := by rw [ok.frames, hs]
  refine wpAny_mono ((hb (wAll X.K Wout D l) (X.pn ++ pins) (fun e s₁ => wpAny (model X.prog X.w) X.A (noteFrame e X.env) (fun _ s₂ => wpAny (model X.prog X.w) X.A (setFlight e none) (fun _ s₃ => wpAny (model X.prog X.w) X.A (handleBy e X.env (h₀ :: hds)) (SP X pins D) X.xe s₃) X.xe s₂) X.xe s₁)
    (fun u s' xx => ?_) PassesOwn.looking).run [] s σ H D (I.toTry _) h) (fun f s1 hsp => ?_) (fun e s1 he => he)
  · obtain ⟨a, B, sI, pins', σ', H', cls, d, rfl, J', nb, up, sky, na, os, ag, w⟩ := xx
    have J : Inv X pins σ' H' sI := J'.ofTry ok
    refine L2N.Sky.land (L := X.env.locals) L2N.Zn.steady hfr hf (show Sky B (X.env :: X.outer) a (L2N.Zn cls d) X.env.locals s'.heap by rw [← hs]; exact sky) fun h3 fl3 up3 => ?_
    have J3 : Inv X pins σ' H' { s' with heap := h3 } := J.landed nb fl3.1 (up.trans up3) os ag
    obtain ⟨oe3, vs3, he3, hz3, hd3⟩ := fl3.there
    have nfr : a ∉ frs (X.env :: X.outer) := fun hm => by
      obtain ⟨_, o', e', hnf⟩ := fl3.2.2.1.mem hm
      rw [he3] at e'
      cases e'
      exact hnf _ hd3
    have nL : a ≠ X.env.locals := fun z => nfr (List.mem_filterMap.mpr ⟨X.env, List.mem_cons_self, by rw [hf, z]⟩)
    have nF : a ∉ X.fs := fun hm => by
      obtain ⟨e, he, q⟩ := List.mem_filterMap.mp hm
      exact nfr (List.mem_filterMap.mpr ⟨e, List.mem_cons_of_mem _ he, q⟩)
    have S3 := J3.suite he3 hd3 na nL nF
    have LT : PySem.W.Looks (model X.prog X.w) h3 (typeOf (.ref a)) cls := fun A Q E s k q => wpAny_typeOf_ref (k _ _ he3) (by rw [hz3.1]; exact q)
    have test : ∀ {x : Str} {c : Value} {np : Pos} {Q : Value → Shared → Prop} {E : Value → Shared → Prop}, Names X x c → Q c { s' with heap := h3 } → wpAny (model X.prog X.w) (X.A.mark (some (.ref a))) (eval (.Name x np) X.env) Q E { s' with heap := h3 } := fun {x c np Q E} hc q => by
      obtain ⟨hg, hdbg, hm⟩ := hc
      rcases hm with hm | ⟨hm, hv, hnn⟩
      · exact ld_glob (X := X.suite a ((a, oe3) :: (X.pn ++ pins))) S3 hg hm q hdbg
      · exact ld_blt (X := X.suite a ((a, oe3) :: (X.pn ++ pins))) S3 hg hm hv q hnn hdbg
    -- clause behind clause
    have go : ∀ {hds' : List ExceptHandler} {l' : List Cla}, ClasOk X hds' l' → wAll X.K Wout D l' cls d σ' H' → wpAny (model X.prog X.w) X.A (handleBy (.ref a) X.env hds') (SP X pins D) X.xe { s' with heap := h3 } := by
      intro hds' l' hk
      induction hk with
      | nil =>
        intro w
        refine wpAny_handleBy_nil ?_
        obtain ⟨k1, k2, k3, oe, vs, T, oT, ts', he, hz, hd, h1, hr⟩ := id fl3
        refine wpAny_bind (wpAny_field he hd h1 ?_)
        rw [if_neg (show ¬ ((Value.ref T == Value.none) = true) from by simp)]
        have fin : wpAny (model X.prog X.w) X.A (setFlight (.ref a) X.env.frame) (fun _ s4 => wpAny (model X.prog X.w) X.A (throw (.ref a) : Sem Flow) (SP X pins D) X.xe s4) X.xe { s' with heap := h3 } := by
          rw [hf]
          exact HandSPX.setFlight_upZ fl3 fun h4 hh4 up4 => wpAny_throw (tk _ _ ⟨a, B, sI, pins, σ', H', cls, d, rfl, J, nb, (up.trans up3).trans up4, .inr (.inr (by rw [hs]; exact hh4)), na, os, ag, w⟩)
        first
          | exact wpAny_bind (wpAny_pure (wpAny_bind fin))
          | exact wpAny_bind fin
      | @plain x c ts b₀ suite np pos' hds2 l2 hc hsu r ih =>
        rintro ⟨b, hb1, hyes, hno⟩
        refine wpAny_handleBy_cons (codeAny_handlers_test (test hc ((PySem.W.exm_one (M := model X.prog X.w) J3.kIn LT hb1).here ?_))) (by intro q; cases q)
        cases b with
        | false => exact ih (hno rfl)
        | true =>
          refine codeAny_handlers_suite (HandSPX.lands_againZ fl3 fun h4 fl4 up4 => ?_)
          have J4 : Inv X pins σ' H' { s' with heap := h4 } := J.landed nb fl4.1 ((up.trans up3).trans up4) os ag
          obtain ⟨oe4, vs4, he4, hz4, hd4⟩ := fl4.there
          have hot : HotC (X.suite a ((a, oe4) :: (X.pn ++ pins))) := ⟨(a, oe4), ⟨rfl, vs4, hd4, hz4.2.2 vs4 hd4⟩, List.mem_cons_self⟩
          refine wpAny_mono ((hsu a oe4 cls d (X.pn ++ pins) hz4 ⟨_, hd4⟩ hot).run [] _ _ H' _ (J4.suite he4 hd4 na nL nF) (hyes rfl a na)) (fun f s6 hsp => ?_) (fun _ _ z => False.elim z)
          match f, hsp with
          | .next, ⟨σ6, H6, S6, q6⟩ => exact ⟨_, _, S6.unsuite ok, q6⟩
          | .brk, ⟨σ6, H6, S6, q6⟩ => exact ⟨_, _, S6.unsuite ok, q6⟩
          | .cont, ⟨σ6, H6, S6, q6⟩ => exact ⟨_, _, S6.unsuite ok, q6⟩
          | .ret u, ⟨v6, σ6, H6, S6, r6, q6⟩ => exact ⟨_, _, _, S6.unsuite ok, r6, q6⟩
      | @named x n i c ts b₀ suite np pos' hds2 l2 hc hi hln hsu r ih =>
        rintro ⟨b, hb1, hyes, hno⟩
        refine wpAny_handleBy_cons (codeAny_handlers_test (test hc ((PySem.W.exm_one (M := model X.prog X.w) J3.kIn LT hb1).here ?_))) (by intro q; cases q)
        cases b with
        | false => exact ih (hno rfl)
        | true =>
          refine codeAny_handlers_suite_as (HandSPX.lands_againZ fl3 fun h4 fl4 up4 => ?_)
          have J4 : Inv X pins σ' H' { s' with heap := h4 } := J.landed nb fl4.1 ((up.trans up3).trans up4) os ag
          obtain ⟨oe4, vs4, he4, hz4, hd4⟩ := fl4.there
          have hot : HotC (X.suite a ((a, oe4) :: (X.pn ++ pins))) := ⟨(a, oe4), ⟨rfl, vs4, hd4, hz4.2.2 vs4 hd4⟩, List.mem_cons_self⟩
          refine store_ok (X := X.suite a ((a, oe4) :: (X.pn ++ pins))) (v := .ref a) (J4.suite he4 hd4 na nL nF) hN hi (.inl hln) rfl (fun s5 S5 => ?_) (.inr hln)
          refine wpAny_mono ((hsu a oe4 cls d (X.pn ++ pins) hz4 ⟨_, hd4⟩ hot).run [] s5 _ H' _ S5 (hyes rfl a na)) (fun f s6 hsp => ?_) (fun _ _ z => False.elim z)
          match f, hsp with
          | .next, ⟨σ6, H6, S6, q6⟩ => exact gone_ok (S6.unsuite ok) hN hi hln fun s7 J7 => ⟨_, _, J7, q6⟩
          | .brk, ⟨σ6, H6, S6, q6⟩ => exact gone_ok (S6.unsuite ok) hN hi hln fun s7 J7 => ⟨_, _, J7, q6⟩
          | .cont, ⟨σ6, H6, S6, q6⟩ => exact gone_ok (S6.unsuite ok) hN hi hln fun s7 J7 => ⟨_, _, J7, q6⟩
          | .ret u, ⟨v6, σ6, H6, S6, r6, q6⟩ => exact gone_ok (S6.unsuite ok) hN hi hln fun s7 J7 => ⟨_, _, _, J7, r6, q6⟩
    exact go hh w
  · match f, hsp with
    | .next, ⟨σ', H', J', q⟩ => exact wpAny_execs_nil ⟨σ', H', J'.ofTry ok, q⟩
    | .brk, ⟨σ', H', J', q⟩ => exact ⟨σ', H', J'.ofTry ok, q⟩
    | .cont, ⟨σ', H', J', q⟩ => exact ⟨σ', H', J'.ofTry ok, q⟩
    | .ret u, ⟨v, σ', H', J', r, q⟩ => exact ⟨v, σ', H', J'.ofTry ok, r, q⟩
end
end DX
set_option maxHeartbeats 4000000
/-! isinstance of a caught own error that has fields (the kit's rule is for one without). -/
namespace DX
open PySem PySem.Spec PySem.Calls PyProof.Rows L2
open PySem.W (Frag findIn subIn hasDictIn specialIn takesIn mroIn InstAt KitX looks_findIn looks_find looks_subIn class_get any_some clsIn)
section
variable {prog : Program} {w : World} {A : Around} {E : Value → Shared → Prop} {K : Frag} {x D : Addr} {ox o : Obj}
/-- e.__class__ of such an error -/
theorem class_of {Q : Option Value → Shared → Prop} (C : ExcC K D) {s : Shared} (X : K.In s.heap) (I : InstAt s.heap x ox D (some o)) (h : Q (some (.ref D)) { s with toks := s.toks + 1 }) : wpAny (model prog w) A (getAttr? (.ref x) "__class__") Q E s := by
  obtain ⟨hp, g, d, t, os⟩ := s
  have hf : PySem.W.findObj K D (some o) "__class__" = some (.bind (.builtin "getset_descriptor.__get__") (.builtin "object.__class__")) := PySem.W.findObj_data (by obtain ⟨cd, hc, _⟩ := any_some C.hd; rw [hc]; rfl) C.ha C.hn C.ht
  have Lt := I.type (M := model prog w)
  have Lg := looks_findIn (M := model prog w) X C.hg
  have Lh := looks_findIn (M := model prog w) X C.hk
  have Lf := looks_find (M := model prog w) X I hf
  have own : (Value.builtin "BaseException.__getattribute__" == Value.builtin "object.__getattribute__") = false := by decide +kernel
  unfold getAttr? getAttrBy? getAttrBy
  refine wpAny_bind (wpAny_mkText (wpAny_bind (wpAny_attempt (wpAny_holding (wpAny_bind (Lt.at (wpAny_bind (Lg.at ?_))))))))
  show wpAny _ _ (if (onTheHeap (Value.ref D) && Value.builtin "BaseException.__getattribute__" == Value.builtin "object.__getattribute__") = true then (_ : Sem Value) else _) _ _ _
  rw [if_neg (show ¬ ((onTheHeap (Value.ref D) && Value.builtin "BaseException.__getattribute__" == Value.builtin "object.__getattribute__") = true) from by rw [own]; exact Bool.false_ne_true)]
  unfold getAttrByItsOwn hookBefore
  refine wpAny_bind ?_
  rw [show onTheHeap (Value.ref D) = true from rfl, if_pos rfl]
  refine Lh.at (wpAny_bind (wpAny_attempt (wpAny_holding ?_)))
  unfold callGetattribute
  rw [if_neg (show ¬ ((false && onTheHeap (Value.builtin "BaseException.__getattribute__")) = true) from Bool.false_ne_true)]
  unfold boundAndCalled
  rw [PySem.F.excAttr_ValueError.ga.bind (.ref x)]
  refine wpAny_bind (wpAny_pure (wpAny_call (codeAny_call_builtin PySem.F.excAttr_ValueError.ga.plain PySem.F.entry_bexc_ga ?_)))
  refine @PySem.W.check_slot (model prog w) _ _ ⟨hp, g, d, t + 1, os⟩ "BaseException.__getattribute__" "BaseException" "__getattribute__" (.ref x) [.str "__class__" t] [] _ (by decide +kernel) (by decide +kernel) (Lt.andThen (looks_subIn X C.hs)) (PySem.F.args_bexc_ga (.ref x) (.str "__class__" t)) ?_
  unfold Builtin.«object.__getattribute__»
  refine wpAny_bind (wpAny_of_eq (a := ((Value.ref x : Value), [Value.str "__class__" t])) (by first | rfl | (simp only [slotArgs]; rfl)) (wpAny_bind (wpAny_pure (wpAny_bind (Lt.at (wpAny_bind (Lf.at ?_)))))))
  refine wpAny_bind (wpAny_holding (wpAny_call (class_get (s := ⟨hp, g, d, t + 1, os⟩) (ox := ox) (od := some o) X I C.hm (wpAny_pure ?_))))
  show wpAny _ _ (handedOut (.ref D)) _ _ _
  rw [PySem.W.handedOut_of (v := .ref D) rfl]
  first
    | exact wpAny_pure (wpAny_pure h)
    | exact wpAny_pure h
    | exact wpAny_pure (wpAny_bind (wpAny_pure (wpAny_pure h)))
theorem kit_err (C : ExcC K D) : KitX K (.ref x) (.ref D) (fun h => InstAt h x ox D (some o)) where
  ty := fun _ _ _ I => I.type
  it := fun _ _ X _ => by
    obtain ⟨cdD, hcD, _⟩ := any_some C.hd
    unfold clsIn at hcD
    split at hcD
    · rename_i c' d' cd' sl' ho
      intro A' Q' E' s' k q
      exact wpAny_bind (wpAny_loadPart (k _ _ (X _ _ ho)) (wpAny_pure q))
    · cases hcD
  ne := fun h tp dd its n sl X htp => by
    obtain ⟨cdD, hcD, _⟩ := any_some C.hd
    refine Bool.eq_false_iff.mpr fun q => ?_
    obtain rfl : D = tp := Value.ref.inj (beq_iff_eq.mp q)
    unfold clsIn at hcD
    split at hcD
    · rename_i c' d' cd' sl' ho
      cases (X _ _ ho).symm.trans htp
    · cases hcD
  ca := fun X I k => class_of C X I k
end
end DX
/-! The data layer: try with several clauses, their suites. -/
namespace DL
open PySem PySem.Spec PyProof.Rows L2 L2H
variable [B : Obs]
/-- the datum of a caught error: at a, of the class C, with its dict and its fields -/
def excD (a C : Addr) (dx : Option Addr) (fs : Flds) : D := match dx with
  | none => .ref a
  | some dd => .exc a C dd (fs.map (·.1)) (fs.map (·.2))
structure ClaD where
  c : Value
  i : Option Nat
  td : Addr → Value → Option Addr → TSd
def bindCd (i : Option Nat) (d : D) (δ : SD) : SD := match i with
  | none => δ
  | some j => δ.set j (some d)
def dropCd (i : Option Nat) (δ : SD) : SD := match i with
  | none => δ
  | some j => δ.set j none
def endCd (i : Option Nat) (D : EndsD) : EndsD := { nx := fun δ M => D.nx (dropCd i δ) M, rt := D.rt, bk := fun δ M => D.bk (dropCd i δ) M, ct := fun δ M => D.ct (dropCd i δ) M }
def wAllD (K : PySem.W.Frag) (E : EndsD) : List ClaD → Addr → Flds → SD → Md → Prop
  | [], C, fs, δ, M => E.xx C fs δ M
  | c :: r, C, fs, δ, M => ∃ b, PySem.W.exmOne K (.ref C) c.c = some b ∧ (b = true → ∀ a dx, (dx = none → fs = []) → c.td a (.ref C) dx (endCd c.i E) (bindCd c.i (excD a C dx fs) δ) M) ∧ (b = false → wAllD K E r C fs δ M)
/-- try: body, except ..: the clauses -/
def tTry (K : PySem.W.Frag) (td : TSd) (l : List ClaD) : TSd := fun E δ M => td { E with xx := wAllD K E l } δ M
section
variable {K : PySem.W.Frag} {F H : Hp} {M : Md}
theorem Rfs.split {vs : List (Str × V)} {fs : Flds} (h : Rfs K F vs fs) : vs = (fs.map (·.1)).zip (vs.map (·.2)) ∧ Rps K F (vs.map (·.2)) (fs.map (·.2)) := by
  induction vs generalizing fs with
  | nil =>
    cases h
    exact ⟨rfl, .nil⟩
  | cons p vs ih =>
    cases h with
    | cons h t =>
      obtain ⟨h1, h2⟩ := ih t
      refine ⟨?_, .cons h.2 h2⟩
      rw [List.map_cons, List.map_cons, List.zip_cons_cons, ← h1, ← h.1]
theorem Rl.xdput (l : Rl K F H M) {d : Addr} {vs : List (Str × V)} (hf : F d = none) (hh : H d = some (.xd vs)) : Rl K (upd F d (.xd vs)) H M ∧ Le F (upd F d (.xd vs)) := by
  obtain ⟨l2, g⟩ := l.froze hh hf
  have e : cut M d = M := by
    funext b
    unfold cut
    split
    · rename_i z
      subst z
      cases q : M b with
      | none => rfl
      | some c =>
        obtain ⟨_, r⟩ := l.cell b c q
        cases c with
        | lst _ =>
          obtain ⟨_, p, _⟩ := r
          rw [hh] at p
          cases p
        | ins _ _ =>
          obtain ⟨_, _, p, _⟩ := r
          rw [hh] at p
          cases p
        | dic _ =>
          obtain ⟨_, p, _⟩ := r
          rw [hh] at p
          cases p
        | dit _ =>
          obtain ⟨_, p, _⟩ := r
          rw [hh] at p
          cases p
        | tux _ =>
          obtain ⟨_, _, p, _⟩ := r
          rw [hh] at p
          cases p
    · rfl
  rw [e] at l2
  exact ⟨l2, g⟩
theorem exc_rel {a C : Addr} {dx : Option Addr} {fs : Flds} (l : Rl K F H M) (x : Xf K F H dx fs) : ∃ G, Le F G ∧ Rl K G H M ∧ Rp K G (.ref a) (excD a C dx fs) ∧ (dx = none → fs = []) := by
  rcases x with ⟨rfl, rfl⟩ | ⟨d, vs, rfl, hf, hh, r⟩
  · exact ⟨F, .rfl' F, l, .ref a, fun _ => rfl⟩
  · obtain ⟨l2, g⟩ := l.xdput hf hh
    obtain ⟨e1, e2⟩ := (Rfs.mono g r).split
    exact ⟨_, g, l2, .exc (by rw [upd_same]; exact congrArg (fun z => some (HO.xd z)) e1) e2, fun z => nomatch z⟩
def lowC (K : PySem.W.Frag) (c : ClaD) : DX.Cla := ⟨c.c, c.i, fun a cls d => lowS K W0 (c.td a cls d)⟩
theorem lt_try {W : WX} {Dd : EndsD} {E : Ends} (lt : LT K W F Dd E) (l : List ClaD) : LT K (DX.wAll K W E (l.map (lowC K))) F { Dd with xx := wAllD K Dd l } E := by
  refine ⟨lt.nx, lt.rt, lt.bk, lt.ct, fun {δ σ G} g s => ⟨fun {C fs M dx J H} g2 r x h0 => ?_⟩⟩
  have h : wAllD K Dd l C fs δ M := h0
  clear h0
  show DX.wAll K W E (l.map (lowC K)) (.ref C) dx σ H
  induction l with
  | nil => exact (lt.xx g s).go g2 r x h
  | cons c l ih =>
    obtain ⟨b, hb, hy, hn⟩ := h
    refine ⟨b, hb, fun e a ha => ?_, fun e => ih (hn e)⟩
    obtain ⟨J2, g3, r3, rp, hx⟩ := exc_rel (a := a) (C := C) r x
    have gg := g.then' (g2.then' g3)
    have sj : Sls K J2 (DX.bindC c.i a σ) (bindCd c.i (excD a C dx fs) δ) := by
      have s2 := s.mono (g2.then' g3)
      unfold DX.bindC bindCd
      cases c.i with
      | none => exact s2
      | some j => exact s2.put' rp j
    have dr : ∀ {G' : Hp} {σ' : L2.St} {δ' : SD}, Sls K G' σ' δ' → Sls K G' (DX.dropC c.i σ') (dropCd c.i δ') := fun {G' σ' δ'} q => by
      unfold DX.dropC dropCd
      cases c.i with
      | none => exact q
      | some j => exact Sls.set' (x := none) (y := none) trivial j q
    refine ⟨J2, _, M, endCd c.i Dd, r3, sj, ⟨⟨?_⟩, lt.rt.mono gg, ⟨?_⟩, ⟨?_⟩, fun _ _ => ⟨fun _ _ _ z => False.elim z⟩⟩, hy e a dx hx⟩
    · exact fun {δ' M' σ' G' H'} e1 e2 e3 q => lt.nx.go (gg.then' e1) e2 (dr e3) q
    · exact fun {δ' M' σ' G' H'} e1 e2 e3 q => lt.bk.go (gg.then' e1) e2 (dr e3) q
    · exact fun {δ' M' σ' G' H'} e1 e2 e3 q => lt.ct.go (gg.then' e1) e2 (dr e3) q
end
section
variable {X : Cx} {W : WX} {n : Nat} {body : List Stmt} {h₀ : ExceptHandler} {hds : List ExceptHandler} {l : List ClaD} {pos : Pos} {td : TSd}
abbrev SuOkD (X : Cx) (sts : List Stmt) (td : Addr → Value → Option Addr → TSd) : Prop := ∀ (a : Addr) (oe : Obj) (cls : Value) (d : Option Addr) (pn : List (Addr × Obj)), L2N.Zn cls d oe → (∃ vs, oe.data = .fields vs) → HotC (X.suite a ((a, oe) :: pn)) → PSsd (X.suite a ((a, oe) :: pn)) W0 sts (td a cls d)
inductive ClasD (X : Cx) : List ExceptHandler → List ClaD → Prop
  | nil : ClasD X [] []
  | plain {x : Str} {c : Value} {td : Addr → Value → Option Addr → TSd} {b₀ : Stmt} {suite : List Stmt} {np pos' : Pos} {hds : List ExceptHandler} {l : List ClaD} (hc : Names X x c) (hsu : SuOkD X (b₀ :: suite) td) (r : ClasD X hds l) :
      ClasD X (.ExceptHandler (some (.Name x np)) none (b₀ :: suite) pos' :: hds) (⟨c, none, td⟩ :: l)
  | named {x n : Str} {i : Nat} {c : Value} {td : Addr → Value → Option Addr → TSd} {b₀ : Stmt} {suite : List Stmt} {np pos' : Pos} {hds : List ExceptHandler} {l : List ClaD} (hc : Names X x c) (hi : X.N[i]? = some n) (hln : X.env.kindOf n = some .local) (hsu : SuOkD X (b₀ :: suite) td)
      (r : ClasD X hds l) : ClasD X (.ExceptHandler (some (.Name x np)) (some n) (b₀ :: suite) pos' :: hds) (⟨c, some i, td⟩ :: l)
theorem ClasD.low {hds : List ExceptHandler} {l : List ClaD} (h : ClasD X hds l) : DX.ClasOk X hds (l.map (lowC X.K)) := by
  induction h with
  | nil => exact .nil
  | plain hc hsu r ih => exact .plain hc (fun a oe cls d pn z f hot => hsu a oe cls d pn z f hot) ih
  | named hc hi hln hsu r ih => exact .named hc hi hln (fun a oe cls d pn z f hot => hsu a oe cls d pn z f hot) ih
theorem stry (c : Cd X W n) (hs : X.stack = X.env :: X.outer) (hf : X.env.frame = some X.env.locals)
    (hb : ∀ (W' : WX) (pn : List (Addr × Obj)) (xe : Value → Shared → Prop), Cd (X.tr pn xe) W' n → PSsd (X.tr pn xe) W' body td) (hh : ClasD X (h₀ :: hds) l) : PSd X W (.Try body (h₀ :: hds) [] [] pos) (tTry X.K td l) :=
  ps_imp (DX.ps_try_all (tb := fun W' => lowS X.K W' td) hs hf c.nd c.tk (fun W' pn xe tk hp => hb W' pn xe ⟨c.nd, c.calm, tk, hp, c.rm, c.gd⟩) hh.low) fun E σ H ⟨F, δ, M, Dd, l', s, lt, q⟩ =>
    ⟨F, δ, M, _, l', s, lt_try lt l, q⟩
end
/-! ### within a suite -/
section
variable {X : Cx} {a : Addr} {oe : Obj} {cls : Value} {d : Option Addr} {pn : List (Addr × Obj)} {W : WX} {e : Expr} {te : TEd} {pos p : Pos} {f : Str}
/-- e.f, e the caught error of a class that ok tells -/
def tXfd (ok : Addr → Prop) (a : Addr) (cls : Value) (d : Option Addr) (f : Str) (te : TEd) : TEd := fun Xd δ M Q => te Xd δ M fun x M1 => match x with
  | .exc b C dd ns ds => b = a ∧ cls = .ref C ∧ ok C ∧ d = some dd ∧ ∃ v, (ns.zip ds).lookup f = some v ∧ Q v M1
  | _ => False
theorem zip_at {K : PySem.W.Frag} {F : Hp} {f : Str} {v : D} : ∀ {ns : List Str} {vs : List V} {ds : List D}, Rps K F vs ds → (ns.zip ds).lookup f = some v → ∃ u, (ns.zip vs).lookup f = some u ∧ Rp K F u v
  | [], _, _, _, h => by cases h
  | n :: ns, [], _, .nil, h => by cases h
  | n :: ns, w :: vs, e :: ds, .cons r t, h => by
    rw [List.zip_cons_cons, List.lookup_cons] at h ⊢
    cases q : (f == n) with
    | true =>
      rw [q] at h
      cases h
      exact ⟨w, rfl, r⟩
    | false =>
      rw [q] at h
      exact zip_at t h
theorem pexf {ok : Addr → Prop} (T : ∀ C, ok C → XfC X.K C ∧ PySem.W.findIn X.K (.ref C) f = some none) (hz : L2N.Zn cls d oe) (hf : ∃ vs, oe.data = .fields vs) (he : PEd (X.suite a ((a, oe) :: pn)) W e te) (hb : attributeBase e f X.env (eval e X.env) = eval e X.env := by rfl) :
    PEd (X.suite a ((a, oe) :: pn)) W (.Attribute e f pos) (tXfd ok a cls d f te) := by
  by_cases hC : ∃ C, cls = .ref C ∧ ok C
  · obtain ⟨C, rfl, k⟩ := hC
    refine pe_imp (pe_xf (T C k).1 (T C k).2 hz.zc hf he hb) fun σ H Q ⟨F, δ, M, Qd, Xd, l, s, kq, kx, q⟩ => low_then l s kx q ⟨fun {x M1 v G H1} g l1 r1 h1 => ?_⟩
    cases r1 with
    | exc hx rs =>
      obtain ⟨rfl, ec, _, ed, u, hu, h1⟩ := h1
      obtain ⟨w, hw, rw_⟩ := zip_at rs hu
      cases ec
      exact ⟨rfl, rfl, _, _, w, ed, l1.sub.of hx, hw, kq.go g l1 rw_ h1⟩
    | _ => exact h1.elim
  · refine ⟨fun pins s σ H Q I ⟨F, δ, M, Qd, Xd, l, s', kq, kx, q⟩ => attr_of hb (thn (he.run pins s σ H (fun _ _ => False) I (low_then l s' kx q ⟨fun {x M1 v G H1} g l1 r1 h1 => ?_⟩)) fun _ _ ⟨_, _, _, _, z⟩ => z.elim)⟩
    cases r1 with
    | exc hx rs => exact hC ⟨_, h1.2.1, h1.2.2.1⟩
    | _ => exact h1.elim
/-- isinstance(e, c), e the caught error -/
def clsD : D → Option Value
  | .ref C => some (.ref C)
  | .ty n => some (.type n)
  | _ => none
theorem clsD_eq {K : PySem.W.Frag} {F : Hp} {v : V} {x : D} {c : Value} (r : Rp K F v x) (h : clsD x = some c) : ∀ u, RelV v u → u = c := by
  cases r with
  | ref C =>
    cases h
    exact fun u k => k
  | ty n =>
    cases h
    exact fun u k => k
  | _ => cases h
def tIsE (K : PySem.W.Frag) (ok : Addr → Prop) (a : Addr) (cls : Value) (d : Option Addr) (ta : TAd) : TEd := fun Xd δ M Q => ta Xd δ M fun ds M1 => match ds with
  | [.exc b C dd _ _, y] => b = a ∧ cls = .ref C ∧ ok C ∧ d = some dd ∧ ∃ cv b, clsD y = some cv ∧ PySem.W.kitOne K (.ref C) cv = some b ∧ Q (.bl b) M1
  | _ => False
theorem call_isX {C dd : Addr} (T : ExcC X.K C) (hz : Zc (.ref C) (some dd) oe) (hf : ∃ vs, oe.data = .fields vs) : CallR (X.suite a ((a, oe) :: pn)) (.builtin "isinstance")
    (fun xs H Q => ∃ (c : V) (cv : Value) (b : Bool) (fs : List (Str × V)), xs = [.ref a, c] ∧ H dd = some (.xd fs) ∧ (∀ u, RelV c u → u = cv) ∧ PySem.W.kitOne X.K (.ref C) cv = some b ∧ Q (.bl b) H) := by
  rintro pins s σ H xs us Q I r ⟨c, cv, b, fs, rfl, hx, hcv, hk, q⟩
  obtain ⟨u1, u2, rfl, r1, r2⟩ := vals2 r
  cases r1
  obtain rfl := hcv _ r2
  obtain ⟨hget, _⟩ := I.pin (a, oe) (List.mem_append.mpr (.inl List.mem_cons_self))
  obtain ⟨vs, hv⟩ := hf
  obtain ⟨mA, hns, _⟩ := (show ObjOk X.prog X.w H s.heap dd (.xd fs) from I.hok dd _ hx)
  obtain ⟨od, ho, _⟩ := lookIn_ns hns
  have J : PySem.W.InstAt s.heap a oe C (some od) := ⟨hget, hz.1, by unfold PySem.W.notCls; rw [hv] <;> rfl, by rw [hz.2]; exact ho⟩
  exact PySem.W.kia_one (DX.kit_err (x := a) T) I.kIn J hk (fun z => nomatch z) fun tk => ⟨.bl b, H, I.kept (t' := tk) fun _ _ z => z, rfl, q⟩
theorem pisX {ok : Addr → Prop} {es : List Expr} {tes : TAd} {p : Pos} (T : ∀ C, ok C → ExcC X.K C) (hz : L2N.Zn cls d oe) (hf : ∃ vs, oe.data = .fields vs) (hg : Gl X "isinstance") (hm : X.mg "isinstance" = none) (ha : PAd (X.suite a ((a, oe) :: pn)) W (e :: es) tes)
    (he : starEach (e :: es) X.env = (false, eval e X.env) :: starEach es X.env := by rfl) (hpl : (backTo pos (starEach es X.env)).any (·.1) = false := by rfl) : PEd (X.suite a ((a, oe) :: pn)) W (.Call (.Name "isinstance" p) (e :: es) [] pos) (tIsE X.K ok a cls d tes) := by
  by_cases hC : ∃ C dd, cls = .ref C ∧ ok C ∧ d = some dd
  · obtain ⟨C, dd, rfl, k, rfl⟩ := hC
    refine pe_imp (pe_callB (X := X.suite a ((a, oe) :: pn)) (call_isX (T C k) hz.zc hf) hg hm (by rfl) ha (by decide) (by decide) he hpl) fun σ H Q ⟨F, δ, M, Qd, Xd, l, s, kq, kx, q⟩ => lowA_then l s kx q ⟨fun {ds M1 vs G H1} g l1 r1 h1 => ?_⟩
    match ds, vs, r1, h1 with
    | [.exc b C' dd' ns es, y], [v, w], .cons r (.cons r2 .nil), ⟨e1, e2, _, e3, cv, bb, hc, hk, qq⟩ =>
      cases r with
      | exc hx rs =>
        subst e1
        cases e2
        cases e3
        exact ⟨w, cv, bb, _, rfl, l1.sub.of hx, clsD_eq r2 hc, hk, kq.go g l1 (.bl bb) qq⟩
  · refine pe_imp (pe_callB (X := X.suite a ((a, oe) :: pn)) (r := fun _ _ _ => False) (fun _ _ _ _ _ _ _ _ _ z => z.elim) hg hm (by rfl) ha (by decide) (by decide) he hpl) fun σ H Q ⟨F, δ, M, Qd, Xd, l, s, kq, kx, q⟩ => lowA_then l s kx q ⟨fun {ds M1 vs G H1} g l1 r1 h1 => ?_⟩
    match ds, vs, r1, h1 with
    | [.exc b C' dd' ns es, y], [v, w], .cons r (.cons r2 .nil), ⟨e1, e2, k, e3, _⟩ => exact hC ⟨_, _, e2, k, e3⟩
/-- a def called there -/
abbrev FnHD (P : Program) (w : World) (K : PySem.W.Frag) (mg : Str → Option Value) (base : Heap) (k : Nat) (f : Addr) (fd : FuncData) (ps : List Str) (sp : SpD) : Prop := FnH P w K mg base (L2N.CX P w) k f fd ps (toSp K sp)
theorem pfnH {X : Cx} {k : Nat} {f : Addr} {fd : FuncData} {ps : List Str} {spd : SpD} {x : Str} {es : List Expr} {tes : TAd} {p : Pos} (F : FnHD X.prog X.w X.K X.mg X.base k f fd ps spd) (hr : RoomH k X.A) (hc : HotC X) (hg : Gl X x) (hm : X.mg x = some (.ref f)) (hk : PySem.W.keepIn X.K (.ref f) = true) (hb : Binds X.K fd ps [])
    (ha : PAd X W0 (e :: es) tes) (hdb : (x == ("__debug__" : Str)) = false := by decide) (he : starEach (e :: es) X.env = (false, eval e X.env) :: starEach es X.env := by rfl) (hpl : (backTo pos (starEach es X.env)).any (·.1) = false := by rfl) :
    PEd X W0 (.Call (.Name x p) (e :: es) [] pos) (tFn spd [] tes) := pe_imp (pe_callH (E := fun _ _ _ _ => False) F hr hc hg hm hk hb (fun σ => fun _ _ _ _ _ _ ⟨_, _, _, _, _, _, _, _, _, _, _, _, z⟩ => z.elim) ha hdb he hpl) fun σ H Q ⟨F, δ, M, Qd, Xd, l, s, kq, kx, h⟩ => lowA_then l s kx h ⟨fun {ds M1 vs G H1} g l1 r1 h1 => by
      rw [List.append_nil] at h1
      exact ⟨G, M1, ds, Qd, Xd, l1, r1, kq.mono g, kx.mono g, h1⟩⟩
end
/-- a def by its body, within a suite -/
theorem fn_dataH {P : Program} {w : World} {K : PySem.W.Frag} {mg : Str → Option Value} {base : Heap} {k : Nat} {f : Addr} {fd : FuncData} {name qual : Str} {params : Arguments} {body : List Stmt} {scope : Scope} {dvs : List V} {kws : List (Str × V)} {N ps : List Str} {spd : SpD} {td : TSd}
    (F : FunD K name qual params body scope dvs kws f fd) (S : FnScope N ps scope) (len : ∀ {ds M Qd Xd}, spd ds M Qd Xd → ds.length = ps.length)
    (hbody : ∀ (cdv : Value) (A : Around) (outer : List Env) (s : Shared) (H : Hp) (E : XK) (p : Addr × Obj), HotC (cxH (L2N.CX P w) P w K mg base N qual scope f cdv A outer s H E p) → RoomH k (A.deeper (envOfC qual scope s.heap.objs.size f cdv)) →
      PSsd (cxH (L2N.CX P w) P w K mg base N qual scope f cdv A outer s H E p) W0 body td)
    (pure_ : ∀ {ds M Qd Xd}, spd ds M Qd Xd → td (outD Qd X0) (startD N ds) M) : FnHD P w K mg base (k + 1) f fd ps spd := by
  obtain ⟨oc, od, dV, kV, doc, pm, an, cdv, ct, osl, rfl, lk, hcd, _, _⟩ := F.ex
  refine fn_ofH lk hcd S (fun vs H Q E ⟨G, M, ds, Qd, Xd, l, r, kq, kx, q⟩ => by rw [r.len]; exact len q) fun A outer s H vs Q E p hot hr ⟨G, M, ds, Qd, Xd, l, r, kq, kx, q⟩ => ?_
  refine ⟨_, hbody cdv A outer s H E p ⟨p, ⟨hot.1, hot.2⟩, List.mem_singleton.mpr rfl⟩ hr, G, startD N ds, M, outD Qd X0, l, start_rel r, ?_, pure_ q⟩
  have lt := lt_out (E := fun _ _ _ => False) kq (kx0 (K := K) (F := G))
  exact ⟨lt.nx, lt.rt, lt.bk, lt.ct, fun g s => lt.xx g s⟩
end DL
/-! The data layer: built-in functions. -/
namespace DL
open PySem PySem.Spec PyProof.Rows L2
variable [B : Obs]
section
variable {X : Cx} {W : WX} {K : PySem.W.Frag} {F H : Hp} {M : Md} {v : V} {d : D} {x : Str} {e a b : Expr} {es : List Expr} {pos p p2 : Pos} {tes : TAd} {te ta tb : TEd}
abbrev Rm : Type := List D → Md → VD → Prop
/-! ### len, abs, int, min, max -/
def lenD : Rm := fun ds M Q => match ds with
  | [d] => (match seqA M d with
    | some xs => Q (.int xs.length) M
    | none => match d with
      | .str y => y.length ≤ sizeLine ∧ Q (.int y.length) M
      | .scr ns => Q (.int ns.length) M
      | _ => False)
  | _ => False
theorem ok_len : OKC K (fun xs H Q => ∃ (x : V) (n : Nat), xs = [x] ∧ LenV K x H n ∧ Q (.int n) H) lenD := ⟨fun {F H M vs ds Qd Q} l rs k q => by
  unfold lenD at q
  split at q
  case h_2 => exact q.elim
  rename_i d
  cases rs with
  | cons r t =>
    cases t
    split at q
    · rename_i xs h
      obtain ⟨a, ws, rfl, p, r2⟩ := seqA_ok l r h
      refine ⟨.ref a, ws.length, rfl, ?_, by rw [r2.len]; exact k.go (.rfl' F) l (.int _) q⟩
      rcases p with p | p
      · exact .inl ⟨ws, .inl (.inl p), rfl⟩
      · exact .inr ⟨ws, p, rfl⟩
    · split at q
      · rename_i y _
        cases r with
        | str _ => exact ⟨.str y, y.length, rfl, ⟨q.1, rfl⟩, k.go (.rfl' F) l (.int _) q.2⟩
      · cases r with
        | scr h => exact ⟨_, _, rfl, .inl ⟨_, l.sub.sql h, rfl⟩, by rw [List.length_map]; exact k.go (.rfl' F) l (.int _) q⟩
      · exact q.elim⟩
def absD : Rm := fun ds M Q => match ds with
  | [.int i] => Q (.int (if i < 0 then -i else i)) M
  | _ => False
theorem ok_abs : OKC K (fun xs H Q => ∃ i, xs = [V.int i] ∧ Q (.int (if i < 0 then -i else i)) H) absD := ⟨fun {F H M vs ds Qd Q} l rs k q => by
  match ds, vs, rs, q with
  | [.int i], [_], .cons (.int _) .nil, q => exact ⟨i, rfl, k.go (.rfl' F) l (.int _) q⟩⟩
def intC : Rm := fun ds M Q => match ds with
  | [.int i] => Q (.int i) M
  | [.bl c] => Q (.int (if c then 1 else 0)) M
  | _ => False
theorem ok_int : OKC K (fun xs H Q => (∃ i, xs = [V.int i] ∧ Q (.int i) H) ∨ ∃ k, xs = [V.bl k] ∧ Q (.int (if k then 1 else 0)) H) intC := ⟨fun {F H M vs ds Qd Q} l rs k q => by
  match ds, vs, rs, q with
  | [.int i], [_], .cons (.int _) .nil, q => exact .inl ⟨i, rfl, k.go (.rfl' F) l (.int _) q⟩
  | [.bl c], [_], .cons (.bl _) .nil, q => exact .inr ⟨c, rfl, k.go (.rfl' F) l (.int _) q⟩⟩
def minD : Rm := fun ds M Q => match ds with
  | [.int i, .int j] => Q (.int (if j < i then j else i)) M
  | _ => False
theorem ok_min : OKC K (fun xs H Q => ∃ i j, xs = [V.int i, .int j] ∧ Q (.int (if j < i then j else i)) H) minD := ⟨fun {F H M vs ds Qd Q} l rs k q => by
  match ds, vs, rs, q with
  | [.int i, .int j], [_, _], .cons (.int _) (.cons (.int _) .nil), q => exact ⟨i, j, rfl, k.go (.rfl' F) l (.int _) q⟩⟩
def maxD : Rm := fun ds M Q => match ds with
  | [.int i, .int j] => Q (.int (if j > i then j else i)) M
  | _ => False
theorem ok_max : OKC K (fun xs H Q => ∃ i j, xs = [V.int i, .int j] ∧ Q (.int (if j > i then j else i)) H) maxD := ⟨fun {F H M vs ds Qd Q} l rs k q => by
  match ds, vs, rs, q with
  | [.int i, .int j], [_, _], .cons (.int _) (.cons (.int _) .nil), q => exact ⟨i, j, rfl, k.go (.rfl' F) l (.int _) q⟩⟩
def strD : Rm := fun ds M Q => match ds with
  | [.int i] => i.natAbs.log2 < 1920 ∧ Q (.str (toString i)) M
  | _ => False
theorem ok_str : OKC K (fun xs H Q => ∃ i, xs = [V.int i] ∧ i.natAbs.log2 < 1920 ∧ Q (.str (toString i)) H) strD := ⟨fun {F H M vs ds Qd Q} l rs k q => by
  match ds, vs, rs, q with
  | [.int i], [_], .cons (.int _) .nil, q => exact ⟨i, rfl, q.1, k.go (.rfl' F) l (.str _) q.2⟩⟩
/-! ### isinstance, built-in types -/
def tyN (M : Md) (d : D) : Option String := match d with
  | .non => some "NoneType"
  | .bl _ => some "bool"
  | .int _ => some "int"
  | .str _ => some "str"
  | .tup _ => some "tuple"
  | d => if (seqL M d).isSome then some "list" else none
def isB (t n : String) : Bool := t == n || (t == "bool" && n == "int")
abbrev tysL : List String := ["NoneType", "bool", "int", "str", "tuple", "list"]
theorem kitB_all : ∀ t ∈ tysL, ∀ n ∈ tysL, kitB t n = some (isB t n) := by decide +kernel
theorem tyN_mem {M : Md} {d : D} {t : String} (h : tyN M d = some t) : t ∈ tysL := by
  unfold tyN at h
  split at h <;> first
    | (cases h; decide)
    | (split at h
       · cases h
         decide
       · cases h)
theorem tyN_ok {t : String} (l : Rl K F H M) (r : Rp K F v d) (h : tyN M d = some t) : TyX K H v (.type t) := by
  have li : ∀ {d : D}, Rp K F v d → (if (seqL M d).isSome then some "list" else Option.none) = some t → TyX K H v (.type t) := fun {d} r h => by
    split at h
    · rename_i z
      cases h
      obtain ⟨xs, z⟩ := Option.isSome_iff_exists.mp z
      obtain ⟨a, vs, rfl, p, _⟩ := seqL_ok l r z
      exact .base (.lst p)
    · cases h
  cases d with
  | non =>
    cases h
    cases r
    exact .base .non
  | bl c =>
    cases h
    cases r
    exact .base (.bl c)
  | int i =>
    cases h
    cases r
    exact .base (.int i)
  | str y =>
    cases h
    cases r
    exact .base (.str y)
  | tup xs =>
    cases h
    cases r with
    | tup p q =>
      rcases l.sub.sqt p with (p | ⟨o, p⟩) | ⟨o, its, n, h1, h2, h3, h4, h5⟩
      · exact .base (.tup p)
      · exact .fTuple p
      · exact .kTuple h1 h2
  | _ => exact li r h
def isD : Rm := fun ds M Q => match ds with
  | [d, .ty n] => n ∈ tysL ∧ optP (tyN M d) fun t => Q (.bl (isB t n)) M
  | _ => False
theorem ok_is' : OKC K (rIsi K) isD := ⟨fun {F H M vs ds Qd Q} l rs k q => by
  match ds, vs, rs, q with
  | [d, .ty n], [v, _], .cons r (.cons (.ty _) .nil), ⟨hn, q⟩ =>
    obtain ⟨t, h, q⟩ := optP_out q
    exact ⟨v, .ty n, .type t, .type n, isB t n, rfl, .ty n, tyN_ok l r h, kit_ty (kitB_all t (tyN_mem h) n hn), k.go (.rfl' F) l (.bl _) q⟩⟩
/-! ### list(..), tuple(..), range(..) -/
def listF : Rm := fun ds M Q => match ds with
  | [d] => optP (seqA M d) fun xs => Q (.lst xs) M
  | _ => False
def listM : Rm := fun ds M Q => match ds with
  | [d] => optP (seqA M d) fun xs => ∀ p, M p = none → Q (.ref p) (put M p (.lst xs))
  | _ => False
abbrev rListOf (K : PySem.W.Frag) : List V → Hp → VK → Prop := fun xs H Q => ∃ p ys, xs = [V.ref p] ∧ (SqL K H p ys ∨ SqT K H p ys) ∧ ∀ l, H l = none → Q (.ref l) (upd H l (.lst ys))
theorem seq_or {a : Addr} {vs : List V} (p : H a = some (.lst vs) ∨ SqT K H a vs) : SqL K H a vs ∨ SqT K H a vs := p.imp (fun p => .inl (.inl p)) id
theorem ok_listF : OKC K (rListOf K) listF := ⟨fun {F H M vs ds Qd Q} l rs k q => by
  match ds, vs, rs, q with
  | [d], [v], .cons r .nil, q =>
    obtain ⟨xs, h, q⟩ := optP_out q
    obtain ⟨a, ws, rfl, p, r2⟩ := seqA_ok l r h
    refine ⟨a, ws, rfl, seq_or p, fun b hb => ?_⟩
    obtain ⟨l2, g⟩ := l.keep hb (.lst ws)
    exact k.go g l2 (.lst upd_same (r2.mono g)) q⟩
theorem ok_listM : OKC K (rListOf K) listM := ⟨fun {F H M vs ds Qd Q} l rs k q => by
  match ds, vs, rs, q with
  | [d], [v], .cons r .nil, q =>
    obtain ⟨xs, h, q⟩ := optP_out q
    obtain ⟨a, ws, rfl, p, r2⟩ := seqA_ok l r h
    refine ⟨a, ws, rfl, seq_or p, fun b hb => ?_⟩
    obtain ⟨n1, n2⟩ := l.free hb
    exact k.go (.rfl' F) (l.cellput (u := .lst ws) (c := .lst xs) n1 ⟨ws, upd_same, r2⟩) (.ref b) (q b n2)⟩
/-- a list, or a tuple that never changes -/
def seqB (M : Md) (d : D) : Option (List D) := match d with
  | .tup xs => some xs
  | d => seqL M d
theorem seqB_tup {xs : List D} : seqB M (.tup xs) = some xs := rfl
theorem seqB_lst {xs : List D} : seqB M (.lst xs) = some xs := rfl
theorem seqB_ref {a : Addr} {xs : List D} (h : M a = some (.lst xs)) : seqB M (.ref a) = some xs := by
  show (match M a with
    | some (MC.lst xs) => some xs
    | _ => Option.none) = some xs
  rw [h]
def tupleD : Rm := fun ds M Q => match ds with
  | [d] => optP (seqB M d) fun xs => Q (.tup xs) M
  | _ => False
theorem tuple_of {a : Addr} {ws : List V} {xs : List D} {Qd : VD} {Q : VK} (l : Rl K F H M) (k : Kv K F Qd Q) (p : H a = some (.lst ws)) (r2 : Rps K F ws xs) (q : Qd (.tup xs) M) : ∃ p ys, [V.ref a] = [V.ref p] ∧ ((SqL K H p ys ∧ ∀ l, H l = none → Q (.ref l) (upd H l (.tup ys))) ∨ (SqT K H p ys ∧ Q (.ref p) H)) :=
  ⟨a, ws, rfl, .inl ⟨.inl (.inl p), fun b hb => by
    obtain ⟨l2, g⟩ := l.keep hb (.tup ws)
    exact k.go g l2 (.tup (.inl (.inl upd_same)) (r2.mono g)) q⟩⟩
theorem ok_tuple : OKC K (fun xs H Q => ∃ p ys, xs = [V.ref p] ∧ ((SqL K H p ys ∧ ∀ l, H l = none → Q (.ref l) (upd H l (.tup ys))) ∨ (SqT K H p ys ∧ Q (.ref p) H))) tupleD := ⟨fun {F H M vs ds Qd Q} l rs k q => by
  match ds, vs, rs, q with
  | [d], [v], .cons r .nil, q =>
    obtain ⟨xs, h, qq⟩ := optP_out (show optP (seqB M d) (fun xs => Qd (.tup xs) M) from q)
    clear q
    cases d with
    | tup ys =>
      cases h
      cases r with
      | tup p r => exact ⟨_, _, rfl, .inr ⟨l.sub.sqt p, k.go (.rfl' F) l (.tup p r) qq⟩⟩
    | _ =>
      obtain ⟨a, ws, rfl, p, r2⟩ := seqL_ok l r (xs := xs) (by first | exact h | (cases h))
      exact tuple_of l k p r2 qq⟩
/-- tuple(xs), xs a list: a new tuple, its object without a dict of its own -/
theorem call_tuple_x : CallR X (.type "tuple") (fun xs H Q => ∃ p ys, xs = [.ref p] ∧ SqL X.K H p ys ∧ ∀ l o, H l = none → o.cls = .type "tuple" ∧ o.dict = none → Q (.ref l) (upd H l (.frz o (.tup ys)))) := by
  intro pins s σ H xs us Q I r h
  obtain ⟨p, ys, rfl, hq, q⟩ := h
  obtain ⟨u, rfl, rx⟩ := vals1 r
  cases rx
  obtain ⟨its, r', pl, hz⟩ := I.list hq
  have hlen := r'.length
  refine call_tuple_list pl.isList (fun h' kp => ?_) (by simp only [List.size_toArray] <;> omega)
  have I1 : Inv X pins σ H { s with heap := h' } := I.kept (t' := s.toks) kp
  have I2 : Inv X pins σ (upd H h'.objs.size (.frz { cls := .type "tuple", data := .seq its.toArray } (.tup ys))) { s with heap := h'.push { cls := .type "tuple", data := .seq its.toArray } } :=
    I1.laid (t' := s.toks) (fun b o e => Heap.get?_push_of_some _ e) (Nat.le_refl _) (show ObjOk X.prog X.w _ _ _ (.frz _ (.tup ys)) from ⟨Heap.get?_push_size _ rfl, hz, its, r', IsTup.new _ _⟩)
  exact ⟨.ref h'.objs.size, _, I2, rfl, q _ _ (I1.hok.fresh (Nat.le_refl _)) ⟨rfl, rfl⟩⟩
def tupleM : Rm := fun ds M Q => match ds with
  | [d] => optP (seqL M d) fun xs => ∀ p, M p = none → Q (.ref p) (put M p (.tux xs))
  | _ => False
theorem ok_tupleM : OKC K (fun xs H Q => ∃ p ys, xs = [V.ref p] ∧ SqL K H p ys ∧ ∀ l o, H l = none → o.cls = .type "tuple" ∧ o.dict = none → Q (.ref l) (upd H l (.frz o (.tup ys)))) tupleM := ⟨fun {F H M vs ds Qd Q} l rs k q => by
  match ds, vs, rs, q with
  | [d], [v], .cons r .nil, q =>
    obtain ⟨xs, h, qq⟩ := optP_out (show optP (seqL M d) (fun xs => ∀ p, M p = none → Qd (.ref p) (put M p (.tux xs))) from q)
    obtain ⟨a, ws, rfl, p, r2⟩ := seqL_ok l r h
    refine ⟨a, ws, rfl, .inl (.inl p), fun b o hb ho => ?_⟩
    obtain ⟨n1, n2⟩ := l.free hb
    exact k.go (.rfl' F) (l.cellput (u := .frz o (.tup ws)) (c := .tux xs) n1 ⟨o, ws, upd_same, ho, r2⟩) (.ref b) (qq b n2)⟩
theorem cr_range1 : CallR X (.type "range") (fun vs H Q => ∃ j, vs = [V.int j] ∧ ∀ p, H p = none → Q (.ref p) (upd H p (.rng 0 j))) := by
  rintro pins s σ H vs us Q I r ⟨j, rfl, q⟩
  obtain ⟨u, rfl, t, rfl⟩ := vals1 r
  refine call_range_1 ⟨.ref s.heap.objs.size, upd H s.heap.objs.size (.rng 0 j), I.laid (t' := s.toks + 1 + 1) (fun b o e => Heap.get?_push_of_some _ e) (Nat.le_refl _) ?_, rfl, q _ (I.hok.fresh (Nat.le_refl _))⟩
  exact ⟨s.toks, t, s.toks + 1, Heap.get?_push_size _ rfl⟩
def rangeD : Rm := fun ds M Q => match ds with
  | [.int j] => Q (.rng 0 j) M
  | [.int i, .int j] => Q (.rng i j) M
  | _ => False
abbrev rRange : List V → Hp → VK → Prop := fun vs H Q => (∃ j, vs = [V.int j] ∧ ∀ p, H p = none → Q (.ref p) (upd H p (.rng 0 j))) ∨ ∃ i j, vs = [V.int i, V.int j] ∧ ∀ p, H p = none → Q (.ref p) (upd H p (.rng i j))
theorem cr_range : CallR X (.type "range") rRange := cr_range1.or cr_range2
theorem ok_range : OKC K rRange rangeD := ⟨fun {F H M vs ds Qd Q} l rs k q => by
  match ds, vs, rs, q with
  | [.int j], [_], .cons (.int _) .nil, q => exact .inl ⟨j, rfl, fun b hb => by
      obtain ⟨l2, g⟩ := l.keep hb (.rng 0 j)
      exact k.go g l2 (.rng upd_same) q⟩
  | [.int i, .int j], [_, _], .cons (.int _) (.cons (.int _) .nil), q => exact .inr ⟨i, j, rfl, fun b hb => by
      obtain ⟨l2, g⟩ := l.keep hb (.rng i j)
      exact k.go g l2 (.rng upd_same) q⟩⟩
/-- list(range(e)) -/
def rgD (n : Int) : List D := (List.range n.toNat).map fun i => .int ((i : Nat) : Int)
def tLsRg (mu : Bool) (te : TEd) : TEd := fun Xd δ M Q => te Xd δ M fun d M1 => match d with
  | .int n => 0 ≤ n ∧ n ≤ 16777216 ∧ (if mu = true then ∀ p, M1 p = none → Q (.ref p) (put M1 p (.lst (rgD n))) else Q (.lst (rgD n)) M1)
  | _ => False
theorem rgV_rel {n : Int} : Rps K F (rgV 0 n) (rgD n) := by
  have e : rgV 0 n = ((List.range n.toNat).map fun i => ((i : Nat) : Int)).map V.int := by
    unfold rgV
    simp
  have e2 : rgD n = ((List.range n.toNat).map fun i => ((i : Nat) : Int)).map D.int := by
    unfold rgD
    simp
  rw [e, e2]
  exact Rps.ints _
theorem plsrg {mu : Bool} {pos3 : Pos} (c : X.calm = true) (hg : Gl X "list") (hm : X.mg "list" = none) (hgr : Gl X "range") (hmr : X.mg "range" = none) (h : PEd X W a te) (na : starEach [a] X.env = (false, eval a X.env) :: starEach [] X.env := by rfl)
    (na2 : starEach [.Call (.Name "range" p2) [a] [] pos] X.env = (false, eval (.Call (.Name "range" p2) [a] [] pos) X.env) :: starEach [] X.env := by rfl) : PEd X W (.Call (.Name "list" p) [.Call (.Name "range" p2) [a] [] pos] [] pos3) (tLsRg mu te) :=
  pe_imp (pe_listRg c hg hm (prg_1 hgr hmr h na) na2) fun σ H Q ⟨F, δ, M, Qd, Xd, l, s, k, kx, q⟩ => low_then l s kx q ⟨fun {d M1 v G H1} g l1 r1 h1 => by
    cases r1 with
    | int n =>
      obtain ⟨h1, h2, q1⟩ := h1
      refine ⟨n, rfl, RgOk.of_le (Int.le_refl 0) h2 (by omega) h1, fun b hb => ?_⟩
      · cases mu with
        | true =>
          obtain ⟨n1, n2⟩ := l1.free hb
          exact k.go g (l1.cellput (u := .lst (rgV 0 n)) (c := .lst (rgD n)) n1 ⟨_, upd_same, rgV_rel⟩) (.ref b) (q1 b n2)
        | false =>
          obtain ⟨l2, g2⟩ := l1.keep hb (.lst (rgV 0 n))
          exact k.go (g.then' g2) l2 (.lst upd_same rgV_rel) q1
    | _ => exact h1.elim⟩
end
end DL
/-! The data layer: own classes: fields, methods, making. -/
namespace DL
open PySem PySem.Spec PyProof.Rows L2
variable [B : Obs]
section
variable {X : Cx} {W : WX} {K : PySem.W.Frag} {F H : Hp} {M : Md} {v : V} {d : D} {x m f : Str} {o e a b : Expr} {es : List Expr} {pos p p2 pos' apos : Pos} {tes : TAd} {te to ta tb : TEd} {n k : Nat} {C g : Addr} {fd : FuncData} {ps : List Str} {spd : SpD}
/-! ### an object's fields -/
structure OKF (K : PySem.W.Frag) (C : Addr) (f : Str) : Prop where
  c : Cls K C
  n : NoAttr K C f
/-- the class and the fields of an object -/
def fldsD (M : Md) : D → Option (Addr × Flds)
  | .ins C ns ds => some (C, ns.zip ds)
  | .ref a => match M a with
    | some (.ins C fs) => some (C, fs)
    | _ => none
  | _ => none
theorem zip_none {f : Str} : ∀ {ns : List Str} {vs : List V} {ds : List D}, Rps K F vs ds → (ns.zip ds).lookup f = none → (ns.zip vs).lookup f = none
  | [], _, _, _, _ => rfl
  | n :: ns, [], _, .nil, _ => rfl
  | n :: ns, w :: vs, e :: ds, .cons r t, h => by
    rw [List.zip_cons_cons, List.lookup_cons] at h ⊢
    cases q : (f == n) with
    | true =>
      rw [q] at h
      cases h
    | false =>
      rw [q] at h
      exact zip_none t h
theorem zip_paired : ∀ {ns : List Str} {vs : List V} {ds : List D}, Rps K F vs ds → Rfs K F (ns.zip vs) (ns.zip ds)
  | [], _, _, _ => .nil
  | n :: ns, [], _, .nil => .nil
  | n :: ns, w :: vs, e :: ds, .cons r t => .cons ⟨rfl, r⟩ (zip_paired t)
theorem flds_ok (l : Rl K F H M) (r : Rp K F v d) {C : Addr} {fs : Flds} (h : fldsD M d = some (C, fs)) : ∃ a dx vs, v = .ref a ∧ H a = some (.ins C dx vs) ∧ Rfs K F vs fs := by
  cases r with
  | ins p q =>
    cases h
    exact ⟨_, _, _, rfl, l.sub.of p, zip_paired q⟩
  | ref a =>
    have h' : (match M a with
      | some (MC.ins C fs) => some (C, fs)
      | _ => Option.none) = some (C, fs) := h
    cases e : M a with
    | none =>
      rw [e] at h'
      cases h'
    | some c =>
      rw [e] at h'
      cases c with
      | ins D' gs =>
        cases h'
        obtain ⟨_, dx, vs, p, q⟩ := l.cell a _ e
        exact ⟨a, dx, vs, rfl, p, q⟩
      | _ => cases h'
  | _ => cases h
theorem Rfs.look {vs : List (Str × V)} {fs : Flds} (h : Rfs K F vs fs) {f : Str} {u : D} (e : fs.lookup f = some u) : ∃ w, vs.lookup f = some w ∧ Rp K F w u := by
  induction vs generalizing fs with
  | nil =>
    cases h
    cases e
  | cons q vs ih =>
    cases h with
    | @cons _ y _ _ h t =>
      obtain ⟨n1, w1⟩ := q
      obtain ⟨n2, w2⟩ := y
      obtain ⟨e1, e2⟩ := h
      cases (show n1 = n2 from e1)
      rw [List.lookup_cons] at e ⊢
      cases z : (f == n1) with
      | true =>
        rw [z] at e
        cases e
        exact ⟨w1, rfl, e2⟩
      | false =>
        rw [z] at e
        exact ih t e
theorem Rfs.look0 {vs : List (Str × V)} {fs : Flds} (h : Rfs K F vs fs) {f : Str} (e : fs.lookup f = none) : vs.lookup f = none := by
  induction vs generalizing fs with
  | nil => rfl
  | cons q vs ih =>
    cases h with
    | @cons _ y _ _ h t =>
      obtain ⟨n1, w1⟩ := q
      obtain ⟨n2, w2⟩ := y
      obtain ⟨e1, e2⟩ := h
      cases (show n1 = n2 from e1)
      rw [List.lookup_cons] at e ⊢
      cases z : (f == n1) with
      | true =>
        rw [z] at e
        cases e
      | false =>
        rw [z] at e
        exact ih t e
/-- e.f -/
def tFd (K : PySem.W.Frag) (f : Str) (te : TEd) : TEd := fun Xd δ M Q => te Xd δ M fun d M1 => optP (fldsD M1 d) fun cf => OKF K cf.1 f ∧ optP (cf.2.lookup f) fun u => Q u M1
theorem pfld (he : PEd X W e te) (hb : attributeBase e f X.env (eval e X.env) = eval e X.env := by rfl) : PEd X W (.Attribute e f pos) (tFd X.K f te) := pe_imp (pe_fld he hb) fun σ H Q ⟨F, δ, M, Qd, Xd, l, s, k, kx, q⟩ =>
  low_then l s kx q ⟨fun {d M1 v G H1} g1 l1 r1 q => by
    obtain ⟨⟨C, fs⟩, h, ok, q⟩ := optP_out q
    obtain ⟨u, lk, q1⟩ := optP_out q
    obtain ⟨a, dx, vs, rfl, ha, r2⟩ := flds_ok l1 r1 h
    obtain ⟨w, hw, rw_⟩ := r2.look lk
    exact ⟨a, C, dx, vs, w, rfl, ha, ok.c, ok.n, hw, k.go g1 l1 rw_ q1⟩⟩
/-- o.f = e, o a cell -/
def putD (f : Str) (y : D) : Flds → Flds
  | [] => [(f, y)]
  | (g, z) :: r => if g = f then (g, y) :: r else (g, z) :: putD f y r
theorem putF_rel {vs : List (Str × V)} {fs : Flds} (h : Rfs K F vs fs) {y : V} {u : D} (r : Rp K F y u) : Rfs K F (putF f y vs) (putD f u fs) := by
  induction vs generalizing fs with
  | nil =>
    cases h
    exact .cons ⟨rfl, r⟩ .nil
  | cons q vs ih =>
    cases h with
    | @cons _ z _ _ h t =>
      obtain ⟨n1, w1⟩ := q
      obtain ⟨n2, w2⟩ := z
      obtain ⟨e1, e2⟩ := h
      cases (show n1 = n2 from e1)
      unfold putF putD
      by_cases c : n1 = f
      · rw [if_pos c, if_pos c]
        exact .cons ⟨rfl, r⟩ t
      · rw [if_neg c, if_neg c]
        exact .cons ⟨rfl, e2⟩ (ih t)
def tSf (K : PySem.W.Frag) (f : Str) (to te : TEd) : TSd := fun E δ M => te (E.xk δ) δ M fun y M1 => to (E.xk δ) δ M1 fun d M2 => match d with
  | .ref a => match M2 a with
    | some (.ins C fs) => OKF K C f ∧ fs.length < 1000 ∧ E.nx δ (put M2 a (.ins C (putD f y fs)))
    | _ => False
  | _ => False
theorem sfld (ho : PEd X W o to) (he : PEd X W e te) (hs : swapsWith e (some (.Attribute o f pos')) pos.line X.env = pure false := by rfl) : PSd X W (.Assign [.Attribute o f pos'] e pos) (tSf X.K f to te) := ps_imp (ps_fld ho he hs) fun E σ H ⟨F, δ, M, Dd, l, s, lt, q⟩ =>
  low_then l s (lt.xx (.rfl' F) s) q ⟨fun {y M1 v1 G1 H1} g1 l1 r1 q1 => low_then l1 (s.mono g1) (lt.xx g1 (s.mono g1)) q1 ⟨fun {d M2 v2 G2 H2} g2 l2 r2 q2 => by
    cases r2 with
    | ref a =>
      have q2 : (match M2 a with
          | some (MC.ins C fs) => OKF X.K C f ∧ fs.length < 1000 ∧ Dd.nx δ (put M2 a (.ins C (putD f y fs)))
          | _ => False) := q2
      split at q2
      case h_2 => exact q2.elim
      rename_i C fs h
      obtain ⟨ok, hz, q⟩ := q2
      obtain ⟨hf, dx, vs, hh, rr⟩ := l2.cell a _ h
      refine ⟨a, C, dx, vs, rfl, hh, ok.c, ok.n, ?_, ?_⟩
      · have e : vs.length = fs.length := Paired.length rr
        omega
      · exact lt.nx.go (g1.then' g2) (l2.cellput (u := .ins C dx (putF f v1 vs)) (c := .ins C (putD f y fs)) hf ⟨dx, _, upd_same, putF_rel rr (r1.mono g2)⟩) (s.mono (g1.then' g2)) q
    | _ => exact q2.elim⟩⟩
/-! ### methods -/
/-- what a method's call asks of the object -/
def objD (M : Md) (C : Addr) (m : Str) (d : D) : Prop := ∃ fs, fldsD M d = some (C, fs) ∧ fs.lookup m = none
def tMh (C : Addr) (m : Str) (sp : SpD) (dds : List D) (to : TEd) (tes : TAd) : TEd := fun Xd δ M Q => to Xd δ M fun d M1 => objD M1 C m d ∧ tes Xd δ M1 fun ds M2 => sp (d :: (ds ++ dds)) M2 Q Xd
theorem pmethD {ds : List Value} {dvs : List V} {dds : List D} {pl : Sem Bool} (c : Cd X W n) (F : FnD X.prog X.w X.K X.mg X.base k g fd ps spd) (hk : k ≤ n) (cl : Cls X.K C) (hm : Meth X.K C m g) (hb : Binds X.K fd ps ds) (hd : Vals dvs ds) (hq : ∀ F, Rps X.K F dvs dds) (ho : PEd X W o to) (ha : PAd X W (e :: es) tes)
    (hst : starEach (e :: es) X.env = (false, eval e X.env) :: starEach es X.env := by rfl) (hpl : (backTo pos (starEach es X.env)).any (·.1) = false := by rfl)
    (ht : eval (.Call (.Attribute o m apos) (e :: es) [] pos) X.env = (do let ov ← eval o X.env; standAt apos.atName; let (f, first) ← holding [ov] (getMethod ov m pl); callWith pos f first (backTo pos (starEach (e :: es) X.env)) (backToKw pos (keywordEach [] X.env))) := by rfl) :
    PEd X W (.Call (.Attribute o m apos) (e :: es) [] pos) (tMh C m spd dds to tes) := ⟨fun pins s σ H Q I ⟨F0, δ, M, Qd, Xd, l, sl, kq, kx, q⟩ => by
  refine PySem.W.methodCall_KW (pl := pl) (thn (ho.run pins s σ H (fun x H1 => ∃ a dx fs, x = .ref a ∧ H1 a = some (.ins C dx fs) ∧ fs.lookup m = none ∧ lowA X.K W tes σ H1 fun vs H2 => toSp X.K spd (x :: (vs ++ dvs)) H2 Q (WE W σ)) I
    (low_then l sl kx q ⟨fun {d M1 v G H1} g1 l1 r1 ⟨⟨fs, h, hl⟩, q1⟩ => ?_⟩)) fun u s1 ⟨x, H1, I1, rx, a, dx, fs, ex, ea, hl, q⟩ => ?_) ht
  · obtain ⟨a, dx, vs, rfl, ha, r2⟩ := flds_ok l1 r1 h
    exact ⟨a, dx, vs, rfl, ha, r2.look0 hl, lowA_then l1 (sl.mono g1) (kx.mono g1) q1 ⟨fun {ds2 M2 vs2 G2 H2} g2 l2 rs q2 => ⟨G2, M2, _, Qd, Xd, l2, .cons (r1.mono g2) (rs.app (hq G2)), kq.mono (g1.then' g2), kx.mono (g1.then' g2), q2⟩⟩⟩
  · subst ex
    obtain rfl : u = Value.ref a := rx
    refine getmeth_ok I1 ea cl hm hl (PySem.W.callWith_K (first := [.ref a]) (h₀ := X.base) I.ok.mod.kin hm.kp (thn (ha.run pos pins s1 σ H1 _ I1 q) fun us s2 ⟨vs, H2, I2, r, q2⟩ => ⟨I2.kIn, ?_⟩) hst hpl)
    exact goes_fn (us := .ref a :: us) (vs := .ref a :: vs) c F hk hb hd I2 (.cons rfl r) q2⟩
theorem pmeth {pl : Sem Bool} (c : Cd X W n) (F : FnD X.prog X.w X.K X.mg X.base k g fd ps spd) (hk : k ≤ n) (cl : Cls X.K C) (hm : Meth X.K C m g) (hb : Binds X.K fd ps []) (ho : PEd X W o to) (ha : PAd X W (e :: es) tes)
    (hst : starEach (e :: es) X.env = (false, eval e X.env) :: starEach es X.env := by rfl) (hpl : (backTo pos (starEach es X.env)).any (·.1) = false := by rfl)
    (ht : eval (.Call (.Attribute o m apos) (e :: es) [] pos) X.env = (do let ov ← eval o X.env; standAt apos.atName; let (f, first) ← holding [ov] (getMethod ov m pl); callWith pos f first (backTo pos (starEach (e :: es) X.env)) (backToKw pos (keywordEach [] X.env))) := by rfl) :
    PEd X W (.Call (.Attribute o m apos) (e :: es) [] pos) (tMh C m spd [] to tes) := pmethD c F hk cl hm hb .nil (fun _ => .nil) ho ha hst hpl ht
theorem pmeth0 {pl : Sem Bool} (c : Cd X W n) (F : FnD X.prog X.w X.K X.mg X.base k g fd ps spd) (hk : k ≤ n) (cl : Cls X.K C) (hm : Meth X.K C m g) (hb : Binds X.K fd ps []) (ho : PEd X W o to)
    (ht : eval (.Call (.Attribute o m apos) [] [] pos) X.env = (do let ov ← eval o X.env; standAt apos.atName; let (f, first) ← holding [ov] (getMethod ov m pl); callWith pos f first (backTo pos (starEach [] X.env)) (backToKw pos (keywordEach [] X.env))) := by rfl) :
    PEd X W (.Call (.Attribute o m apos) [] [] pos) (tMh C m spd [] to tN0) := ⟨fun pins s σ H Q I ⟨F0, δ, M, Qd, Xd, l, sl, kq, kx, q⟩ => by
  refine PySem.W.methodCall_KW (pl := pl) (thn (ho.run pins s σ H (fun x H1 => ∃ a dx fs, x = .ref a ∧ H1 a = some (.ins C dx fs) ∧ fs.lookup m = none ∧ toSp X.K spd [x] H1 Q (WE W σ)) I
    (low_then l sl kx q ⟨fun {d M1 v G H1} g1 l1 r1 ⟨⟨fs, h, hl⟩, q1⟩ => ?_⟩)) fun u s1 ⟨x, H1, I1, rx, a, dx, fs, ex, ea, hl, q⟩ => ?_) ht
  · obtain ⟨a, dx, vs, rfl, ha, r2⟩ := flds_ok l1 r1 h
    exact ⟨a, dx, vs, rfl, ha, r2.look0 hl, G, M1, _, Qd, Xd, l1, .cons r1 .nil, kq.mono g1, kx.mono g1, q1⟩
  · subst ex
    obtain rfl : u = Value.ref a := rx
    exact getmeth_ok I1 ea cl hm hl (PySem.W.callWith_K0 (first := [.ref a]) I1.kIn hm.kp (goes_fn (us := [.ref a]) (vs := [.ref a]) c F hk hb .nil I1 (.cons rfl .nil) q))⟩
/-! ### making an instance; what is made may be told otherwise: as one that never changes -/
def tMk (C : Addr) (sp : SpD) (dds : List D) (tes : TAd) : TEd := fun Xd δ M Q => tes Xd δ M fun ds M1 => ∀ a, M1 a = none → sp (.ref a :: (ds ++ dds)) (put M1 a (.ins C [])) (fun d M2 => d = .non ∧ ∃ M3 d3, Fin M2 (.ref a) M3 d3 ∧ Q d3 M3) Xd
theorem make_run {pins : List (Addr × Obj)} {σ : L2.St} {H : Hp} {s : Shared} {Q : VK} {us ds : List Value} {vs dvs : List V} {sp : Sp} (c : Cd X W n) (Mk_ : Mk X.K C g) (F : FnG X.prog X.w X.K X.mg X.base k g fd ps sp) (hk : k + 1 ≤ n) (hb : Binds X.K fd ps ds) (hd : Vals dvs ds) (I : Inv X pins σ H s) (r : Vals vs us)
    (h : ∀ x dx, H x = none → H dx = none → dx ≠ x → sp (.ref x :: (vs ++ dvs)) (upd (upd H dx (.own x)) x (.ins C dx [])) (fun v H2 => v = .non ∧ Q (.ref x) H2) (WE W σ)) : wpAny (model X.prog X.w) X.A (call (.ref C) us) (EP X pins σ Q) X.xe s := by
  have hq := h (s.heap.objs.size + 1) s.heap.objs.size (I.hok.fresh (Nat.le_succ _)) (I.hok.fresh (Nat.le_refl _)) (Nat.ne_of_lt (Nat.lt_succ_self _))
  have I2 := Inv.made (C := C) I
  have r2 : Vals (V.ref (s.heap.objs.size + 1) :: (vs ++ dvs)) (Value.ref (s.heap.objs.size + 1) :: (us ++ ds)) := .cons rfl (r.append hd)
  have len : (Value.ref (s.heap.objs.size + 1) :: us ++ ds).length = ps.length := r2.length.symm.trans (F.many hq)
  refine wpAny_call (make_map (f := g) I.kIn Mk_.makes Mk_.init (beq_iff_eq.mp Mk_.fn) (codeAny_mono (F.goes ((c.rm.mono hk).make C us []) (guards_make c.gd) (I2.env0.make C us []) (hb _ (Value.ref (s.heap.objs.size + 1) :: us) I2.kIn len) r2 hq) fun r s' hq' => ?_))
  match r, hq' with
  | .error e, hq' => exact L2N.passAt c.tk σ pins _ _ e s' I2 hq'
  | .ok (.ret u), hq' =>
    obtain ⟨v, H', I3, rv, ev, q3⟩ := I2.after hq'
    subst ev
    exact ⟨rv, ⟨V.ref (s.heap.objs.size + 1), H', I3, rfl, q3⟩⟩
  | .ok .next, hq' => exact hq'.elim
  | .ok .brk, hq' => exact hq'.elim
  | .ok .cont, hq' => exact hq'.elim
theorem pmakeD {ds : List Value} {dvs : List V} {dds : List D} (c : Cd X W n) (Mk_ : Mk X.K C g) (F : FnD X.prog X.w X.K X.mg X.base k g fd ps spd) (hk : k + 1 ≤ n) (hg : Gl X x) (hm : X.mg x = some (.ref C)) (hb : Binds X.K fd ps ds) (hd : Vals dvs ds) (hq : ∀ F, Rps X.K F dvs dds) (ha : PAd X W (e :: es) tes)
    (hdb : (x == ("__debug__" : Str)) = false := by decide) (he : starEach (e :: es) X.env = (false, eval e X.env) :: starEach es X.env := by rfl) (hpl : (backTo pos (starEach es X.env)).any (·.1) = false := by rfl) : PEd X W (.Call (.Name x p) (e :: es) [] pos) (tMk C spd dds tes) :=
  ⟨fun pins s σ H Q I ⟨F0, δ, M, Qd, Xd, l, sl, kq, kx, q⟩ => wpAny_Call_Name_kw (ld_glob I hg hm (PySem.W.callWith_K (h₀ := X.base) I.ok.mod.kin Mk_.kp (thn (ha.run pos pins s σ H (fun vs H1 => ∀ x dx, H1 x = none → H1 dx = none → dx ≠ x → toSp X.K spd (.ref x :: (vs ++ dvs)) (upd (upd H1 dx (.own x)) x (.ins C dx [])) (fun v H2 => v = .non ∧ Q (.ref x) H2) (WE W σ)) I
    (lowA_then l sl kx q ⟨fun {ds2 M1 vs G H1} g1 l1 r1 q1 => fun x dx hx hdx hne => by
      obtain ⟨n1, n2⟩ := l1.free hx
      have l2 := (l1.lost hdx (.own x)).cellput (p := x) (u := .ins C dx []) (c := .ins C []) n1 ⟨dx, [], upd_same, .nil⟩
      exact ⟨G, _, _, _, Xd, l2, .cons (.ref x) (r1.app (hq G)), ⟨fun {d M2 v G2 H2} g2 l3 r3 ⟨e3, M3, d3, f3, q3⟩ => by
        subst e3
        cases r3
        obtain ⟨J, j, l4, r4⟩ := f3.go l3 (.ref x)
        exact ⟨rfl, kq.go (g1.then' (g2.then' j)) l4 r4 q3⟩⟩, kx.mono g1, q1 x n2⟩⟩)) fun us s1 ⟨vs, H1, I1, r, q⟩ => ⟨I1.kIn, make_run c Mk_ F hk hb hd I1 r q⟩) he hpl) hdb)⟩
theorem pmake (c : Cd X W n) (Mk_ : Mk X.K C g) (F : FnD X.prog X.w X.K X.mg X.base k g fd ps spd) (hk : k + 1 ≤ n) (hg : Gl X x) (hm : X.mg x = some (.ref C)) (hb : Binds X.K fd ps []) (ha : PAd X W (e :: es) tes)
    (hdb : (x == ("__debug__" : Str)) = false := by decide) (he : starEach (e :: es) X.env = (false, eval e X.env) :: starEach es X.env := by rfl) (hpl : (backTo pos (starEach es X.env)).any (·.1) = false := by rfl) : PEd X W (.Call (.Name x p) (e :: es) [] pos) (tMk C spd [] tes) :=
  pmakeD c Mk_ F hk hg hm hb .nil (fun _ => .nil) ha hdb he hpl
end
/-! ### a cell that never changes from now on -/
section
variable {M : Md} {a : Addr}
/-- what is not said any longer -/
theorem Fin.less {d : D} {M' : Md} (h : ∀ a c, M' a = some c → M a = some c) : Fin M d M' d := ⟨fun l r => ⟨_, .rfl' _, l.less h, r⟩⟩
theorem Fin.trans {M M1 M2 : Md} {d d1 d2 : D} (p : Fin M d M1 d1) (q : Fin M1 d1 M2 d2) : Fin M d M2 d2 := ⟨fun l r => by
  obtain ⟨G, g, l1, r1⟩ := p.go l r
  obtain ⟨J, j, l2, r2⟩ := q.go l1 r1
  exact ⟨J, g.then' j, l2, r2⟩⟩
theorem Fin.lst {ds : List D} (h : M a = some (.lst ds)) : Fin M (.ref a) (cut M a) (.lst ds) := ⟨fun {K F H v} l r => by
  cases r
  obtain ⟨hf, vs, hh, rr⟩ := l.cell a _ h
  obtain ⟨l2, g⟩ := l.froze hh hf
  exact ⟨_, g, l2, .lst upd_same (rr.mono g)⟩⟩
theorem Fin.ins {C : Addr} {fs : Flds} (h : M a = some (.ins C fs)) : Fin M (.ref a) (cut M a) (.ins C (fs.map (·.1)) (fs.map (·.2))) := ⟨fun {K F H v} l r => by
  cases r
  obtain ⟨hf, dx, vs, hh, rr⟩ := l.cell a _ h
  obtain ⟨l2, g⟩ := l.froze hh hf
  obtain ⟨e1, e2⟩ := (Rfs.mono g rr).split
  exact ⟨_, g, l2, .ins (dx := dx) (by rw [upd_same]; exact congrArg (fun z => some (HO.ins C dx z)) e1) e2⟩⟩
/-- .. within a slot -/
theorem Vs.less {δ : SD} {M' : Md} (h : ∀ a c, M' a = some c → M a = some c) : Vs δ M δ M' := ⟨fun l s => ⟨_, .rfl' _, l.less h, s⟩⟩
theorem Vs.trans {δ δ1 δ2 : SD} {M M1 M2 : Md} (p : Vs δ M δ1 M1) (q : Vs δ1 M1 δ2 M2) : Vs δ M δ2 M2 := ⟨fun l r => by
  obtain ⟨G, g, l1, r1⟩ := p.go l r
  obtain ⟨J, j, l2, r2⟩ := q.go l1 r1
  exact ⟨J, g.then' j, l2, r2⟩⟩
theorem Vs.fin {δ : SD} {M' : Md} {d d' : D} {i : Nat} (h : δ[i]? = some (some d)) (f : Fin M d M' d') : Vs δ M (δ.set i (some d')) M' := ⟨fun {K F H σ} l s => by
  obtain ⟨v, hv, r⟩ := s.get h
  obtain ⟨G, g, l2, r2⟩ := f.go l r
  refine ⟨G, g, l2, ?_⟩
  have e : σ = σ.set i (some v) := by
    apply List.ext_getElem?
    intro j
    rw [List.getElem?_set]
    split
    · rename_i z
      subst z
      split
      · exact hv
      · rename_i z
        rw [List.getElem?_eq_none (by omega)]
    · rfl
  rw [e]
  exact (s.mono g).put' r2 i⟩
end
end DL
/-! The data layer: short rules for printed walks. -/
namespace DL
open PySem PySem.Spec PyProof.Rows L2
variable [B : Obs]
/-- the def x keeps the promise sp, with room k -/
structure Has (P : Program) (w : World) (K : PySem.W.Frag) (mg : Str → Option Value) (base : Heap) (k : Nat) (x : Str) (ps : List Str) (sp : SpD) : Prop where
  ex : ∃ f fd, FnD P w K mg base k f fd ps sp ∧ mg x = some (.ref f) ∧ PySem.W.keepIn K (.ref f) = true ∧ Binds K fd ps []
/-- .. within an except suite -/
structure HasH (P : Program) (w : World) (K : PySem.W.Frag) (mg : Str → Option Value) (base : Heap) (k : Nat) (x : Str) (ps : List Str) (sp : SpD) : Prop where
  ex : ∃ f fd, FnHD P w K mg base k f fd ps sp ∧ mg x = some (.ref f) ∧ PySem.W.keepIn K (.ref f) = true ∧ Binds K fd ps []
/-- the method m of the class at C -/
structure HasM (P : Program) (w : World) (K : PySem.W.Frag) (mg : Str → Option Value) (base : Heap) (k : Nat) (C : Addr) (m : Str) (ps : List Str) (sp : SpD) : Prop where
  cl : Cls K C
  ex : ∃ f fd, FnD P w K mg base k f fd ps sp ∧ Meth K C m f ∧ Binds K fd ps []
/-- the class x at C, made by its __init__ -/
structure HasC (P : Program) (w : World) (K : PySem.W.Frag) (mg : Str → Option Value) (base : Heap) (k : Nat) (x : Str) (C : Addr) (ps : List Str) (sp : SpD) : Prop where
  at_ : mg x = some (.ref C)
  ex : ∃ f fd, FnD P w K mg base k f fd ps sp ∧ Mk K C f ∧ Binds K fd ps []
/-- the error x at C with the field f -/
structure HasE (P : Program) (w : World) (K : PySem.W.Frag) (mg : Str → Option Value) (base : Heap) (x : Str) (C : Addr) (f : Str) : Prop where
  at_ : mg x = some (.ref C)
  ex : ∀ X : Cx, X.prog = P → X.w = w → X.K = K → X.mg = mg → X.base = base → ∃ fI fd, DX.ErrT X C fI fd f
section
variable {X : Cx} {W : WX} {n k : Nat} {x m y : Str} {ps : List Str} {sp : SpD} {o e a b : Expr} {es : List Expr} {pos p apos pos2 : Pos} {te to : TEd} {tes : TAd} {C : Addr}
theorem pv (i : Nat) (hN : X.N[i]? = some x := by rfl) (hv : Vis X.env.scope x := by first | exact .inl rfl | exact .inr (.inl rfl) | exact .inr (.inr rfl)) (hd : (x == ("__debug__" : Str)) = false := by decide) (hcd : (x == ("__classdict__" : Str)) = false := by decide) : PEd X W (.Name x pos) (tV i) := pvd hN hv hd hcd
theorem pcall (c : Cd X W n) (G : Has X.prog X.w X.K X.mg X.base k x ps sp) (ha : PAd X W (e :: es) tes) (hk : k ≤ n := by decide) (hg : Gl X x := by rfl)
    (hdb : (x == ("__debug__" : Str)) = false := by decide) (he : starEach (e :: es) X.env = (false, eval e X.env) :: starEach es X.env := by rfl) (hpl : (backTo pos (starEach es X.env)).any (·.1) = false := by rfl) : PEd X W (.Call (.Name x p) (e :: es) [] pos) (tFn sp [] tes) := by
  obtain ⟨f, fd, F, hm, kp, hb⟩ := G.ex
  exact pfn c F hk hg hm kp hb ha hdb he hpl
theorem pcall0 (c : Cd X W n) (G : Has X.prog X.w X.K X.mg X.base k x ps sp) (hk : k ≤ n := by decide) (hg : Gl X x := by rfl) (hdb : (x == ("__debug__" : Str)) = false := by decide) : PEd X W (.Call (.Name x p) [] [] pos) (tFn sp [] tN0) := by
  obtain ⟨f, fd, F, hm, kp, hb⟩ := G.ex
  exact pfn0 c F hk hg hm kp hb hdb
theorem pcallH (G : HasH X.prog X.w X.K X.mg X.base k x ps sp) (hr : L2H.RoomH k X.A) (hc : L2H.HotC X) (ha : PAd X W0 (e :: es) tes) (hg : Gl X x := by rfl)
    (hdb : (x == ("__debug__" : Str)) = false := by decide) (he : starEach (e :: es) X.env = (false, eval e X.env) :: starEach es X.env := by rfl) (hpl : (backTo pos (starEach es X.env)).any (·.1) = false := by rfl) : PEd X W0 (.Call (.Name x p) (e :: es) [] pos) (tFn sp [] tes) := by
  obtain ⟨f, fd, F, hm, kp, hb⟩ := G.ex
  exact pfnH F hr hc hg hm kp hb ha hdb he hpl
theorem pmcall {pl : Sem Bool} (c : Cd X W n) (G : HasM X.prog X.w X.K X.mg X.base k C m ps sp) (ho : PEd X W o to) (ha : PAd X W (e :: es) tes) (hk : k ≤ n := by decide)
    (hst : starEach (e :: es) X.env = (false, eval e X.env) :: starEach es X.env := by rfl) (hpl : (backTo pos (starEach es X.env)).any (·.1) = false := by rfl)
    (ht : eval (.Call (.Attribute o m apos) (e :: es) [] pos) X.env = (do let ov ← eval o X.env; standAt apos.atName; let (f, first) ← holding [ov] (getMethod ov m pl); callWith pos f first (backTo pos (starEach (e :: es) X.env)) (backToKw pos (keywordEach [] X.env))) := by rfl) :
    PEd X W (.Call (.Attribute o m apos) (e :: es) [] pos) (tMh C m sp [] to tes) := by
  obtain ⟨f, fd, F, hm, hb⟩ := G.ex
  exact pmeth c F hk G.cl hm hb ho ha hst hpl ht
theorem pmcall0 {pl : Sem Bool} (c : Cd X W n) (G : HasM X.prog X.w X.K X.mg X.base k C m ps sp) (ho : PEd X W o to) (hk : k ≤ n := by decide)
    (ht : eval (.Call (.Attribute o m apos) [] [] pos) X.env = (do let ov ← eval o X.env; standAt apos.atName; let (f, first) ← holding [ov] (getMethod ov m pl); callWith pos f first (backTo pos (starEach [] X.env)) (backToKw pos (keywordEach [] X.env))) := by rfl) :
    PEd X W (.Call (.Attribute o m apos) [] [] pos) (tMh C m sp [] to tN0) := by
  obtain ⟨f, fd, F, hm, hb⟩ := G.ex
  exact pmeth0 c F hk G.cl hm hb ho ht
theorem pnew (c : Cd X W n) (G : HasC X.prog X.w X.K X.mg X.base k x C ps sp) (ha : PAd X W (e :: es) tes) (hk : k + 1 ≤ n := by decide) (hg : Gl X x := by rfl)
    (hdb : (x == ("__debug__" : Str)) = false := by decide) (he : starEach (e :: es) X.env = (false, eval e X.env) :: starEach es X.env := by rfl) (hpl : (backTo pos (starEach es X.env)).any (·.1) = false := by rfl) : PEd X W (.Call (.Name x p) (e :: es) [] pos) (tMk C sp [] tes) := by
  obtain ⟨f, fd, F, hm, hb⟩ := G.ex
  exact pmake c hm F hk hg G.at_ hb ha hdb he hpl
theorem srai {f : Str} (c : Cd X W n) (G : HasE X.prog X.w X.K X.mg X.base y C f) (ha : PAd X W [e] tes) (hn : 2 ≤ n := by decide) (hg : Gl X y := by rfl)
    (hdb : (y == ("__debug__" : Str)) = false := by decide) (he : starEach (e :: []) X.env = (false, eval e X.env) :: starEach [] X.env := by rfl) (hpl : (backTo pos (starEach [] X.env)).any (·.1) = false := by rfl) : PSd X W (.Raise (some (.Call (.Name y p) [e] [] pos)) none pos2) (DX.tRs C f tes) := by
  obtain ⟨fI, fd, T⟩ := G.ex X rfl rfl rfl rfl rfl
  exact DX.sraise c hn T hg G.at_ ha hdb he hpl
/-- built-in functions, by the fact that the program has none of that name -/
theorem pblt {id : String} {r : List V → Hp → VK → Prop} {rd : RCd} (hc : CallR X (.builtin id) r) (ok : OKC X.K r rd) (hm : X.mg x = none) (ha : PAd X W (e :: es) tes) (hg : Gl X x := by rfl) (hv : bootBuiltins x = some (.builtin id) := by decide +kernel) (hn : x ≠ "__name__" := by decide) (hdb : (x == ("__debug__" : Str)) = false := by decide)
    (he : starEach (e :: es) X.env = (false, eval e X.env) :: starEach es X.env := by rfl) (hpl : (backTo pos (starEach es X.env)).any (·.1) = false := by rfl) : PEd X W (.Call (.Name x p) (e :: es) [] pos) (tCl rd tes) := pcallB hc ok hg hm hv ha hn hdb he hpl
theorem pbty {id : String} {r : List V → Hp → VK → Prop} {rd : RCd} (hc : CallR X (.type id) r) (ok : OKC X.K r rd) (hm : X.mg x = none) (ha : PAd X W (e :: es) tes) (hg : Gl X x := by rfl) (hv : bootBuiltins x = some (.type id) := by decide +kernel) (hn : x ≠ "__name__" := by decide) (hdb : (x == ("__debug__" : Str)) = false := by decide)
    (he : starEach (e :: es) X.env = (false, eval e X.env) :: starEach es X.env := by rfl) (hpl : (backTo pos (starEach es X.env)).any (·.1) = false := by rfl) : PEd X W (.Call (.Name x p) (e :: es) [] pos) (tCl rd tes) := pcallTy hc ok hg hm hv ha hn hdb he hpl
/-- the name of a built-in type as a value -/
theorem pety {u : String} (hm : X.mg x = none) (hg : Gl X x := by rfl) (hv : bootBuiltins x = some (.type u) := by decide +kernel) (hn : x ≠ "__name__" := by decide) (hdb : (x == ("__debug__" : Str)) = false := by decide) : PEd X W (.Name x pos) (tK (.ty u)) := pk_of (pe_bltn (v := V.ty u) hg hm hv rfl hn hdb) fun _ => .ty u
/-- a def's names, its frame's scope -/
theorem blk_of {N : List Str} {sc scope : Scope} {own : List (Str × Nat)} (N' : List Str) (sc' : Scope) (eN : N = N') (eS : sc = sc') (h : BlkOk N' sc' scope own) : BlkOk N sc scope own := by
  subst eN eS
  exact h
theorem look_relabel {env : Env} {x : Str} : ∀ {names : List (Str × NameKind)}, names.lookup x = some .cell ∨ names.lookup x = some .free →
    (names.map fun (n, k) => if (k == NameKind.free && env.scope.kind == .function && env.kindOf n == some .cell) then (n, NameKind.cell) else (n, k)).lookup x = some .cell ∨ (names.map fun (n, k) => if (k == NameKind.free && env.scope.kind == .function && env.kindOf n == some .cell) then (n, NameKind.cell) else (n, k)).lookup x = some .free
  | [], h => by simp at h
  | (n, k) :: r, h => by
    have ih := look_relabel (env := env) (x := x) (names := r)
    rw [List.map_cons]
    by_cases c : (k == NameKind.free && env.scope.kind == .function && env.kindOf n == some .cell) = true
    · simp only [c, if_true, List.lookup_cons] at h ⊢
      cases q : (x == n) with
      | true => exact .inl rfl
      | false =>
        rw [q] at h
        exact ih h
    · simp only [c, Bool.false_eq_true, if_false, List.lookup_cons] at h ⊢
      cases q : (x == n) with
      | true =>
        rw [q] at h
        exact h
      | false =>
        rw [q] at h
        exact ih h
theorem blk_in {N : List Str} {scope0 scope : Scope} {own : List (Str × Nat)} {cl : List (Str × Addr)} {C : Addr} {e : Env} (N' : List Str) (eN : N = N') (h : BlkOk N' scope0 scope own) : BlkOk N (compEnvC scope0 cl C e).scope scope own := by
  subst eN
  exact ⟨h.kind, h.uniq, h.ix, fun y hy z => look_relabel (h.free y hy z), h.own⟩
theorem g1 {X : Cx} {x : Str} {pos : Pos} (i : Nat) (nd : X.N.Nodup) (hi : X.N[i]? = some x := by rfl) (hx : Loc X.env.scope x := by first | exact .inl rfl | exact .inr rfl) (hf : X.fn x = true ∨ X.env.scope.names.lookup x = some .local := by first | exact .inl rfl | exact .inr rfl) : PG X (.Name x pos) ((Tg.one i).g X.K) := pg_name nd hi hx hf
theorem roomH_m {k : Nat} {A : Around} (r : Room k A) (h : Option Value) : L2H.RoomH k (A.mark h) := ⟨r.dp, r.un⟩
theorem Cd.hu (c : Cd X W n) : X.A.units + 64 < cLine := by
  have := c.rm.un
  omega
end
/-- a global of the program that holds a plain datum -/
structure HasG (K : PySem.W.Frag) (mg : Str → Option Value) (x : Str) (d : D) : Prop where
  ex : ∃ (v : V) (u : Value), mg x = some u ∧ RelV v u ∧ ∀ F, Rp K F v d
theorem pgl {X : Cx} {W : WX} {x : Str} {d : D} {pos : Pos} (G : HasG X.K X.mg x d) (hg : Gl X x := by rfl) (hd : (x == ("__debug__" : Str)) = false := by decide) : PEd X W (.Name x pos) (tK d) := by
  obtain ⟨v, u, hm, r, q⟩ := G.ex
  exact pglob hg hm r q hd
end DL
/-! What the head looks at: facts, defs, own errors whose __init__ begins with super().__init__. -/
namespace DLH
open PySem PySem.Spec PyProof.Rows L2 NdefX He
/-- an own error: its name, its __init__ -/
structure ErrS where
  x : Str
  qual : Str
  params : Arguments
  body : List Stmt
  scope : Scope
abbrev ErrW : Type := Option (Str × Str × Arguments × FuncBody × Scope × Addr × Addr)
def ErrS.val (e : ErrS) : ErrW := some ("__init__", e.qual, e.params, .stmts e.body, e.scope, mainGlobals, builtinsNs)
def errW (K : PySem.W.Frag) (e : ErrS) : ErrW := match K.lookup (ma K (ga K e.x) "__init__") with
  | some ⟨_, _, .func fd, _⟩ => some (fd.name, fd.qualname, fd.params, fd.body, fd.scope, fd.globals, fd.builtins)
  | _ => none
def oexB (K : PySem.W.Frag) (C : Addr) : Bool := match K.lookup C with
  | some ⟨.type c, _, .cls cd, sl⟩ => decide (c = "type") && (match cd.mro, sl.toList with
    | .ref C' :: bm, [_, _, _, _, some (.builtin n), _] => decide (C' = C) && (decide (n = "ValueError.__new__") && (PySem.HandSPX.refsVE bm && (cd.hasDict && !cd.hasDel)))
    | _, _ => false)
  | _ => false
theorem oexB_ok {K : PySem.W.Frag} {C : Addr} (h : oexB K C = true) : ∃ nm q N bs bm sn sub ab col dd k0 k1 k2 k3 k5, K.lookup C = some (excClassObj nm q C N bs bm true sn sub ab col dd k0 k1 k2 k3 k5 "ValueError.__new__") ∧ PySem.HandSPX.refsVE bm = true := by
  unfold oexB at h
  split at h
  · rename_i c dd cd sl e
    obtain ⟨h1, h2⟩ := ba h
    have hc := of_decide_eq_true h1
    subst hc
    split at h2
    · rename_i C' bm k0 k1 k2 k3 n k5 hm hs
      obtain ⟨h3, h2⟩ := ba h2
      obtain ⟨h4, h2⟩ := ba h2
      obtain ⟨h5, h2⟩ := ba h2
      obtain ⟨h6, h7⟩ := ba h2
      have e1 := of_decide_eq_true h3
      have e2 := of_decide_eq_true h4
      subst e1 e2
      obtain ⟨nm, bs, mro, ns, qn, hd, sn, sub, ab, col, del⟩ := cd
      have h6 : hd = true := h6
      have h7 : (!del) = true := h7
      have hdel : del = false := by
        cases del
        · rfl
        · cases h7
      dsimp only at hm
      subst hm hdel h6
      have hsl : sl = #[k0, k1, k2, k3, some (.builtin "ValueError.__new__"), k5] := by
        obtain ⟨l⟩ := sl
        simp only at hs
        rw [hs]
      subst hsl
      exact ⟨nm, qn, ns, bs, bm, sn, sub, ab, col, dd, k0, k1, k2, k3, k5, e, h5⟩
    · cases h2
  · cases h
def fileB (K : PySem.W.Frag) (c : Addr) (file : Str) : Bool := match K.lookup c with
  | some ⟨_, _, .fields vs, _⟩ => (match (vs[2]? : Option Value) with
    | some (.str z _) => file == z
    | _ => false)
  | _ => false
def cellB (K : PySem.W.Frag) (c C : Addr) : Bool := match K.lookup c with
  | some ⟨_, _, .cell (some (.ref D)), _⟩ => decide (D = C)
  | _ => false
def initB (K : PySem.W.Frag) (file : Str) (C fI : Addr) (q : Str) : Bool := match K.lookup fI with
  | some ⟨_, _, .func fd, _⟩ => (match fd.closure, fd.code, fd.defaults, fd.kwdefaults, fd.annotations with
    | [(n, cc)], .ref c, .none, .none, none => decide (n = "__class__") && (PySem.W.codeIn K (.ref c) q && (fileB K c file && cellB K cc C))
    | _, _, _, _, _ => false)
  | _ => false
def eqV (a b : Option Value) : Bool := decide (a = b)
def eqB (a b : Option Bool) : Bool := decide (a = b)
def errB (K : PySem.W.Frag) (file : Str) (e : ErrS) : Bool :=
  oexB K (ga K e.x) && (eqO (PySem.W.findIn K (.ref (ga K e.x)) "__setattr__") (some (some (.builtin "object.__setattr__"))) && (eqB (PySem.W.subIn K (.ref (ga K e.x)) (.type "BaseException")) (some true) && (eqV (PySem.W.typeIn K (.ref (ga K e.x))) (some (.type "type")) &&
  (PySem.W.keepIn K (.ref (ga K e.x)) && (initB K file (ga K e.x) (ma K (ga K e.x) "__init__") e.qual && (eqO (PySem.W.nsIn K mainGlobals "super") (some none) && (eqB (PySem.W.mroIn K (ga K e.x) (.ref (ga K e.x))) (some true) && (eqO (PySem.W.nsIn K PySem.cStatics "thirdparty.any") (some none) &&
  (eqO (PySem.W.ks_superIn K (ga K e.x) (ga K e.x) "__init__") (some (some (.builtin "ValueError.__init__"))) && (eqB (PySem.W.subIn K (.ref (ga K e.x)) (.type "ValueError")) (some true) && (eqO (PySem.W.findIn K (.ref (ga K e.x)) "__init__") (some (some (.ref (ma K (ga K e.x) "__init__")))) &&
  (eqV (PySem.W.typeIn K (.ref (ma K (ga K e.x) "__init__"))) (some (.type "function")) && eqO (PySem.W.nsIn K mainGlobals e.x) (some (some (.ref (ga K e.x))))))))))))))))
/-- what such an error's class and __init__ are -/
structure ErrOk (P : Program) (K : PySem.W.Frag) (e : ErrS) : Prop where
  ex : ∃ (F : NF) (cc : Addr) (oc doc pm ct : Value) (od : Option Addr) (osl : Array (Option Value)), DX.SupT P K (ga K e.x) (ma K (ga K e.x) "__init__") F cc ∧ K.lookup (ma K (ga K e.x) "__init__") = some ⟨oc, od, .func (F.fd doc pm ct), osl⟩ ∧ F.params = e.params ∧ F.body = e.body ∧ F.scope = e.scope
  iC : PySem.W.findIn K (.ref (ga K e.x)) "__init__" = some (some (.ref (ma K (ga K e.x) "__init__")))
  tI : PySem.W.typeIn K (.ref (ma K (ga K e.x) "__init__")) = some (.type "function")
  oex : OexC K (ga K e.x)
  g : PySem.W.nsIn K mainGlobals e.x = some (some (.ref (ga K e.x)))
theorem err_ok {P : Program} {K : PySem.W.Frag} {file : Str} {e : ErrS} (hf : P.main.file = file) (ht : (P.main.scope.names.lookup ("super" : Str)).isSome = false) (ha : ∃ (ar : Arg), (e.params.posonlyargs ++ e.params.args).head? = some ar ∧ ar.arg = "self")
    (hw : errW K e = e.val) (h : errB K file e = true) : ErrOk P K e := by
  obtain ⟨h1, h⟩ := ba h
  obtain ⟨h2, h⟩ := ba h
  obtain ⟨h3, h⟩ := ba h
  obtain ⟨h4, h⟩ := ba h
  obtain ⟨h5, h⟩ := ba h
  obtain ⟨h6, h⟩ := ba h
  obtain ⟨h7, h⟩ := ba h
  obtain ⟨h8, h⟩ := ba h
  obtain ⟨h9, h⟩ := ba h
  obtain ⟨h10, h⟩ := ba h
  obtain ⟨h11, h⟩ := ba h
  obtain ⟨h12, h⟩ := ba h
  obtain ⟨h13, h14⟩ := ba h
  have ox : OexC K (ga K e.x) := ⟨oexB_ok h1, of_decide_eq_true h2, of_decide_eq_true h3, of_decide_eq_true h4, h5⟩
  refine ⟨?_, of_decide_eq_true h12, of_decide_eq_true h13, ox, of_decide_eq_true h14⟩
  unfold initB at h6
  unfold errW at hw
  split at h6
  case h_2 => cases h6
  rename_i oc od fd osl lk
  rw [lk] at hw
  have hw : some (fd.name, fd.qualname, fd.params, fd.body, fd.scope, fd.globals, fd.builtins) = some (("__init__" : Str), e.qual, e.params, FuncBody.stmts e.body, e.scope, mainGlobals, builtinsNs) := hw
  split at h6
  case h_2 => cases h6
  rename_i n cc c e1 e2 e3 e4 e5
  obtain ⟨k1, h6⟩ := ba h6
  obtain ⟨k2, h6⟩ := ba h6
  obtain ⟨k3, k4⟩ := ba h6
  have k1 := of_decide_eq_true k1
  subst k1
  obtain ⟨name, qual, params, body, scope, globals, closure, defaults, kwd, doc, pm, an, code, ct, bl⟩ := fd
  dsimp only at hw e1 e2 e3 e4 e5
  injection hw with hw
  injection hw with a1 hw
  injection hw with a2 hw
  injection hw with a3 hw
  injection hw with a4 hw
  injection hw with a5 hw
  injection hw with a6 a7
  subst a1 a2 a3 a4 a5 a6 a7 e1 e2 e3 e4 e5
  refine ⟨⟨"__init__", e.qual, e.params, e.body, e.scope, [("__class__", cc)], c⟩, cc, oc, doc, pm, ct, od, osl, ⟨ox, rfl, ⟨oc, doc, pm, ct, od, osl, lk⟩, k2, ?_, ?_, of_decide_eq_true h7, ht, of_decide_eq_true h8, of_decide_eq_true h9, of_decide_eq_true h10, of_decide_eq_true h11, ha⟩, lk, rfl, rfl, rfl⟩
  · unfold fileB at k3
    split at k3
    · rename_i cl cd vs sl lk2
      split at k3
      · rename_i z t hz
        exact ⟨cl, cd, vs, sl, z, t, lk2, hz, by rw [hf]; exact k3⟩
      · cases k3
    · cases k3
  · unfold cellB at k4
    split at k4
    · rename_i cl cd D sl lk2
      have k4 := of_decide_eq_true k4
      subst k4
      exact ⟨cl, cd, sl, lk2⟩
    · cases k4
/-! ### the Hook -/
structure Spec where
  fa : List Fa
  fn : List DefD
  es : List ErrS
  file : Str
  ex : PySem.W.Frag → Bool
abbrev Al : Type := (Bool × List FnW) × List ErrW
def obsK (S : Spec) (K : PySem.W.Frag) : Al := (((S.fa.all fun f => f.ok K) && ((S.fn.all fun d => d.ok K) && ((S.es.all fun e => errB K S.file e) && S.ex K)), S.fn.map fun d => fnW K d.at_), S.es.map fun e => errW K e)
def valK (S : Spec) : Al := ((true, S.fn.map DefD.val), S.es.map ErrS.val)
def frK (g : Addr → Option Obj) (n : Nat) : PySem.W.Frag := frG g (PySem.cStatics :: asD g n)
def obsG (S : Spec) (n : Nat) (g : Addr → Option Obj) : Al := obsK S (frK g n)
def hook (S : Spec) (n : Nat) : PySem.W.Hook where
  α := Al
  obs := fun s => obsG S n s.heap.get?
  val := fun _ => valK S
  says := fun _ h => ∃ K : PySem.W.Frag, K.In h ∧ obsK S K = valK S
  of := fun _ _ e => ⟨_, frG_in, e⟩
  keeps := fun _ _ _ ⟨K, hK, c⟩ k => ⟨K, PySem.W.Frag.In.keeps hK k, c⟩
theorem obsG_eq {S : Spec} {n : Nat} {g : Addr → Option Obj} {s : Shared} (h : ∀ a, g a = s.heap.get? a) : obsG S n g = (hook S n).obs s := by
  have e : g = s.heap.get? := funext h
  rw [e] <;> rfl
section
variable {S : Spec} {K : PySem.W.Frag}
theorem bools (c : obsK S K = valK S) : (S.fa.all fun f => f.ok K) = true ∧ (S.fn.all fun d => d.ok K) = true ∧ (S.es.all fun e => errB K S.file e) = true ∧ S.ex K = true := by
  have h : ((S.fa.all fun f => f.ok K) && ((S.fn.all fun d => d.ok K) && ((S.es.all fun e => errB K S.file e) && S.ex K))) = true := congrArg (fun z : Al => z.1.1) c
  obtain ⟨h1, h⟩ := ba h
  obtain ⟨h2, h⟩ := ba h
  obtain ⟨h3, h4⟩ := ba h
  exact ⟨h1, h2, h3, h4⟩
theorem fact (c : obsK S K = valK S) (i : Nat) {f : Fa} (h : S.fa[i]? = some f := by rfl) : f.ok K = true := List.all_eq_true.mp (bools c).1 f (List.mem_of_getElem? h)
theorem def_ (c : obsK S K = valK S) (i : Nat) {d : DefD} (h : S.fn[i]? = some d := by rfl) : ∃ fd, FunD K d.name d.qual d.params d.body d.scope (d.dvs K) (d.kws K) (fAd K d.at_) fd := by
  have e : S.fn.map (fun d => fnW K d.at_) = S.fn.map DefD.val := congrArg (fun z : Al => z.1.2) c
  have e2 : (S.fn.map fun d => fnW K d.at_)[i]? = (S.fn.map DefD.val)[i]? := by rw [e]
  rw [List.getElem?_map, List.getElem?_map, h] at e2
  exact DefD.funD (Option.some.inj e2) (List.all_eq_true.mp (bools c).2.1 d (List.mem_of_getElem? h))
theorem err_ {P : Program} (c : obsK S K = valK S) (i : Nat) {e : ErrS} (h : S.es[i]? = some e) (hf : P.main.file = S.file) (ht : (P.main.scope.names.lookup ("super" : Str)).isSome = false) (ha : ∃ (ar : Arg), (e.params.posonlyargs ++ e.params.args).head? = some ar ∧ ar.arg = "self") : ErrOk P K e := by
  have z : S.es.map (fun e => errW K e) = S.es.map ErrS.val := congrArg (fun z : Al => z.2) c
  have e2 : (S.es.map fun e => errW K e)[i]? = (S.es.map ErrS.val)[i]? := by rw [z]
  rw [List.getElem?_map, List.getElem?_map, h] at e2
  exact err_ok hf ht ha (Option.some.inj e2) (List.all_eq_true.mp (bools c).2.2.1 e (List.mem_of_getElem? h))
theorem more (c : obsK S K = valK S) : S.ex K = true := (bools c).2.2.2
end
end DLH
/-! The head's end: the law's def, called with the script where no repr is under way. -/
namespace DL
open PySem PySem.Spec PyProof.Rows L2
variable [B : Obs]
/-- the promise of the law's def, over data: True, whatever the script -/
abbrev spLaw (n : Nat) : SpD := fun ds M Q _ => ∃ ns : List Int, ds = [.scr ns] ∧ ns.length ≤ n ∧ (∀ a, M a = none) ∧ ∀ N, Q (.bl true) N
def hide (h : Heap) (H : Hp) : Heap := hidT h H
theorem law_goes {P : Program} {w : World} {K : PySem.W.Frag} {mg mb : Str → Option Value} {k n : Nat} {fa a : Addr} {fd : FuncData} {x : Str} {s : Shared} {vs : List Value} {ns : List Int}
    (KX : K.In s.heap) (hns : s.heap.Ns mainGlobals mg) (hb : s.heap.Ns builtinsNs mb) (hbb : ∀ x : Str, x ≠ "__name__" → mb x = bootBuiltins x) (hlim : s.heap.NoLimit) (hg : s.gens = #[])
    (ha : s.heap.get? a = some { cls := .type "list", data := .seq vs.toArray }) (hi : IntsAre vs ns) (hl : ns.length ≤ n) (hn : n ≤ sizeLine) (hr : Room k callerA)
    (F : ∀ base : Heap, K.In base → base.Ns mainGlobals mg → FnD P w K mg base k fa fd [x] (spLaw n)) (hbind : ∀ (s : Shared) (u : Value), BindsTo s fd ⟨[u], []⟩ [(x, u)]) :
    codeAny (model P w) callerA (.call (.ref fa) ⟨[.ref a], []⟩) (fun r s' => r = .ok (.ret (.bool true)) ∧ OldK s.heap s'.heap ∧ s'.os = s.os ∧ AllBare s'.gens) s := by
  have rv := vals_ints hi
  have lenV := hi.length
  have small : vs.length ≤ sizeLine := by omega
  -- H: nothing, or the script alone
  have core : ∀ H : Hp, Only H → SqL K H a (ns.map V.int) → HOk P w H s.heap → (∀ b, H b ≠ none → b = a ∧ K.lookup a = none) →
      codeAny (model P w) callerA (.call (.ref fa) ⟨[.ref a], []⟩) (fun r s' => r = .ok (.ret (.bool true)) ∧ OldK s.heap s'.heap ∧ s'.os = s.os ∧ AllBare s'.gens) s := by
    intro H hO hS hok hA
    have stays : ∀ {b : Addr} {o : Obj}, s.heap.get? b = some o → (b = a → K.lookup a = none → False) → (hidT s.heap H).get? b = some o := fun {b o} e nb => hidT_get e (by
      cases q : H b with
      | none => rfl
      | some u =>
        obtain ⟨z1, z2⟩ := hA b (by rw [q]; exact fun z => nomatch z)
        exact (nb z1 z2).elim)
    have nsK : ∀ {b : Addr} {m : Str → Option Value}, s.heap.Ns b m → (hidT s.heap H).Ns b m := fun {b m} ⟨o, es, ep, e, d, r⟩ => ⟨o, es, ep, stays e (fun z _ => by
      subst z
      rw [ha] at e
      cases e
      cases (show Data.seq vs.toArray _ = Data.dict es ep from d)), d, r⟩
    have hKb : K.In (hidT s.heap H) := fun b o e => stays (KX b o e) fun z1 z2 => by
      subst z1
      rw [z2] at e
      cases e
    have e0 : Env0 P w K mg (hidT s.heap H) callerA [] s H := ⟨rfl, ⟨hKb, nsK hns, ⟨mb, nsK hb, hbb⟩, let ⟨mc, h1, h2⟩ := hlim; ⟨mc, nsK h1, h2⟩⟩, fun b o e => of_hidT e, Nat.le_of_eq (hidT_size _ _), trivial, fun b hb => absurd (show b ∈ ([] : List Addr) from hb) (by simp), hok, .of_eq hg⟩
    have sp : toSp K (spLaw n) [.ref a] H (fun v _ => v = .bl true) (fun _ _ _ => False) := ⟨H, fun _ => none, [.scr ns], fun d _ => d = .bl true, X0, ⟨.rfl' H, fun a c e => nomatch e⟩, .cons (.scr hS) .nil, ⟨fun {d M v G H'} _ _ r e => by
      subst e
      cases r
      rfl⟩, kx0, ns, rfl, hl, fun _ => rfl, fun _ => rfl⟩
    refine codeAny_mono ((F _ hKb (nsK hns)).goes hr rfl e0 (us := [.ref a]) (hbind s (.ref a)) (show Vals [V.ref a] [Value.ref a] from .cons rfl .nil) sp) fun r s' h => ?_
    match r, h with
    | .error e, ⟨_, _, _, _, _, _, _, _, _, _, _, _, z⟩ => exact z.elim
    | .ok .next, h => exact h.elim
    | .ok .brk, h => exact h.elim
    | .ok .cont, h => exact h.elim
    | .ok (.ret u), ⟨v, H', os, bare, un, hok', r', q⟩ =>
      have q : v = .bl true := q
      subst q
      obtain rfl : u = Value.bool true := r'
      refine ⟨rfl, OldK.of_keep fun b o e => ?_, os, bare⟩
      rcases hO b with z | ⟨ob, xs, z⟩
      · exact un.keep b o e z (fun t => absurd (show b ∈ ([] : List Addr) from t) (by simp)) (by simp)
      · obtain ⟨e1, _⟩ := hok b _ z
        obtain ⟨e2, _⟩ := hok' b _ (un.frzs b ob _ z)
        rw [e] at e1
        cases e1
        exact e2
  cases hk : K.lookup a with
  | some o =>
    have e := KX a o hk
    rw [ha] at e
    cases e
    exact core (fun _ => none) (fun _ => .inl rfl) (.inr ⟨_, vs.toArray, _, hk, rfl, rfl, rfl, by rw [List.size_toArray]; exact small, by simpa using rv⟩) (fun b u z => nomatch (show (none : Option HO) = some u from z)) fun b z => absurd rfl z
  | none =>
    refine core (fun b => if b = a then some (.frz { cls := .type "list", data := .seq vs.toArray } (.lst (ns.map V.int))) else none) (fun b => ?_) (.inl (.inr ⟨_, if_pos rfl⟩)) (fun b u z => ?_) fun b z => ?_
    · by_cases c : b = a
      · exact .inr ⟨_, _, if_pos c⟩
      · exact .inl (if_neg c)
    · by_cases c : b = a
      · cases (if_pos c).symm.trans z
        subst c
        exact ⟨ha, by rw [List.length_map]; omega, vs, _, rv, ha⟩
      · cases (if_neg c).symm.trans z
    · by_cases c : b = a
      · exact ⟨c, hk⟩
      · exact absurd (if_neg c) z
/-- the goal that the head leaves -/
theorem walk_ofG {l : PySem.W.OpenLaw} {n k : Nat} {q : Program} {loose : List Str} {XP : (Str → Option Value) → Heap → Prop} {YP : World → Heap → Prop} {d : DefRec} {x : Str}
    (hn : l.most = some n) (hn2 : n ≤ sizeLine) (hdf : d.params.defaults = []) (hr : Room k callerA)
    (F : ∀ (w : World) (mg : Str → Option Value) (fa : Addr) (h : Heap), YP w h → h.Ns mainGlobals mg → mg d.name = some (.ref fa) →
      ∃ (K : PySem.W.Frag) (fd : FuncData), K.In h ∧ (∀ (s : Shared) (u : Value), BindsTo s fd ⟨[u], []⟩ [(x, u)]) ∧ ∀ base : Heap, K.In base → base.Ns mainGlobals mg → FnD l.prog w K mg base k fa fd [x] (spLaw n)) :
    PySem.W.WalkO q loose XP YP l.row.toRowW d [] (fun f vs => PySem.call f vs) := by
  refine Att.attach_call hn hdf fun w s₀ s₁ mg mb fa o pm cd doc a vs ns G Y ho hd hcd hmg hobj hints hlen hg => ?_
  obtain ⟨K, fd, KX, hb, hF⟩ := F w mg fa _ Y G.T.g hmg
  exact law_goes KX G.T.g G.T.b G.T.builtins G.T.nolimit hg hobj hints hlen hn2 hr hF hb
end DL
/-! The data layer: dicts whose keys are ints and texts. -/
namespace DL
open PySem PySem.Spec PyProof.Rows L2
variable [B : Obs]
section
variable {X : Cx} {W : WX} {K : PySem.W.Frag} {F H : Hp} {M : Md} {v : V} {d : D} {n : Nat} {Q : VD}
def keyD : D → Option Key
  | .int i => some (.inl i)
  | .str s => some (.inr s)
  | _ => none
theorem keyD_ok (r : Rp K F v d) {k : Key} (h : keyD d = some k) : v = kV k := by
  cases r with
  | int i =>
    cases h
    rfl
  | str x =>
    cases h
    rfl
  | _ => cases h
abbrev DRel (K : PySem.W.Frag) (F : Hp) : List (Key × V) → List (Key × D) → Prop := Paired fun p q => p.1 = q.1 ∧ Rp K F p.2 q.2
theorem zipK_rel : ∀ {ks : List Key} {vs : List V} {ds : List D}, Rps K F vs ds → DRel K F (ks.zip vs) (ks.zip ds)
  | [], _, _, _ => .nil
  | k :: ks, _, _, .nil => .nil
  | k :: ks, _, _, .cons r t => .cons ⟨rfl, r⟩ (zipK_rel t)
/-- what a dict holds -/
def dicD (M : Md) : D → Option (List (Key × D))
  | .dic ks ds => some (ks.zip ds)
  | .ref a => match M a with
    | some (.dic kvs) => some kvs
    | _ => none
  | _ => none
theorem dicD_ref {a : Addr} {kvs : List (Key × D)} (h : M a = some (.dic kvs)) : dicD M (.ref a) = some kvs := by
  show (match M a with
    | some (MC.dic kvs) => some kvs
    | _ => none) = some kvs
  rw [h]
theorem dicD_ok (l : Rl K F H M) (r : Rp K F v d) {kvs : List (Key × D)} (h : dicD M d = some kvs) : ∃ a vs, v = .ref a ∧ H a = some (.dK vs) ∧ DRel K F vs kvs := by
  cases r with
  | dic p q =>
    cases h
    exact ⟨_, _, rfl, l.sub.of p, zipK_rel q⟩
  | ref a =>
    have h' : (match M a with
      | some (MC.dic kvs) => some kvs
      | _ => Option.none) = some kvs := h
    cases e : M a with
    | none =>
      rw [e] at h'
      cases h'
    | some c =>
      rw [e] at h'
      cases c with
      | dic ys =>
        cases h'
        obtain ⟨_, vs, p, q⟩ := l.cell a _ e
        exact ⟨a, vs, rfl, p, q⟩
      | _ => cases h'
  | _ => cases h
def lkD (kvs : List (Key × D)) (k : Key) : Option D := match kvs with
  | [] => none
  | p :: r => if p.1 = k then some p.2 else lkD r k
theorem lk_rel {vs : List (Key × V)} {kvs : List (Key × D)} (h : DRel K F vs kvs) {k : Key} {d : D} (e : lkD kvs k = some d) : ∃ v, valV vs k = some v ∧ Rp K F v d := by
  induction h with
  | nil => cases e
  | @cons p q ps qs r _ ih =>
    unfold lkD at e
    split at e
    · rename_i c
      cases e
      exact ⟨p.2, valV_pos (r.1.trans c), r.2⟩
    · rename_i c
      obtain ⟨v, e1, r1⟩ := ih e
      exact ⟨v, by rw [valV_neg (fun z => c (r.1.symm.trans z))]; exact e1, r1⟩
/-- d[k], there -/
def tDg (td ty : TEd) : TEd := fun Xd δ M Q => td Xd δ M fun x M1 => ty Xd δ M1 fun y M2 => optP (dicD M2 x) fun kvs => optP (keyD y) fun k => optP (lkD kvs k) fun v => Q v M2
theorem pdget {o i : Expr} {td ty : TEd} {pos : Pos} (c : Cd X W n) (ho : PEd X W o td) (hi : PEd X W i ty) (hs : NoSl i) : PEd X W (.Subscript o i pos) (tDg td ty) :=
  pe_imp (pe_dget (by have := c.hu; omega) ho hi hs) fun σ H Q ⟨F, δ, M, Qd, Xd, l, s, k, kx, q⟩ => low_then l s kx q ⟨fun {d1 M1 v1 G1 H1} g1 l1 r1 q1 =>
    low_then l1 (s.mono g1) (kx.mono g1) q1 ⟨fun {d2 M2 v2 G2 H2} g2 l2 r2 q2 => by
      obtain ⟨kvs, e1, q2⟩ := optP_out q2
      obtain ⟨ky, e2, q2⟩ := optP_out q2
      obtain ⟨w, e3, q2⟩ := optP_out q2
      obtain ⟨a, vs, rfl, ha, rel⟩ := dicD_ok l2 (r1.mono g2) e1
      obtain ⟨u, e4, ru⟩ := lk_rel rel e3
      have ey := keyD_ok r2 e2
      refine ⟨a, u, rfl, ?_, k.go (g1.then' g2) l2 ru q2⟩
      rw [ey, ← e4]
      exact .k ha⟩⟩
theorem tDg_eq {td ty : TEd} {Xd : XD} {δ : SD} {x y v : D} {kvs : List (Key × D)} {k : Key} (h1 : td Xd δ M = fun Q => Q x M) (h2 : ty Xd δ M = fun Q => Q y M) (e1 : dicD M x = some kvs) (e2 : keyD y = some k) (e3 : lkD kvs k = some v) : tDg td ty Xd δ M Q = Q v M := by
  unfold tDg
  rw [h1]
  simp only []
  rw [h2]
  simp only [e1, e2, e3, optP_some]
/-! ### d[k] = v -/
def putKD (kvs : List (Key × D)) (k : Key) (v : D) : List (Key × D) := if (kvs.any fun kv => decide (kv.1 = k)) = true then kvs.map fun kv => if kv.1 = k then (kv.1, v) else kv else kvs ++ [(k, v)]
theorem any_rel {vs : List (Key × V)} {kvs : List (Key × D)} (h : DRel K F vs kvs) (k : Key) : (vs.any fun kv => decide (kv.1 = k)) = (kvs.any fun kv => decide (kv.1 = k)) := by
  induction h with
  | nil => rfl
  | cons r _ ih => rw [List.any_cons, List.any_cons, ih, r.1]
theorem map_rel {vs : List (Key × V)} {kvs : List (Key × D)} (h : DRel K F vs kvs) (k : Key) {v : V} {d : D} (r : Rp K F v d) : DRel K F (vs.map fun kv => if kv.1 = k then (kv.1, v) else kv) (kvs.map fun kv => if kv.1 = k then (kv.1, d) else kv) := by
  induction h with
  | nil => exact .nil
  | @cons p q ps qs r1 _ ih =>
    rw [List.map_cons, List.map_cons]
    refine .cons ?_ ih
    by_cases c : q.1 = k
    · rw [if_pos c, if_pos (r1.1.trans c)]
      exact ⟨r1.1, r⟩
    · rw [if_neg c, if_neg (fun z => c (r1.1.symm.trans z))]
      exact r1
theorem put_rel {vs : List (Key × V)} {kvs : List (Key × D)} (h : DRel K F vs kvs) (k : Key) {v : V} {d : D} (r : Rp K F v d) : DRel K F (putK vs k v) (putKD kvs k d) := by
  unfold putK putKD
  rw [any_rel h k]
  split
  · exact map_rel h k r
  · exact Paired.snoc h ⟨rfl, r⟩
def putDD (o i v : D) (M : Md) (Q : Md → Prop) : Prop := match o with
  | .ref a => match M a with
    | some (.dic kvs) => optP (keyD i) fun k => kvs.length < sizeLine ∧ Q (put M a (.dic (putKD kvs k v)))
    | _ => False
  | _ => False
theorem putDD_eq {a : Addr} {kvs : List (Key × D)} {i v : D} {k : Key} {R : Md → Prop} (h : M a = some (.dic kvs)) (e : keyD i = some k) (l : kvs.length < sizeLine) : putDD (.ref a) i v M R = R (put M a (.dic (putKD kvs k v))) := by
  simp only [putDD, h, e, optP_some, l, true_and]
def gDs (to ti : TEd) : TGd := fun Xd v δ M Q => to Xd δ M fun o M1 => ti Xd δ M1 fun i M2 => putDD o i v M2 fun M3 => Q δ M3
theorem gdsub {o i : Expr} {pos : Pos} {to ti : TEd} (c : Cd X W n) (ho : PEd X W o to) (hi : PEd X W i ti)
    (ha : ∀ v, assign (.Subscript o i pos) X.env v = (do let p ← holding [v] (eval o X.env); let q ← holding [v, p] (eval i X.env); standAt pos; holding [v, p, q] (setItem p q v); release [v, p, q] []) := by intro; rfl) : PGd X W (.Subscript o i pos) (gDs to ti) := pg_imp (pg_sub ho hi (set_dict (by have := c.hu; omega)) ha) fun v σ H Q ⟨F, δ, M, d, Qd, Xd, l, s, rd, k, kx, q⟩ =>
  low_then l s kx q ⟨fun {d1 M1 v1 G1 H1} g1 l1 r1 q1 => low_then l1 (s.mono g1) (kx.mono g1) q1 ⟨fun {d2 M2 v2 G2 H2} g2 l2 r2 q2 => by
    unfold putDD at q2
    split at q2
    · split at q2
      · rename_i a _ kvs e
        obtain ⟨ky, e2, hl, q2⟩ := optP_out q2
        cases r1
        obtain ⟨hf, vs, hh, rel⟩ := l2.cell _ _ e
        have ey := keyD_ok r2 e2
        refine ⟨_, _, rfl, by rw [ey]; exact .k hh (by rw [rel.length]; exact hl), ?_⟩
        exact k.go (g1.then' g2) (l2.cellput (u := .dK (putK vs ky v)) (c := .dic (putKD kvs ky d)) hf ⟨_, upd_same, put_rel rel ky (rd.mono (g1.then' g2))⟩) (s.mono (g1.then' g2)) q2
      · exact q2.elim
    · exact q2.elim⟩⟩
/-! ### displays -/
def tDi0 : TEd := fun _ _ M Q => ∀ p, M p = none → Q (.ref p) (put M p (.dic []))
theorem pdi0 {pos : Pos} : PEd X W (.Dict [] [] pos) tDi0 := pe_imp pe_dnewK fun σ H Q ⟨F, δ, M, Qd, Xd, l, s, k, kx, q⟩ => fun p hp => by
  obtain ⟨n1, n2⟩ := l.free hp
  exact k.go (.rfl' F) (l.cellput (u := .dK []) (c := .dic []) n1 ⟨[], upd_same, .nil⟩) (.ref p) (q p n2)
def tPr : List (TEd × TEd) → XD → SD → Md → (List (D × D) → Md → Prop) → Prop
  | [], _, _, M, Q => Q [] M
  | (tk, tv) :: r, Xd, δ, M, Q => tk Xd δ M fun x M1 => tv Xd δ M1 fun y M2 => tPr r Xd δ M2 fun ps M3 => Q ((x, y) :: ps) M3
def mergeD (kvs more : List (Key × D)) : List (Key × D) := more.foldl (fun acc kv => putKD acc kv.1 kv.2) kvs
theorem merge_rel : ∀ {more : List (Key × V)} {more' : List (Key × D)}, DRel K F more more' → ∀ {vs : List (Key × V)} {kvs : List (Key × D)}, DRel K F vs kvs → DRel K F (mergeK vs more) (mergeD kvs more')
  | _, _, .nil, _, _, h => h
  | _, _, @Paired.cons _ _ _ p q ps qs r t, vs, kvs, h => by
    have e : DRel K F (putK vs p.1 p.2) (putKD kvs q.1 q.2) := by
      rw [r.1]
      exact put_rel h q.1 r.2
    exact merge_rel t e
/-- {k: v, ..}; the new dict stands empty while the pairs are made -/
def tDi (trs : List (TEd × TEd)) : TEd := fun Xd δ M Q => ∀ p, M p = none → tPr trs Xd δ (put M p (.dic [])) fun ps M2 => M2 p = some (.dic []) ∧ ∃ kvs : List (Key × D), ps.map (fun q => (keyD q.1, q.2)) = kvs.map (fun q => (some q.1, q.2)) ∧ kvs.length ≤ 15 ∧ Q (.ref p) (put M2 p (.dic (mergeD [] kvs)))
inductive PDs (X : Cx) (W : WX) (pos : Pos) : List (Option Expr) → List Expr → List (TEd × TEd) → Prop
  | nil : PDs X W pos [] [] []
  | cons {k v : Expr} {ks : List (Option Expr)} {vs : List Expr} {tk tv : TEd} {trs : List (TEd × TEd)} (hk : PEd X W k tk) (hv : PEd X W v tv) (r : PDs X W pos ks vs trs) : PDs X W pos (some k :: ks) (v :: vs) ((tk, tv) :: trs)
theorem PDs.low {pos : Pos} {ks : List (Option Expr)} {vs : List Expr} {trs : List (TEd × TEd)} (h : PDs X W pos ks vs trs) : PPs X pos ks vs (trs.map fun t => (DL.low X.K W t.1, DL.low X.K W t.2)) := by
  induction h with
  | nil => exact pps_nil
  | cons hk hv _ ih => exact pps_cons hk hv ih
def PrsRel (K : PySem.W.Frag) (F : Hp) : List (V × V) → List (D × D) → Prop := Paired fun p q => Rp K F p.1 q.1 ∧ Rp K F p.2 q.2
theorem tPr_low {K : PySem.W.Frag} : ∀ (trs : List (TEd × TEd)) {F H : Hp} {σ : L2.St} {δ : SD} {M : Md} {Xd : XD} {Qd : List (D × D) → Md → Prop} {Q : List (V × V) → Hp → Prop}, Rl K F H M → Sls K F σ δ → Kx K F Xd (WE W σ) →
    (∀ {ps : List (D × D)} {M1 : Md} {vs : List (V × V)} {G H1 : Hp}, Le F G → Rl K G H1 M1 → PrsRel K G vs ps → Qd ps M1 → Q vs H1) → tPr trs Xd δ M Qd → tPairs (trs.map fun t => (DL.low K W t.1, DL.low K W t.2)) σ H Q
  | [], F, H, σ, δ, M, Xd, Qd, Q, l, s, kx, k, h => k (.rfl' F) l .nil h
  | (tk, tv) :: r, F, H, σ, δ, M, Xd, Qd, Q, l, s, kx, k, h =>
    low_then l s kx h ⟨fun {d1 M1 v1 G1 H1} g1 l1 r1 q1 => low_then l1 (s.mono g1) (kx.mono g1) q1 ⟨fun {d2 M2 v2 G2 H2} g2 l2 r2 q2 =>
      tPr_low r l2 (s.mono (g1.then' g2)) (kx.mono (g1.then' g2)) (fun {ps M3 vs G3 H3} g3 l3 r3 q3 => k ((g1.then' g2).then' g3) l3 (.cons ⟨r1.mono (g2.then' g3), r2.mono g3⟩ r3) q3) q2⟩⟩
theorem prs_keys : ∀ {kvs : List (Key × D)} {ps : List (D × D)} {vs : List (V × V)}, PrsRel K F vs ps → ps.map (fun q => (keyD q.1, q.2)) = kvs.map (fun q => (some q.1, q.2)) → ∃ kws : List (Key × V), vs = kws.map (fun kv => (kV kv.1, kv.2)) ∧ DRel K F kws kvs
  | [], _, _, .nil, _ => ⟨[], rfl, .nil⟩
  | [], _, _, .cons _ _, e => by cases e
  | _ :: _, _, _, .nil, e => by cases e
  | q :: kvs, _, _, @Paired.cons _ _ _ p r ps rs h t, e => by
    rw [List.map_cons, List.map_cons] at e
    obtain ⟨e1, e2⟩ := List.cons.inj e
    have e3 : keyD r.1 = some q.1 := congrArg (·.1) e1
    have e4 : r.2 = q.2 := congrArg (·.2) e1
    obtain ⟨kws, e5, rel⟩ := prs_keys t e2
    refine ⟨(q.1, p.2) :: kws, ?_, .cons ⟨rfl, by rw [← e4]; exact h.2⟩ rel⟩
    rw [List.map_cons, e5, ← keyD_ok h.1 e3]
theorem pdi {pos : Pos} {ks : List (Option Expr)} {vs : List Expr} {trs : List (TEd × TEd)} (h : PDs X W pos ks vs trs) (hall : ks.all (·.isSome) = true := by rfl) (hl : ks.length = vs.length := by rfl) (h0 : ks ≠ [] := by exact List.cons_ne_nil _ _) (h15 : ks.length ≤ 15 := by decide) : PEd X W (.Dict ks vs pos) (tDi trs) :=
  pe_imp (pe_disp h.low hall hl h0 h15) fun σ H Q ⟨F, δ, M, Qd, Xd, l, s, k, kx, q⟩ => fun p hp => by
    obtain ⟨n1, n2⟩ := l.free hp
    have l1 := l.cellput (u := .dK []) (c := .dic []) n1 ⟨[], upd_same, .nil⟩
    refine tPr_low trs l1 s kx (fun {ps M2 vs G H2} g l2 r2 q2 => ?_) (q p n2)
    obtain ⟨hm, kvs, e1, h15, q2⟩ := q2
    obtain ⟨hf, vs0, hh, rel0⟩ := l2.cell _ _ hm
    cases rel0
    obtain ⟨kws, e2, rel⟩ := prs_keys r2 e1
    refine ⟨hh, kws, e2, by rw [rel.length]; exact h15, ?_⟩
    exact k.go g (l2.cellput (u := .dK (mergeK [] kws)) (c := .dic (mergeD [] kvs)) hf ⟨_, upd_same, merge_rel rel .nil⟩) (.ref p) q2
/-- a dict that never changes from now on -/
theorem Fin.dic {a : Addr} {kvs : List (Key × D)} (h : M a = some (.dic kvs)) : DL.Fin M (.ref a) (cut M a) (.dic (kvs.map (·.1)) (kvs.map (·.2))) := ⟨fun {K F H v} l r => by
  cases r
  obtain ⟨hf, vs, hh, rr⟩ := l.cell a _ h
  obtain ⟨l2, g⟩ := l.froze hh hf
  have e : vs = (kvs.map (·.1)).zip (vs.map (·.2)) ∧ Rps K F (vs.map (·.2)) (kvs.map (·.2)) := by
    clear hh hf h l l2 g
    induction rr with
    | nil => exact ⟨rfl, .nil⟩
    | @cons p q ps qs r _ ih =>
      obtain ⟨ih1, ih2⟩ := ih
      refine ⟨?_, .cons r.2 ih2⟩
      rw [List.map_cons, List.map_cons, List.zip_cons_cons, ← ih1, ← r.1]
  exact ⟨_, g, l2, .dic (by rw [upd_same]; exact congrArg (fun z => some (HO.dK z)) e.1) (e.2.mono g)⟩⟩
end
end DL
/-! enumerate(v) of a list or a tuple, zip(v, w) of two lists or two tuples. -/
namespace DEn
open PySem PySem.Spec PyProof.Rows L2
theorem meets_enum1 {v : Value} {o : Obj} {H : Heap → Prop} (B : Begins v o H) :
    Meets (Builtin.«enumerate.__new__» ⟨[.type "enumerate", v], []⟩) (fun _ R s => H s.heap ∧
      R (.ok (.ret (.ref (s.heap.push o).objs.size))) { s with heap := (s.heap.push o).push { cls := .type "enumerate", data := .fields #[.none, .bool false, .ref s.heap.objs.size, rawInt 0, .none, .none] } }) :=
  .of_wp fun prog w A R s h => by
    obtain ⟨hp, g, d, tk, os⟩ := s
    obtain ⟨h1, h⟩ := h
    have hsub := sub_enumerate
    have q1 : ∀ {A' : Around} {E : Value → Shared → Prop} {Q : Value → Shared → Prop}, Q (.ref hp.objs.size) ⟨hp.push o, g, d, tk, os⟩ → wpAny (model prog w) A' (pyIter v) Q E ⟨hp, g, d, tk, os⟩ :=
      fun q => B.iter prog w _ _ ⟨hp, g, d, tk, os⟩ _ h1 q
    wp_walk using q1
    refine wpAny_stack_any fun st => wpAny_pure ?_
    split
    · rename_i c _ _ _ _ _
      cases (c == Value.type "enumerate")
      · wp_walk using q1
        exact ⟨_, rfl, h⟩
      · wp_walk using q1
        exact ⟨_, rfl, h⟩
    · wp_walk using q1
      exact ⟨_, rfl, h⟩
section
variable {prog : Program} {w : World} {A : Around} {E : Value → Shared → Prop} {s : Shared}
theorem call_enum1 {v : Value} {o : Obj} {H : Heap → Prop} {Q : Value → Shared → Prop} (B : Begins v o H) (h1 : H s.heap)
    (h : ∀ h', IsEnum h' (s.heap.objs.size + 1) s.heap.objs.size 0 .none → h'.get? s.heap.objs.size = some o → h'.objs.size = s.heap.objs.size + 2 → (∀ b o, s.heap.get? b = some o → h'.get? b = some o) → Q (.ref (s.heap.objs.size + 1)) { s with heap := h' }) :
    wpAny (model prog w) A (call (.type "enumerate") [v]) Q E s := by
  refine callType_new F.called_enumerate (by decide) (F.typeCall_enumerate_1 _) (F.newCall_enumerate_1 _) (fun obj => F.args_object_init_2 obj _) F.entry_enumerate_new (meets_enum1 B) ⟨h1, ?_⟩
  have hz : (s.heap.push o).objs.size = s.heap.objs.size + 1 := Heap.size_push ..
  show _ ∧ _
  rw [hz]
  have he : IsEnum ((s.heap.push o).push { cls := .type "enumerate", data := .fields #[.none, .bool false, .ref s.heap.objs.size, rawInt 0, .none, .none] }) (s.heap.objs.size + 1) s.heap.objs.size 0 .none := by
    have := Heap.get?_push_size (s.heap.push o) (o := { cls := .type "enumerate", data := .fields #[.none, .bool false, .ref s.heap.objs.size, rawInt 0, .none, .none] }) rfl
    rw [hz] at this
    exact this
  exact ⟨⟨_, he, rfl⟩, h _ he (Heap.get?_push_of_some _ (Heap.get?_push_size _ B.free)) (by rw [Heap.size_push, hz]) fun b o x => Heap.get?_push_of_some _ (Heap.get?_push_of_some _ x)⟩
end
theorem enumT_end {prog : Program} {w : World} {A : Around} {E : Value → Shared → Prop} {s : Shared} {e it l : Addr} {i : Nat} {items : Array Value} {old : Value} {Q : Option Value → Shared → Prop} (hh : A.handled = none)
    (he : IsEnum s.heap e it i old) (hit : s.heap.IsTupleIter it l i) (hl : s.heap.IsTuple l items) (hx : items[i]? = none) (hQ : ∀ h', Heap.ExtBut it s.heap h' → Q none { s with heap := h' }) : wpAny (model prog w) A (pyNext (.ref e)) Q E s := by
  have hT : s.TypeIs (.ref e) "enumerate" := ⟨_, he, rfl⟩
  unfold pyNext
  refine wpAny_bind (wpAny_attempt (wpAny_callSpecial?_slot (name := Str.ofString "__next__") hT F.slot_enumerate_next (wpAny_call_entry F.slot_enumerate_next hT F.entry_enumerate_next ?_ (F.args_enumerate_next_1 _))))
  show wpAny _ _ (field (.ref e) 2 >>= _) _ _ _
  refine wpAny_bind (wpAny_field he rfl (x := .ref it) rfl ?_)
  refine wpAny_bind (wpAny_nextOf_tuple_end hh hit hl hx fun h' x he' hx' => ?_)
  obtain ⟨o, ho, hc⟩ := hx'
  refine wpAny_bind (wpAny_isInstance (T := "StopIteration") (b := true) ⟨o, ho, hc⟩ isSubtype_stop ?_)
  exact wpAny_pure (hQ _ he')
/-- the tuple at a, each item in a new pair -/
def IteT (K : PySem.W.Frag) (a : Addr) : It :=
  ⟨fun i H => ∃ (xs : List V) (x : V), SqT K H a xs ∧ xs[i]? = some x, fun i H v H' => ∃ T x, v = .ref T ∧ H T = none ∧ H' = upd H T (.tup [.int (i : Nat), x]) ∧ ∀ xs, SqT K H a xs → xs[i]? = some x, fun i H => ∃ xs : List V, SqT K H a xs ∧ xs.length ≤ i⟩
theorem turn_enumT {P : Program} {w : World} {K : PySem.W.Frag} {elts : List Expr} {kk : Nat} {tpos : Pos} (a e it : Addr) :
    Turn P w K (.Tuple elts kk tpos) (IteT K a) [e, it] e (fun i h => (∃ old, IsEnum h e it ((i : Nat) : Int) old) ∧ h.IsTupleIter it a i ∧ e ≠ it ∧ a ≠ it ∧ a ≠ e) where
  mem := by simp
  obj := fun i h st b hb => by
    obtain ⟨⟨old, he⟩, ⟨o, ho, hc, hd⟩, _⟩ := st
    have e' : b = e ∨ b = it := by simpa using hb
    rcases e' with z | z
    · rw [z]; exact ⟨_, he, fun v q => nomatch q⟩
    · rw [z]; exact ⟨o, ho, fun v q => by rw [hd] at q; cases q⟩
  keep := fun i h h' st k => let ⟨⟨old, he⟩, hi, hne⟩ := st; ⟨⟨old, k e (by simp) _ he⟩, hi.at fun o q => k it (by simp) o q, hne⟩
  item := by
    intro X hP hw hK hc i pins s σ H E I hf st hg
    subst hP hw hK
    obtain ⟨⟨old, he⟩, hit, hne, hai, hae⟩ := st
    obtain ⟨xs, x, hq, hx⟩ := hg
    obtain ⟨its, rv, p, hz⟩ := I.tuple hq
    obtain ⟨u, hu, ru⟩ := rv.get hx
    have hel : e < s.heap.objs.size := Heap.lt_size he
    have hil : it < s.heap.objs.size := by obtain ⟨_, q, _⟩ := hit; exact Heap.lt_size q
    have hlt : i < its.length := (List.getElem?_eq_some_iff.mp hu).1
    have hnf : e ∉ [it, a] := by simp [hne, Ne.symm hae]
    have Dr := Draws.tuple (prog := X.prog) (w := X.w) (A := X.A.in1) (show X.A.in1.handled = none from I.ok.hd hc) it a hai its.toArray
    refine wpAny_pyNext_enum_itemD Dr he ⟨hit, p⟩ (by simpa using hlt) hne hnf fun u' h' tk hu' ho hst' hT hsz hk => ?_
    have eu : u' = u := by
      have h1 : its[i]? = some u' := by simpa using hu'
      rw [hu] at h1
      exact (Option.some.inj h1).symm
    subst eu
    refine ⟨_, rfl, wpAny_letOwnedTupleGo_enum (s := { s with heap := h', toks := tk + 1 }) ho fun h'' he' sb => ?_⟩
    have hT2 : h''.get? s.heap.objs.size = some { cls := .type "tuple", data := .seq #[.int i tk, u'] } := (sb.2 _ (Nat.ne_of_gt hel)).trans hT
    have new : ObjOk X.prog X.w (upd H s.heap.objs.size (.tup [.int (i : Nat), x])) h'' s.heap.objs.size (.tup [.int (i : Nat), x]) :=
      ⟨by show 2 ≤ sizeLine; decide, [.int i tk, u'], .cons ⟨_, rfl⟩ (.cons ru .nil), ⟨_, hT2, rfl, _, rfl⟩⟩
    have I1 : Inv X pins σ (upd H s.heap.objs.size (.tup [.int (i : Nat), x])) { s with heap := h'', toks := tk + 1 } :=
      I.turnedNew (ch := [e, it]) (fun b ob hb q => (sb.2 b (fun z => hb (by simp [z]))).trans (hk b ob (fun z => hb (by simp [z])) (fun z => hb (by simp [z])) q)) hf (Nat.le_refl _) new
    refine ⟨.ref s.heap.objs.size, _, I1, rfl, ⟨_, x, rfl, I.hok.fresh (Nat.le_refl _), rfl, fun ys hy => ?_⟩, ⟨⟨u', ?_⟩, hst'.1.at fun o q => (sb.2 it (Ne.symm hne)).trans q, hne, hai, hae⟩, fun b hb => ?_⟩
    · have := I.tuple_inj hy hq
      rw [this]
      exact hx
    · have e1 : ((i + 1 : Nat) : Int) = (i : Int) + 1 := by omega
      rw [e1]; exact he'
    · have hb' : b < s.heap.objs.size := by
        have e' : b = e ∨ b = it := by simpa using hb
        rcases e' with z | z
        · rw [z]; exact hel
        · rw [z]; exact hil
      rw [upd_ne (Nat.ne_of_lt hb')]
      exact (hf b hb).1
  done := by
    intro X hP hw hK hc i pins s σ H E I hf st hg
    subst hP hw hK
    obtain ⟨⟨old, he⟩, hit, hne, hai, hae⟩ := st
    obtain ⟨xs, hq, hx⟩ := hg
    obtain ⟨its, rv, p, hz⟩ := I.tuple hq
    obtain ⟨f0, f1, f2, f3, f4, f5⟩ := hf it (by simp)
    have hl := rv.length
    have hle : its.toArray[i]? = none := by simp; omega
    exact enumT_end (I.ok.hd hc) he hit p hle fun h' eb => ⟨rfl, I.turned (t' := s.toks) (fun b o hb q => eb b o hb q) f0 f1 f3 f4 f5⟩
  self := fun A i s Q E st h => let ⟨⟨_, he⟩, _⟩ := st; wpAny_pyIter_enum he h
def iEnumA (K : PySem.W.Frag) (ta : TA) : TI := fun σ H R => ta σ H fun vs H1 => ∃ a xs, vs = [.ref a] ∧ ((SqL K H1 a xs ∧ R (Ite K a) H1) ∨ (SqT K H1 a xs ∧ R (IteT K a) H1))
theorem pi_enumA {X : Cx} {e : Expr} {ta : TA} {p pos tpos : Pos} {elts : List Expr} {kk : Nat} (hg : Gl X "enumerate") (hm : X.mg "enumerate" = none) (ha : PA X [e] ta) (hs : starEach [e] X.env = [(false, eval e X.env)] := by rfl) :
    PI X (.Tuple elts kk tpos) (.Call (.Name "enumerate" p) [e] [] pos) (iEnumA X.K ta) := by
  refine ⟨fun pins s σ H R I h => ?_⟩
  refine Call_ (ld_blt I hg hm boot_enumerate (PyProof.Rows.callWith_type1 (thn (ha.run pos pins s σ H _ I h) fun us s1 ⟨vs, H1, I1, r1, q1⟩ => ?_) hs rfl))
  obtain ⟨a, xs, ex, q1⟩ := q1
  subst ex
  cases r1 with
  | cons r rr =>
    cases rr
    cases r
    have fresh2 : ∀ b, b ∈ [s1.heap.objs.size + 1, s1.heap.objs.size] → FpOk X pins H1 b := fun b hb => by
      have e' : b = s1.heap.objs.size + 1 ∨ b = s1.heap.objs.size := by simpa using hb
      have hle : s1.heap.objs.size ≤ b := by
        rcases e' with z | z
        · rw [z]; exact Nat.le_add_right _ _
        · rw [z]; exact Nat.le_refl _
      exact I1.fpOk hle (I1.hok.fresh hle)
    rcases q1 with ⟨hq, q⟩ | ⟨hq, q⟩
    · obtain ⟨its, rv, p', hz⟩ := I1.list hq
      refine call_enumerate_list p'.isList fun h' he hit hsz hk => wpAny_pyIter_enum he ?_
      exact ⟨s1.heap.objs.size + 1, [s1.heap.objs.size + 1, s1.heap.objs.size], _, _, H1, rfl, I1.kept (t' := s1.toks) hk, turn_enum a (s1.heap.objs.size + 1) s1.heap.objs.size, ⟨⟨.none, he⟩, hit, Nat.succ_ne_self _⟩, fresh2, q⟩
    · obtain ⟨its, rv, p', hz⟩ := I1.tuple hq
      obtain ⟨o1, ho1, _⟩ := id p'
      have hal : a < s1.heap.objs.size := Heap.lt_size ho1
      refine call_enum1 (begins_tuple a its.toArray) p' fun h' he hit hsz hk => wpAny_pyIter_enum he ?_
      exact ⟨s1.heap.objs.size + 1, [s1.heap.objs.size + 1, s1.heap.objs.size], _, _, H1, rfl, I1.kept (t' := s1.toks) hk, turn_enumT a (s1.heap.objs.size + 1) s1.heap.objs.size, ⟨⟨.none, he⟩, ⟨_, hit, rfl, rfl⟩, Nat.succ_ne_self _, Nat.ne_of_lt hal, Nat.ne_of_lt (Nat.lt_succ_of_lt hal)⟩, fresh2, q⟩
end DEn
/-! ### over data -/
namespace DL
open PySem PySem.Spec PyProof.Rows L2 DEn
variable [B : Obs]
section
variable {X : Cx} {W : WX} {K : PySem.W.Frag} {F H : Hp} {M : Md} {n : Nat}
/-- each item with its place -/
def enL (xs : List D) : List D := xs.zipIdx.map fun p => .tup [.int (p.2 : Nat), p.1]
theorem enL_len {xs : List D} : (enL xs).length = xs.length := by simp [enL]
theorem enL_at {xs : List D} {i : Nat} {d : D} (h : (enL xs)[i]? = some d) : ∃ x, xs[i]? = some x ∧ d = .tup [.int (i : Nat), x] := by
  unfold enL at h
  rw [List.getElem?_map, List.getElem?_zipIdx] at h
  cases e : xs[i]? with
  | none =>
    rw [e] at h
    cases h
  | some x =>
    rw [e] at h
    refine ⟨x, rfl, ?_⟩
    have := Option.some.inj h
    rw [← this]
    simp
/-- for i, x in enumerate(e) -/
def tIEn (t : TAd) : TId := fun Xd δ M R => t Xd δ M fun ds M1 => match ds with
  | [d] => optP (seqS M1 d) fun bx => R ⟨enL bx.2, fun N => seqS N d = some bx⟩ M1
  | _ => False
theorem feed_enL {a : Addr} {xs : List D} {ok : Md → Prop} (hv : ∀ {G H : Hp} {M : Md}, Le F G → Rl K G H M → ok M → ∃ vs, H a = some (.lst vs) ∧ Rps K G vs xs) : Feeds K F ⟨enL xs, ok⟩ (Ite K a) where
  go := fun {i G H M} g l h hi => by
    obtain ⟨vs, p, r⟩ := hv g l h
    have hi' : i < xs.length := by rw [← enL_len]; exact hi
    obtain ⟨v, e, _⟩ := r.at' (List.getElem?_eq_getElem hi')
    exact ⟨vs, v, .inl (.inl p), e⟩
  stop := fun {i G H M} g l h hi => by
    obtain ⟨vs, p, r⟩ := hv g l h
    exact ⟨vs, .inl (.inl p), by rw [r.len, ← enL_len]; exact hi⟩
  yld := fun {i G H H' M x d'} g l h e hy => by
    obtain ⟨T, y, rfl, hT, rfl, hx⟩ := hy
    obtain ⟨vs, p, r⟩ := hv g l h
    obtain ⟨z, e1, rfl⟩ := enL_at e
    obtain ⟨v, e2, r1⟩ := r.at' e1
    have e3 := hx vs (.inl (.inl p))
    rw [e2] at e3
    cases e3
    obtain ⟨l2, g2⟩ := l.keep hT (.tup [.int (i : Nat), y])
    exact ⟨_, g2, l2, .tup (.inl (.inl upd_same)) (.cons (.int _) (.cons (r1.mono g2) .nil))⟩
theorem feed_enT {a : Addr} {xs : List D} {ok : Md → Prop} (hv : ∀ {G H : Hp} {M : Md}, Le F G → Rl K G H M → ok M → ∃ vs, SqT K H a vs ∧ Rps K G vs xs) : Feeds K F ⟨enL xs, ok⟩ (IteT K a) where
  go := fun {i G H M} g l h hi => by
    obtain ⟨vs, p, r⟩ := hv g l h
    have hi' : i < xs.length := by rw [← enL_len]; exact hi
    obtain ⟨v, e, _⟩ := r.at' (List.getElem?_eq_getElem hi')
    exact ⟨vs, v, p, e⟩
  stop := fun {i G H M} g l h hi => by
    obtain ⟨vs, p, r⟩ := hv g l h
    exact ⟨vs, p, by rw [r.len, ← enL_len]; exact hi⟩
  yld := fun {i G H H' M x d'} g l h e hy => by
    obtain ⟨T, y, rfl, hT, rfl, hx⟩ := hy
    obtain ⟨vs, p, r⟩ := hv g l h
    obtain ⟨z, e1, rfl⟩ := enL_at e
    obtain ⟨v, e2, r1⟩ := r.at' e1
    have e3 := hx vs p
    rw [e2] at e3
    cases e3
    obtain ⟨l2, g2⟩ := l.keep hT (.tup [.int (i : Nat), y])
    exact ⟨_, g2, l2, .tup (.inl (.inl upd_same)) (.cons (.int _) (.cons (r1.mono g2) .nil))⟩
theorem pien {e : Expr} {te : TAd} {p pos tpos : Pos} {elts : List Expr} {kk : Nat} (hm : X.mg "enumerate" = none) (ha : PAd X W [e] te) (hg : Gl X "enumerate" := by rfl) (hs : starEach [e] X.env = [(false, eval e X.env)] := by rfl) :
    PId X W (.Tuple elts kk tpos) (.Call (.Name "enumerate" p) [e] [] pos) (tIEn te) := pi_imp (pi_enumA hg hm ha hs) fun σ H R ⟨F, δ, M, Rd, Xd, l, s, kx, k, q⟩ =>
  lowA_then l s kx q ⟨fun {ds M1 vs G1 H1} g1 l1 r1 q1 => by
    match ds, r1, q1 with
    | [d], .cons r .nil, q1 =>
      obtain ⟨⟨b, xs⟩, hx, q1⟩ := optP_out (show optP (seqS M1 d) (fun bx => Rd ⟨enL bx.2, fun N => seqS N d = some bx⟩ M1) from q1)
      cases d with
      | tup ys =>
        cases hx
        cases r with
        | tup p rr => exact ⟨_, _, rfl, .inr ⟨l1.sub.sqt p, k g1 l1 (feed_enT fun {G H M} g l _ => ⟨_, l.sub.sqt (g.sqt p), rr.mono g⟩) q1⟩⟩
      | lst ys =>
        cases hx
        cases r with
        | lst p rr => exact ⟨_, _, rfl, .inl ⟨.inl (.inl (l1.sub.of p)), k g1 l1 (feed_enL fun {G H M} g l _ => ⟨_, l.sub.of (g.of p), rr.mono g⟩) q1⟩⟩
      | ref a =>
        cases r
        cases b with
        | false =>
          obtain ⟨_, vs, p, rr⟩ := l1.cell a _ (seqS_out hx)
          refine ⟨a, vs, rfl, .inl ⟨.inl (.inl p), k g1 l1 (feed_enL fun {G H M} g l h => ?_) q1⟩⟩
          obtain ⟨_, ws, p2, r2⟩ := l.cell a _ (seqS_out h)
          exact ⟨ws, p2, r2⟩
        | true =>
          obtain ⟨vs, p, rr⟩ := tux_sqt l1 (seqS_out hx)
          refine ⟨a, vs, rfl, .inr ⟨p, k g1 l1 (feed_enT fun {G H M} g l h => ?_) q1⟩⟩
          obtain ⟨ws, p2, r2⟩ := tux_sqt l (seqS_out h)
          exact ⟨ws, p2, r2⟩
      | _ => cases hx⟩
/-- for x, y in zip(v, w), two tuples, or two lists that do not change -/
def tIZp (t : TAd) : TId := fun Xd δ M R => t Xd δ M fun ds M1 => match ds with
  | [.tup xs, .tup ys] => R ⟨(xs.zip ys).map fun p => .tup [p.1, p.2], fun _ => True⟩ M1
  | [.lst xs, .lst ys] => R ⟨(xs.zip ys).map fun p => .tup [p.1, p.2], fun _ => True⟩ M1
  | _ => False
theorem zipD_at {xs ys : List D} {i : Nat} {d : D} (h : ((xs.zip ys).map fun p => D.tup [p.1, p.2])[i]? = some d) : ∃ x y, xs[i]? = some x ∧ ys[i]? = some y ∧ d = .tup [x, y] := by
  rw [List.getElem?_map] at h
  cases e : (xs.zip ys)[i]? with
  | none =>
    rw [e] at h
    cases h
  | some p =>
    rw [e] at h
    have e2 := Option.some.inj h
    rw [List.getElem?_zip_eq_some] at e
    exact ⟨p.1, p.2, e.1, e.2, e2.symm⟩
theorem feed_zipT {a b : Addr} {xs ys : List D} {vs ws : List V} (p : SqT K F a vs) (r : Rps K F vs xs) (p2 : SqT K F b ws) (r2 : Rps K F ws ys) : Feeds K F ⟨(xs.zip ys).map fun p => .tup [p.1, p.2], fun _ => True⟩ (RZ.ItzT K a b) where
  go := fun {i G H M} g l h hi => by
    simp only [List.length_map, List.length_zip] at hi
    obtain ⟨v, e, _⟩ := r.at' (List.getElem?_eq_getElem (show i < xs.length by omega))
    obtain ⟨w, e2, _⟩ := r2.at' (List.getElem?_eq_getElem (show i < ys.length by omega))
    exact ⟨vs, ws, v, w, l.sub.sqt (g.sqt p), l.sub.sqt (g.sqt p2), e, e2⟩
  stop := fun {i G H M} g l h hi => by
    simp only [List.length_map, List.length_zip] at hi
    refine ⟨vs, ws, l.sub.sqt (g.sqt p), l.sub.sqt (g.sqt p2), ?_⟩
    rw [r.len, r2.len]
    omega
  yld := fun {i G H H' M x d'} g l h e hy => by
    obtain ⟨T, y, y2, rfl, hT, rfl, hx, hx2⟩ := hy
    obtain ⟨z, z2, e1, e2, rfl⟩ := zipD_at e
    obtain ⟨v, e3, r3⟩ := r.at' e1
    obtain ⟨w, e4, r4⟩ := r2.at' e2
    have e5 := hx vs (l.sub.sqt (g.sqt p))
    have e6 := hx2 ws (l.sub.sqt (g.sqt p2))
    rw [e3] at e5
    rw [e4] at e6
    cases e5
    cases e6
    obtain ⟨l2, g2⟩ := l.keep hT (.tup [y, y2])
    exact ⟨_, g2, l2, .tup (.inl (.inl upd_same)) (.cons (r3.mono (g.then' g2)) (.cons (r4.mono (g.then' g2)) .nil))⟩
theorem feed_zipL {a b : Addr} {xs ys : List D} {vs ws : List V} (p : F a = some (.lst vs)) (r : Rps K F vs xs) (p2 : F b = some (.lst ws)) (r2 : Rps K F ws ys) : Feeds K F ⟨(xs.zip ys).map fun p => .tup [p.1, p.2], fun _ => True⟩ (Itz K a b) where
  go := fun {i G H M} g l h hi => by
    simp only [List.length_map, List.length_zip] at hi
    obtain ⟨v, e, _⟩ := r.at' (List.getElem?_eq_getElem (show i < xs.length by omega))
    obtain ⟨w, e2, _⟩ := r2.at' (List.getElem?_eq_getElem (show i < ys.length by omega))
    exact ⟨vs, ws, v, w, .inl (.inl (l.sub.of (g.of p))), .inl (.inl (l.sub.of (g.of p2))), e, e2⟩
  stop := fun {i G H M} g l h hi => by
    simp only [List.length_map, List.length_zip] at hi
    refine ⟨vs, ws, .inl (.inl (l.sub.of (g.of p))), .inl (.inl (l.sub.of (g.of p2))), ?_⟩
    rw [r.len, r2.len]
    omega
  yld := fun {i G H H' M x d'} g l h e hy => by
    obtain ⟨T, y, y2, rfl, hT, rfl, hx, hx2⟩ := hy
    obtain ⟨z, z2, e1, e2, rfl⟩ := zipD_at e
    obtain ⟨v, e3, r3⟩ := r.at' e1
    obtain ⟨w, e4, r4⟩ := r2.at' e2
    have e5 := hx vs (.inl (.inl (l.sub.of (g.of p))))
    have e6 := hx2 ws (.inl (.inl (l.sub.of (g.of p2))))
    rw [e3] at e5
    rw [e4] at e6
    cases e5
    cases e6
    obtain ⟨l2, g2⟩ := l.keep hT (.tup [y, y2])
    exact ⟨_, g2, l2, .tup (.inl (.inl upd_same)) (.cons (r3.mono (g.then' g2)) (.cons (r4.mono (g.then' g2)) .nil))⟩
theorem pizp {e e2 : Expr} {te : TAd} {p pos tpos : Pos} {elts : List Expr} {kk : Nat} (hm : X.mg "zip" = none) (ha : PAd X W [e, e2] te) (hg : Gl X "zip" := by rfl)
    (hs : starEach [e, e2] X.env = (false, eval e X.env) :: starEach [e2] X.env := by rfl) (hpl : (backTo pos (starEach [e2] X.env)).any (·.1) = false := by rfl) :
    PId X W (.Tuple elts kk tpos) (.Call (.Name "zip" p) [e, e2] [] pos) (tIZp te) := pi_imp (RZ.pi_zipA hg hm ha hs hpl) fun σ H R ⟨F, δ, M, Rd, Xd, l, s, kx, k, q⟩ =>
  lowA_then l s kx q ⟨fun {ds M1 vs G1 H1} g1 l1 r1 q1 => by
    match ds, vs, r1, q1 with
    | [.tup xs, .tup ys], [_, _], .cons (.tup p r) (.cons (.tup p2 r2) .nil), q1 => exact ⟨_, _, _, _, rfl, .inr ⟨l1.sub.sqt p, l1.sub.sqt p2, k g1 l1 (feed_zipT p r p2 r2) q1⟩⟩
    | [.lst xs, .lst ys], [_, _], .cons (.lst p r) (.cons (.lst p2 r2) .nil), q1 => exact ⟨_, _, _, _, rfl, .inl ⟨.inl (.inl (l1.sub.of p)), .inl (.inl (l1.sub.of p2)), k g1 l1 (feed_zipL p r p2 r2) q1⟩⟩⟩
end
end DL
/-! The data layer: comprehensions of two clauses; targets of several names. -/
namespace DL
open PySem PySem.Spec PyProof.Rows L2
variable [B : Obs]
section
variable {X : Cx} {W : WX} {K : PySem.W.Frag} {F H : Hp} {M : Md} {n : Nat}
def lcGo2 (t : Tg) (tt : TTd) (ti1 : TId) (t1 : Tg) (tt1 : TTd) (te : TEd) (vs1 : List Nat) (ok : Md → Prop) (δ : SD) (p : Addr) (Q : Md → Prop) : List D → Md → Prop
  | [], M => ok M ∧ (∃ acc, M p = some (.lst acc)) ∧ Q M
  | d :: ds, M => ok M ∧ ∃ δ', t.put d δ = some δ' ∧ tt X0 δ' M fun b M1 => if b = true then ti1 X0 δ' M1 fun S M2 => lcGo t1 tt1 te S.ok (wipeD δ' vs1) p (lcGo2 t tt ti1 t1 tt1 te vs1 ok δ p Q ds) S.items M2 else lcGo2 t tt ti1 t1 tt1 te vs1 ok δ p Q ds M1
def tLc2F (t : Tg) (ti : TId) (tt : TTd) (t1 : Tg) (ti1 : TId) (tt1 : TTd) (te : TEd) (vs vs1 : List Nat) : TEd := fun Xd δ M Q => ti Xd δ M fun S M1 => ∀ p, M1 p = none → lcGo2 t tt ti1 t1 tt1 te vs1 S.ok (wipeD δ vs) p (fun N => ∃ acc, N p = some (.lst acc) ∧ Q (.lst acc) (cut N p)) S.items (put M1 p (.lst []))
def tLc2M (t : Tg) (ti : TId) (tt : TTd) (t1 : Tg) (ti1 : TId) (tt1 : TTd) (te : TEd) (vs vs1 : List Nat) : TEd := fun Xd δ M Q => ti Xd δ M fun S M1 => ∀ p, M1 p = none → lcGo2 t tt ti1 t1 tt1 te vs1 S.ok (wipeD δ vs) p (fun N => Q (.ref p) N) S.items (put M1 p (.lst []))
theorem low_lc2 {t t1 : Tg} {ti ti1 : TId} {tt tt1 : TTd} {te : TEd} {vs vs1 : List Nat} {σ : L2.St} {Q : VK} (hm : ∀ i ∈ t.ix, i ∈ vs) (hm1 : ∀ i ∈ t1.ix, i ∈ vs1) {Qe : Addr → VD → Md → Prop}
    (hQ : ∀ {F H : Hp} {M : Md} {p : Addr} {Qd : VD} {acc : List D}, Rl K F H M → M p = some (.lst acc) → Kv K F Qd Q → Qe p Qd M → Q (.ref p) H)
    (h : ∃ F δ M Qd Xd, Rl K F H M ∧ Sls K F σ δ ∧ Kv K F Qd Q ∧ Kx K F Xd (WE W σ) ∧ ti Xd δ M fun S M1 => ∀ p, M1 p = none → lcGo2 t tt ti1 t1 tt1 te vs1 S.ok (wipeD δ vs) p (Qe p Qd) S.items (put M1 p (.lst []))) :
    tLc2 (lowI K W ti) (t.g K) (lowT K W0 tt) (lowI K W0 ti1) (t1.g K) (lowT K W0 tt1) (low K W0 te) vs vs1 σ H Q := by
  obtain ⟨F, δ, M, Qd, Xd, l, s, k, kx, h⟩ := h
  refine ⟨F, δ, M, _, Xd, l, s, kx, fun {S J M1 G H1} g l1 fd h1 => fun p hp => ?_, h⟩
  obtain ⟨n1, n2⟩ := l1.free hp
  refine ⟨fun i m H => ∃ G1 M, Le G G1 ∧ Rl K G1 H M ∧ i + m = S.items.length ∧ lcGo2 t tt ti1 t1 tt1 te vs1 S.ok (wipeD δ vs) p (Qe p Qd) (S.items.drop i) M,
    ⟨S.items.length, G, _, .rfl' G, l1.cellput (u := .lst []) (c := .lst []) n1 ⟨[], upd_same, .nil⟩, Nat.zero_add _, h1 p n2⟩, ?_⟩
  rintro i m H2 ⟨G1, M2, g1, l2, him, w⟩
  by_cases hi : i < S.items.length
  · right
    rw [List.drop_eq_getElem_cons hi] at w
    obtain ⟨w1, δ', ep, w2⟩ := w
    refine ⟨fd.go g1 l2 w1 hi, fun H' => ∃ G' M', Le G G' ∧ Rl K G' H' M' ∧ lcGo2 t tt ti1 t1 tt1 te vs1 S.ok (wipeD δ vs) p (Qe p Qd) (S.items.drop (i + 1)) M', ?_, ?_⟩
    · rintro H' ⟨G', M', e1, e2, h⟩
      exact ⟨m - 1, by omega, G', M', e1, e2, by omega, h⟩
    · intro x H' hy
      obtain ⟨G3, g3, l3, r3⟩ := fd.yld g1 l2 w1 (List.getElem?_eq_getElem hi) hy
      have s3 : Sls K G3 (wipe σ vs) (wipeD δ vs) := wipe_rel (s.mono ((g.then' g1).then' g3)) vs
      refine Tg.run l3 hm r3 s3 ep fun σ2 s2 z => ⟨?_, lowT_then l3 s2 kx0 w2 ⟨fun {b M4 G4 H4} g4 l4 h4 => ?_⟩⟩
      · rw [z, wipe_idem]
      have gg := g1.then' (g3.then' g4)
      cases b with
      | false => exact ⟨G4, M4, gg, l4, h4⟩
      | true =>
        refine ⟨G4, δ', M4, _, X0, l4, s2.mono g4, kx0, fun {S1 J1 M5 G5 H5} g5 l5 fd1 h5 => ?_, h4⟩
        refine ⟨fun j k H => ∃ G6 M, Le G5 G6 ∧ Rl K G6 H M ∧ j + k = S1.items.length ∧ lcGo t1 tt1 te S1.ok (wipeD δ' vs1) p (lcGo2 t tt ti1 t1 tt1 te vs1 S.ok (wipeD δ vs) p (Qe p Qd) (S.items.drop (i + 1))) (S1.items.drop j) M, ⟨S1.items.length, G5, M5, .rfl' G5, l5, Nat.zero_add _, h5⟩, ?_⟩
        rintro j kk H6 ⟨G6, M6, g6, l6, hjk, w6⟩
        by_cases hj : j < S1.items.length
        · right
          rw [List.drop_eq_getElem_cons hj] at w6
          obtain ⟨w61, δ2, ep2, w62⟩ := w6
          refine ⟨fd1.go g6 l6 w61 hj, fun H' => ∃ G' M', Le G5 G' ∧ Rl K G' H' M' ∧ lcGo t1 tt1 te S1.ok (wipeD δ' vs1) p (lcGo2 t tt ti1 t1 tt1 te vs1 S.ok (wipeD δ vs) p (Qe p Qd) (S.items.drop (i + 1))) (S1.items.drop (j + 1)) M', ?_, ?_⟩
          · rintro H' ⟨G', M', e1, e2, h⟩
            exact ⟨kk - 1, by omega, G', M', e1, e2, by omega, h⟩
          · intro x H' hy
            obtain ⟨G7, g7, l7, r7⟩ := fd1.yld g6 l6 w61 (List.getElem?_eq_getElem hj) hy
            have s7 : Sls K G7 (wipe σ2 vs1) (wipeD δ' vs1) := wipe_rel (s2.mono (g4.then' (g5.then' (g6.then' g7)))) vs1
            refine Tg.run l7 hm1 r7 s7 ep2 fun σ3 s8 z => ⟨?_, lowT_then l7 s8 kx0 w62 ⟨fun {b M8 G8 H8} g8 l8 h8 => ?_⟩⟩
            · rw [z, wipe_idem]
            have gh := g6.then' (g7.then' g8)
            cases b with
            | false => exact ⟨G8, M8, gh, l8, h8⟩
            | true =>
              refine low_then l8 (s8.mono g8) kx0 h8 ⟨fun {y M9 v9 G9 H9} g9 l9 r9 ⟨acc, ha, hz, h9⟩ => ?_⟩
              obtain ⟨ws, hf, hh, rr⟩ := pe_cell l9 ha
              exact ⟨ws, hh, by rw [rr.len]; exact hz, G9, _, gh.then' g9, l9.cellput (u := .lst (ws ++ [v9])) (c := .lst (acc ++ [y])) hf ⟨_, upd_same, rr.app (.one r9)⟩, h9⟩
        · left
          rw [List.drop_eq_nil_of_le (show S1.items.length ≤ j by omega)] at w6
          obtain ⟨w61, _, w62⟩ := w6
          exact ⟨fd1.stop g6 l6 w61 (by omega), G6, M6, (gg.then' g5).then' g6, l6, w62⟩
  · left
    rw [List.drop_eq_nil_of_le (by omega)] at w
    obtain ⟨w1, ⟨acc, ha⟩, w2⟩ := w
    exact ⟨fd.stop g1 l2 w1 (by omega), hQ l2 ha (k.mono (g.then' g1)) w2⟩
section
variable {elt tg iter tg1 iter1 : Expr} {ifs ifs1 : List Expr} {scope : Scope} {own : List (Str × Nat)} {pos : Pos} {t t1 : Tg} {ti ti1 : TId} {tt tt1 : TTd} {te : TEd} {vs1 : List Nat}
structure LcIn2 (X : Cx) (scope : Scope) (own : List (Str × Nat)) (vs1 : List Nat) (t : Tg) (tg : Expr) (ifs : List Expr) (tt : TTd) (t1 : Tg) (tg1 iter1 : Expr) (ti1 : TId) (ifs1 : List Expr) (tt1 : TTd) (elt : Expr) (te : TEd) (n : Nat) : Prop where
  ok : BlkOk X.N X.env.scope scope own
  ix : ∀ i ∈ t.ix, i ∈ own.map (·.2)
  ix1 : ∀ i ∈ t1.ix, i ∈ vs1
  v1 : ∀ i ∈ vs1, i ∈ own.map (·.2)
  g : ∀ (s : Shared) (H : Hp) (C : Addr) (cl : List (Str × Addr)) (fp : List Addr), PG (X.blk s H scope (compEnvC scope cl C X.env) fp) tg (t.g X.K)
  t : ∀ (s : Shared) (H : Hp) (C : Addr) (cl : List (Str × Addr)) (fp : List Addr), Cd (X.blk s H scope (compEnvC scope cl C X.env) fp) W0 n → PTs (X.blk s H scope (compEnvC scope cl C X.env) fp) ifs (lowT X.K W0 tt)
  i1 : ∀ (s : Shared) (H : Hp) (C : Addr) (cl : List (Str × Addr)) (fp : List Addr), Cd (X.blk s H scope (compEnvC scope cl C X.env) fp) W0 n → PI (X.blk s H scope (compEnvC scope cl C X.env) fp) tg1 iter1 (lowI X.K W0 ti1)
  g1 : ∀ (s : Shared) (H : Hp) (C : Addr) (cl : List (Str × Addr)) (fp : List Addr), PG (X.blk s H scope (compEnvC scope cl C X.env) fp) tg1 (t1.g X.K)
  t1 : ∀ (s : Shared) (H : Hp) (C : Addr) (cl : List (Str × Addr)) (fp : List Addr), Cd (X.blk s H scope (compEnvC scope cl C X.env) fp) W0 n → PTs (X.blk s H scope (compEnvC scope cl C X.env) fp) ifs1 (lowT X.K W0 tt1)
  e : ∀ (s : Shared) (H : Hp) (C : Addr) (cl : List (Str × Addr)) (fp : List Addr), Cd (X.blk s H scope (compEnvC scope cl C X.env) fp) W0 n → PE (X.blk s H scope (compEnvC scope cl C X.env) fp) elt (low X.K W0 te)
theorem plc2F (c : Cd X W n) (hi : PId X W tg iter ti) (b : LcIn2 X scope own vs1 t tg ifs tt t1 tg1 iter1 ti1 ifs1 tt1 elt te n) (hs : ∀ x, foldedSetIterable iter X.env x = pure x := by intro _; rfl) (hs1 : ∀ env x, foldedSetIterable iter1 env x = pure x := by intro _ _; rfl) :
    PEd X W (.ListComp elt [⟨tg, iter, ifs, 0⟩, ⟨tg1, iter1, ifs1, 0⟩] scope pos) (tLc2F t ti tt t1 ti1 tt1 te (own.map (·.2)) vs1) :=
  pe_imp (pe_lc2 c.calm c.nd hi b.ok b.v1 b.g (fun s H C cl fp => b.t s H C cl fp c.blk) (fun s H C cl fp => b.i1 s H C cl fp c.blk) b.g1 (fun s H C cl fp => b.t1 s H C cl fp c.blk) (fun s H C cl fp => b.e s H C cl fp c.blk) hs hs1) fun _ _ _ h =>
    low_lc2 b.ix b.ix1 (Qe := fun p Q N => ∃ acc, N p = some (.lst acc) ∧ Q (.lst acc) (cut N p)) (fun {F H M p Qd acc} l ha k ⟨acc', hb, q⟩ => by
      obtain ⟨vs, hf, hh, r⟩ := pe_cell l hb
      obtain ⟨l2, g2⟩ := l.froze hh hf
      exact k.go g2 l2 (.lst upd_same (r.mono g2)) q) h
theorem plc2M (c : Cd X W n) (hi : PId X W tg iter ti) (b : LcIn2 X scope own vs1 t tg ifs tt t1 tg1 iter1 ti1 ifs1 tt1 elt te n) (hs : ∀ x, foldedSetIterable iter X.env x = pure x := by intro _; rfl) (hs1 : ∀ env x, foldedSetIterable iter1 env x = pure x := by intro _ _; rfl) :
    PEd X W (.ListComp elt [⟨tg, iter, ifs, 0⟩, ⟨tg1, iter1, ifs1, 0⟩] scope pos) (tLc2M t ti tt t1 ti1 tt1 te (own.map (·.2)) vs1) :=
  pe_imp (pe_lc2 c.calm c.nd hi b.ok b.v1 b.g (fun s H C cl fp => b.t s H C cl fp c.blk) (fun s H C cl fp => b.i1 s H C cl fp c.blk) b.g1 (fun s H C cl fp => b.t1 s H C cl fp c.blk) (fun s H C cl fp => b.e s H C cl fp c.blk) hs hs1) fun _ _ _ h =>
    low_lc2 b.ix b.ix1 (Qe := fun p Q N => Q (.ref p) N) (fun {F H M p Qd acc} l ha k q => k.go (.rfl' F) l (.ref p) q) h
end
/-! ### targets of two names -/
theorem g2 {X : Cx} {x y : Str} {px py pos : Pos} {kk : Nat} (i j : Nat) (hc : X.calm = true) (nd : X.N.Nodup) (hi : X.N[i]? = some x := by rfl) (hj : X.N[j]? = some y := by rfl) (hx : Loc X.env.scope x := by first | exact .inl rfl | exact .inr rfl) (hy : Loc X.env.scope y := by first | exact .inl rfl | exact .inr rfl)
    (hf : X.fn x = true ∨ X.env.scope.names.lookup x = some .local := by first | exact .inl rfl | exact .inr rfl) (hf2 : X.fn y = true ∨ X.env.scope.names.lookup y = some .local := by first | exact .inl rfl | exact .inr rfl)
    (hn : (assignEach [.Name x px, .Name y py] X.env).length = 2 := by rfl) (hst : (assignEach [.Name x px, .Name y py] X.env).findIdx? (·.1) = none := by rfl)
    (he : (assignEach [.Name x px, .Name y py] X.env).map (·.2) = assign (.Name x px) X.env :: (assignEach [.Name y py] X.env).map (·.2) := by rfl) (he2 : (assignEach [.Name y py] X.env).map (·.2) = assign (.Name y py) X.env :: (assignEach [] X.env).map (·.2) := by rfl) :
    PG X (.Tuple [.Name x px, .Name y py] kk pos) ((Tg.many [i, j]).g X.K) := pg_tup hc (pgs_cons (pg_name nd hi hx hf) (pgs_cons (pg_name nd hj hy hf2) pgs_nil he2) he) hn hst
end
end DL
/-! A tuple times an int; index of ints in a tuple. -/
namespace DNu
open PySem PySem.Spec PyProof.Rows L2
open AutoSeq1 (wpAny_loadPart')
theorem tuple_mul1 (l : Addr) (items : Array Value) (n : Nat) (dd : Option Addr) (sl : Array (Option Value)) (u : Tok) :
    Meets (Builtin.«tuple.__mul__» ⟨[.ref l, .int 1 u], []⟩) (fun _ R s => s.heap.get? l = some { cls := .type "tuple", dict := dd, data := .seq items n, slots := sl } ∧ R (.ok (.ret (Value.ref l))) s) :=
  .of_wp fun prog w A R s h => by
    obtain ⟨hp, g, d, tk, os⟩ := s
    obtain ⟨hl, h⟩ := h
    have f1 := AutoSeq1.idx_int
    have c1 : (items.isEmpty || (1 : Int) == 1) = true := by simp
    wp_walk using wpAny_loadPart' hl
    exact ⟨_, rfl, h⟩
/-- xs * 1: the same tuple -/
def rRep1 (K : PySem.W.Frag) : R2 := fun x y H Q => ∃ l xs, x = .ref l ∧ y = .int 1 ∧ SqT K H l xs ∧ Q (.ref l) H
section
variable {X : Cx}
theorem op_rep1 : OpR X (binaryOp .Mult) (rRep1 X.K) := by
  intro pins s σ H x y v u Q I rx ry h
  obtain ⟨l, xs, rfl, rfl, hT, q⟩ := h
  cases rx
  obtain ⟨t, rfl⟩ := ry
  obtain ⟨its, r, ⟨⟨cls, dd, data, sl⟩, ho, hc, n, hd⟩, hs⟩ := I.tuple hT
  simp only at hc hd
  subst hc hd
  exact wpAny_binaryOp_repeat_ref (T := "tuple") (U := "int") (by decide) ⟨_, ho, rfl⟩ (fun s' => typeIs_int s' 1 t) noFill_tuple_mul F.fills_int_mul F.slot_int_rmul repeat_tuple F.slot_int_index.lookup
    (call_meets F.slot_int_rmul (typeIs_int s 1 t) F.entry_int_rmul (F.args_int_rmul_2 _ _) (int_rmul_tuple 1 t l its.toArray n dd sl)
      ⟨ho, rfl, ⟨_, ho, rfl⟩, call_meets F.slot_tuple_mul ⟨_, ho, rfl⟩ F.entry_tuple_mul (F.args_tuple_mul_2 _ _) (tuple_mul1 l its.toArray n dd sl t) ⟨ho, ⟨.ref l, H, I, rfl, q⟩⟩⟩)
theorem flat_ints (ys : List Int) : (ys.map V.int).all flatV = true := by
  rw [List.all_map]
  exact List.all_eq_true.mpr fun _ _ => rfl
/-- t.index(k), the first place -/
theorem mt_tup_indexI : MtR X "tuple.index" (fun x xs H Q => ∃ p, ∃ ys : List Int, ∃ z j, x = .ref p ∧ xs = [.int z] ∧ SqT X.K H p (ys.map V.int) ∧ ys[j]? = some z ∧ (∀ m, m < j → ys[m]? ≠ some z) ∧ Q (.int (j : Nat)) H) := by
  intro pins s σ H x xs v us Q I rx rs h
  obtain ⟨p, ys, z, j, rfl, rfl, hq, hy, hno, q⟩ := h
  cases rx
  obtain ⟨u, rfl, t, rfl⟩ := vals1 rs
  obtain ⟨its, r, pl, hz⟩ := I.tuple hq
  obtain ⟨⟨cls, dd, dt, sl⟩, ho, hc, n, hd⟩ := pl
  simp only at hc hd
  subst hc
  subst hd
  have hl : its.toArray.size = ys.length := by rw [List.size_toArray, ← r.length, List.length_map]
  have hj : j < its.toArray.size := by rw [hl]; exact (List.getElem?_eq_some_iff.mp hy).1
  have at' : ∀ (m : Nat) (hm : m < its.toArray.size), ∃ y t', ys[m]? = some y ∧ its.toArray[m] = Value.int y t' := fun m hm => by
    have hm' : m < ys.length := by rw [← hl]; exact hm
    obtain ⟨w, hw, t', hw'⟩ := r.get (i := m) (x := .int ys[m]) (by simp [hm'])
    refine ⟨ys[m], t', List.getElem?_eq_getElem hm', ?_⟩
    have e := (List.getElem?_eq_some_iff.mp hw).2
    rw [← hw', ← e]
    simp
  refine call_meets PySem.F.slot_tuple_index ⟨_, ho, rfl⟩ PySem.F.entry_tuple_index (PySem.F.args_tuple_index_2 _ _) (TI.tuple_indexAt p its.toArray n dd sl (.int z t) (eqU (.int z)) j hj ?_ ?_)
    ⟨ho, fun w hw => mem_eqAt (x := .int z) ⟨t, rfl⟩ rfl r (flat_ints ys) w (by simpa using hw), ⟨.int (j : Nat), H, I.tok _, ⟨_, rfl⟩, q⟩⟩
  · obtain ⟨y, t', h1, h2⟩ := at' j hj
    rw [hy] at h1
    cases h1
    rw [h2]
    show (z == z) = true
    exact beq_self_eq_true z
  · intro m hm hmj
    obtain ⟨y, t', h1, h2⟩ := at' m hm
    rw [h2]
    show (y == z) = false
    exact beq_eq_false_iff_ne.mpr fun e => hno m hmj (by rw [h1, e])
theorem pe_or {e : Expr} {t u : TE} (h : PE X e t) (g : PE X e u) : PE X e (fun σ H Q => t σ H Q ∨ u σ H Q) := ⟨fun pins s σ H Q I q => q.elim (h.run pins s σ H Q I) (g.run pins s σ H Q I)⟩
end
end DNu
/-! The data layer: repr of plain data, [..] * n as a cell, an own ==. -/
namespace DL
open PySem PySem.Spec PyProof.Rows L2
variable [B : Obs]
section
variable {X : Cx} {W : WX} {K : PySem.W.Frag} {n k : Nat}
/-! ### repr -/
theorem call_reprP (hg : X.A.guards = some []) (hu : X.A.units + 200 < cLine) : CallR X (.builtin "repr") (fun xs H Q => ∃ (a : Addr) (p : PyData), xs = [.ref a] ∧ Dp X.K H (.ref a) p ∧ p.showable = true ∧ p.hasDict = false ∧ p.depth ≤ 190 ∧ p.shown.length ≤ sizeLine ∧ Q (.str p.shown) H) := by
  rintro pins s σ H vs us Q I r ⟨a, p, rfl, hd, h1, h2, h3, h4, q⟩
  obtain ⟨u, rfl, ru⟩ := vals1 r
  obtain ⟨as, rd⟩ := Dp.reads I p _ _ hd ru
  obtain rfl : u = Value.ref a := ru
  exact repr_of_reads' rd h1 (PyData.noDict_hsm h2) hg (by omega) (fun _ _ z => z) (fun h' u tk hk => ⟨.str p.shown, H, I.kept (t' := tk) hk, ⟨_, rfl⟩, q⟩) h4
def reprD : Rm := fun ds M Q => match ds with
  | [d] => ∃ p, Py M d p ∧ (seqA M d).isSome = true ∧ p.showable = true ∧ p.hasDict = false ∧ p.depth ≤ 190 ∧ p.shown.length ≤ sizeLine ∧ Q (.str p.shown) M
  | _ => False
theorem ok_repr : OKC K (fun xs H Q => ∃ (a : Addr) (p : PyData), xs = [.ref a] ∧ Dp K H (.ref a) p ∧ p.showable = true ∧ p.hasDict = false ∧ p.depth ≤ 190 ∧ p.shown.length ≤ sizeLine ∧ Q (.str p.shown) H) reprD := ⟨fun {F H M vs ds Qd Q} l rs k q => by
  match ds, vs, rs, q with
  | [d], [v], .cons r .nil, ⟨p, hp, hs, h1, h2, h3, h4, q⟩ =>
    obtain ⟨xs, hx⟩ := Option.isSome_iff_exists.mp hs
    obtain ⟨a, ws, rfl, _, _⟩ := seqA_ok l r hx
    exact ⟨a, p, rfl, hp.dp l r, h1, h2, h3, h4, k.go (.rfl' F) l (.str _) q⟩⟩
theorem Cd.ru (c : Cd X W n) : X.A.units + 200 < cLine := by
  have := c.rm.un
  omega
/-! ### xs * k as a new cell -/
def rMulM : R2d := fun x y M Q => match y with
  | .int k => optP (seqL M x) fun xs => (-(2 ^ 63) ≤ k ∧ k < 2 ^ 63) ∧ xs.length * k.toNat ≤ sizeLine ∧ ∀ p, M p = none → Q (.ref p) (put M p (.lst (List.replicate k.toNat xs).flatten))
  | _ => False
theorem ok_mulM : OK2 K rMulH rMulM := ⟨fun {F H M x y d e Qd Q} l rx ry kq q => by
  cases ry with
  | int k =>
    obtain ⟨xs, h1, hk, hz, q3⟩ := optP_out (show optP (seqL M d) (fun xs => (-(2 ^ 63) ≤ k ∧ k < 2 ^ 63) ∧ xs.length * k.toNat ≤ sizeLine ∧ ∀ p, M p = none → Qd (.ref p) (put M p (.lst (List.replicate k.toNat xs).flatten))) from q)
    obtain ⟨a, vs, e1, p1, r1⟩ := seqL_ok l rx h1
    refine .inr ⟨a, k, vs, e1, rfl, p1, hk.1, hk.2, by rw [r1.len]; exact hz, fun p hp => ?_⟩
    obtain ⟨n1, n2⟩ := l.free hp
    exact kq.go (.rfl' F) (l.cellput (u := .lst (List.replicate k.toNat vs).flatten) (c := .lst (List.replicate k.toNat xs).flatten) n1 ⟨_, upd_same, r1.rep _⟩) (.ref p) (q3 p n2)
  | _ => exact q.elim⟩
/-! ### an own == -/
structure HasQ (P : Program) (w : World) (K : PySem.W.Frag) (mg : Str → Option Value) (base : Heap) (k : Nat) (C : Addr) (sp : SpD) : Prop where
  ex : ∃ f fd ps, FnD P w K mg base k f fd ps sp ∧ PySem.W.findIn K (.ref C) "__eq__" = some (some (.ref f)) ∧ PySem.W.isFn K (.ref f) = true ∧ Binds K fd ps []
def rEqI (K : PySem.W.Frag) (C : Addr) (sp : SpD) : R2 := fun x y H Q => (∃ a b dx dy fs gs, x = .ref a ∧ y = .ref b ∧ H a = some (.ins C dx fs) ∧ H b = some (.ins C dy gs)) ∧ toSp K sp [x, y] H (fun v H2 => ∃ t, v = .bl t ∧ Q v H2) fun _ _ _ => False
theorem op_eqI {C : Addr} {sp : SpD} (c : Cd X W n) (G : HasQ X.prog X.w X.K X.mg X.base k C sp) (hk : k ≤ n) : OpR X (compareOp .Eq) (rEqI X.K C sp) := by
  rintro pins s σ H x y v u Q I rx ry ⟨⟨a, b, dx, dy, fs, gs, rfl, rfl, ha, hb'⟩, hsp⟩
  obtain ⟨f, fd, ps, F, hs, hf, hb⟩ := G.ex
  cases rx
  cases ry
  obtain ⟨mA, J, _⟩ := ins_get I.hok ha
  obtain ⟨mB, J', _⟩ := ins_get I.hok hb'
  obtain ⟨od, J, _⟩ := J.look
  obtain ⟨od', J', _⟩ := J'.look
  obtain ⟨m, hF⟩ := I.fr
  show wpAny (model X.prog X.w) X.A (richCompare .Eq (.ref a) (.ref b)) (EP X pins σ Q) X.xe s
  refine PySem.W.cmp_K (op := .Eq) (tb := .ref C) (c.rm.mono hk).units0 hF I.ok.mod.kin J J'.type (by simp [PySem.W.notFirst]) hs hf ?_
  have many := F.many hsp
  refine wpAny_call (codeAny_mono (F.goes (E := fun _ _ _ => False) (us := [.ref a, .ref b]) (vs := [V.ref a, V.ref b]) (c.rm.mono hk) c.gd I.env0 (by simpa using hb s [.ref a, .ref b] I.kIn (by simpa using many)) (show Vals [V.ref a, V.ref b] [Value.ref a, Value.ref b] from .cons rfl (.cons rfl .nil)) hsp) fun r s' hq => ?_)
  match r, hq with
  | .error e, hq =>
    obtain ⟨_, _, _, _, _, _, _, _, _, _, _, _, z⟩ := hq
    exact z.elim
  | .ok (.ret w), hq =>
    obtain ⟨z, H', I', rz, ⟨t, ez, q⟩⟩ := I.after hq
    subst ez
    cases rz
    exact ⟨.bl t, H', I', rfl, q⟩
  | .ok .next, hq => exact hq.elim
  | .ok .brk, hq => exact hq.elim
  | .ok .cont, hq => exact hq.elim
def insD (M : Md) (C : Addr) (d : D) : Prop := ∃ fs, fldsD M d = some (C, fs)
def rEqID (C : Addr) (sp : SpD) : R2d := fun x y M Q => insD M C x ∧ insD M C y ∧ sp [x, y] M (fun d M2 => ∃ t, d = .bl t ∧ Q d M2) X0
theorem ok_eqI {C : Addr} {sp : SpD} : OK2 K (rEqI K C sp) (rEqID C sp) := ⟨fun {F H M x y d e Qd Q} l rx ry kq ⟨⟨fs, h1⟩, ⟨gs, h2⟩, q⟩ => by
  obtain ⟨a, dx, vs, ea, ha, _⟩ := flds_ok l rx h1
  obtain ⟨b, dy, ws, eb, hb, _⟩ := flds_ok l ry h2
  exact ⟨⟨a, b, dx, dy, vs, ws, ea, eb, ha, hb⟩, F, M, _, _, X0, l, .cons rx (.cons ry .nil), ⟨fun {d' M2 v2 G2 H2} g l2 r2 ⟨t, et, q2⟩ => by
    subst et
    cases r2
    exact ⟨t, rfl, kq.go g l2 (.bl t) q2⟩⟩, kx0, q⟩⟩
/-! ### isinstance of an own class -/
structure IsC (K : PySem.W.Frag) (C : Addr) : Prop where
  cl : Cls K C
  ha : PySem.W.findIn K (.ref C) "__class__" = some (some (.builtin "object.__class__"))
  hn : PySem.W.specialIn K (.builtin "object.__class__") "__get__" = some (some (.builtin "getset_descriptor.__get__"))
  htk : PySem.W.takesIn K (.builtin "object.__class__") = some true
  hm : PySem.W.mroIn K C (.type "object") = some true
/-- isinstance(x, C), x an instance of C -/
def isO (C : Addr) : Rm := fun ds M Q => match ds with
  | [d, .ref c] => c = C ∧ insD M C d ∧ Q (.bl true) M
  | _ => False
theorem ok_isO {C : Addr} (T : IsC K C) : OKC K (rIsi K) (isO C) := ⟨fun {F H M vs ds Qd Q} l rs k q => by
  match ds, vs, rs, q with
  | [d, .ref c], [v, _], .cons r (.cons (.ref _) .nil), ⟨ec, ⟨fs, h⟩, qq⟩ =>
    subst ec
    obtain ⟨a, dx, ws, rfl, ha, _⟩ := flds_ok l r h
    exact ⟨.ref a, .ref c, .ref c, .ref c, true, rfl, .own c, .base (.ins ha T.cl T.ha T.hn T.htk T.hm), by unfold PySem.W.kitOne; rw [if_pos (by simp)], k.go (.rfl' F) l (.bl _) qq⟩⟩
end
end DL
/-! The data layer: lemmas for the plain laws: loops, items, ends. -/
namespace DL
open PySem PySem.Spec PyProof.Rows L2
variable [B : Obs]
section
variable {M : Md} {Q : VD} {X : XD} {δ : SD} {d : D}
theorem out_ret (h : Q d M) : ∃ M' d', Fin M d M' d' ∧ Q d' M' := ⟨M, d, .less fun _ _ h => h, h⟩
theorem out_nx (h : Q .non M) : ∃ M' : Md, (∀ a c, M' a = some c → M a = some c) ∧ Q .non M' := ⟨M, fun _ _ h => h, h⟩
theorem out_xx {C : Addr} {fs : Flds} (h : X C fs M) : ∃ M' : Md, (∀ a c, M' a = some c → M a = some c) ∧ X C fs M' := ⟨M, fun _ _ h => h, h⟩
theorem tSq_step {a b : TSd} {E : EndsD} (h : ∀ T : TSd, T = b → a { E with nx := T E } δ M) : tSq a b E δ M := h b rfl
/-! ### loops -/
section
variable {g : TGd} {tb : TSd} {ok : Md → Prop} {E : EndsD}
theorem forGo_at {xs : List D} {P : Nat → SD → Md → Prop} (hd : ∀ δ M, P xs.length δ M → ok M ∧ E.nx δ M)
    (hs : ∀ k (hk : k < xs.length) δ M, P k δ M → ∀ R : SD → Md → Prop, (∀ δ M, P (k + 1) δ M → R δ M) → ok M ∧ g (E.xk δ) xs[k] δ M fun δ1 M1 => tb { E with nx := R, ct := R, bk := E.nx } δ1 M1) {δ : SD} {M : Md} (h0 : P 0 δ M) : forGo g tb ok E xs δ M := by
  have go : ∀ m k, k + m = xs.length → ∀ δ M, P k δ M → forGo g tb ok E (xs.drop k) δ M := by
    intro m
    induction m with
    | zero =>
      intro k hk δ M h
      rw [List.drop_eq_nil_of_le (by omega)]
      have e : k = xs.length := by omega
      subst e
      exact hd δ M h
    | succ m ih =>
      intro k hk δ M h
      have hlt : k < xs.length := by omega
      rw [List.drop_eq_getElem_cons hlt]
      exact hs k hlt δ M h _ (ih (k + 1) (by omega))
  have z := go xs.length 0 (by omega) δ M h0
  rw [List.drop_zero] at z
  exact z
abbrev rgL (n : Nat) : List D := (List.range n).map fun i => .int ((i : Nat) : Int)
theorem rgL_at {n k : Nat} (h : k < (rgL n).length) : (rgL n)[k] = .int (k : Int) := by simp [rgL]
theorem rgL_len {n : Nat} : (rgL n).length = n := by simp [rgL]
theorem forGo_range {n : Nat} {P : Nat → SD → Md → Prop} (hd : ∀ δ M, P n δ M → ok M ∧ E.nx δ M)
    (hs : ∀ k, k < n → ∀ δ M, P k δ M → ∀ R : SD → Md → Prop, (∀ δ M, P (k + 1) δ M → R δ M) → ok M ∧ g (E.xk δ) (.int (k : Int)) δ M fun δ1 M1 => tb { E with nx := R, ct := R, bk := E.nx } δ1 M1) {δ : SD} {M : Md} (h0 : P 0 δ M) : forGo g tb ok E (rgL n) δ M :=
  forGo_at (xs := rgL n) (P := P) (fun δ M h => hd δ M (by rw [← rgL_len (B := B) (n := n)]; exact h)) (fun k hk δ M h R hR => by
    rw [rgL_at hk]
    exact hs k (by rw [rgL_len] at hk; exact hk) δ M h R hR) h0
end
/-- the first that is told -/
def ff (n : Nat) (f : Nat → Option D) : Option D := (List.range n).findSome? f
theorem ff_none {n : Nat} {f : Nat → Option D} (h : ∀ k, k < n → f k = none) : ff n f = none := by
  unfold ff
  rw [List.findSome?_eq_none_iff]
  intro k hk
  exact h k (List.mem_range.mp hk)
theorem ff_none_iff {n : Nat} {f : Nat → Option D} : ff n f = none ↔ ∀ k, k < n → f k = none := by
  unfold ff
  rw [List.findSome?_eq_none_iff]
  exact ⟨fun h k hk => h k (List.mem_range.mpr hk), fun h k hk => h k (List.mem_range.mp hk)⟩
theorem ff_congr {n : Nat} {f g : Nat → Option D} (h : ∀ k, k < n → f k = g k) : ff n f = ff n g := by
  unfold ff
  have go : ∀ l : List Nat, (∀ k ∈ l, f k = g k) → l.findSome? f = l.findSome? g := by
    intro l
    induction l with
    | nil => intro _; rfl
    | cons a l ih =>
      intro hl
      rw [List.findSome?_cons, List.findSome?_cons, hl a (List.mem_cons_self ..), ih fun k hk => hl k (List.mem_cons_of_mem _ hk)]
  exact go _ fun k hk => h k (List.mem_range.mp hk)
section
variable {g : TGd} {tb : TSd} {ok : Md → Prop} {E : EndsD}
/-- a search: each turn hands back what f tells, or goes on -/
theorem forGo_find {xs : List D} {inv : SD → Prop} {f : Nat → Option D} (hok : ok M)
    (hs : ∀ k (hk : k < xs.length) δ, inv δ → ∀ R : SD → Md → Prop, (f k = none → ∀ δ', inv δ' → R δ' M) → (∀ r, f k = some r → E.rt r M) → g (E.xk δ) xs[k] δ M fun δ1 M1 => tb { E with nx := R, ct := R, bk := E.nx } δ1 M1)
    (fin : ff xs.length f = none → ∀ δ, inv δ → E.nx δ M) (ret : ∀ r, ff xs.length f = some r → E.rt r M) {δ : SD} (h0 : inv δ) : forGo g tb ok E xs δ M := by
  have go : ∀ m k, k + m = xs.length → (∀ r, (List.range' k m).findSome? f = some r → E.rt r M) → ((List.range' k m).findSome? f = none → ∀ δ, inv δ → E.nx δ M) → ∀ δ, inv δ → forGo g tb ok E (xs.drop k) δ M := by
    intro m
    induction m with
    | zero =>
      intro k hk _ hn δ h
      rw [List.drop_eq_nil_of_le (by omega)]
      exact ⟨hok, hn rfl δ h⟩
    | succ m ih =>
      intro k hk hr hn δ h
      have hlt : k < xs.length := by omega
      rw [List.drop_eq_getElem_cons hlt]
      rw [List.range'_succ, List.findSome?_cons] at hr hn
      refine ⟨hok, hs k hlt δ h _ (fun e δ' h' => ?_) fun r e => hr r (by rw [e])⟩
      rw [e] at hr hn
      exact ih (k + 1) (by omega) hr hn δ' h'
  have z := go xs.length 0 (by omega) (by rw [← List.range_eq_range']; exact ret) (by rw [← List.range_eq_range']; exact fin) δ h0
  rw [List.drop_zero] at z
  exact z
theorem forGo_findR {n : Nat} {inv : SD → Prop} {f : Nat → Option D} (hok : ok M)
    (hs : ∀ k, k < n → ∀ δ, inv δ → ∀ R : SD → Md → Prop, (f k = none → ∀ δ', inv δ' → R δ' M) → (∀ r, f k = some r → E.rt r M) → g (E.xk δ) (.int (k : Int)) δ M fun δ1 M1 => tb { E with nx := R, ct := R, bk := E.nx } δ1 M1)
    (fin : ff n f = none → ∀ δ, inv δ → E.nx δ M) (ret : ∀ r, ff n f = some r → E.rt r M) {δ : SD} (h0 : inv δ) : forGo g tb ok E (rgL n) δ M :=
  forGo_find (xs := rgL n) (f := f) hok (fun k hk δ h R hR hr => by
    rw [rgL_at hk]
    exact hs k (by rw [rgL_len] at hk; exact hk) δ h R hR hr) (by rw [rgL_len]; exact fin) (by rw [rgL_len]; exact ret) h0
end
/-- for x in range(e), once e is known -/
theorem tFo_range {te : TEd} {g : TGd} {tb : TSd} {E : EndsD} {j : Int} (he : te (E.xk δ) δ M = fun Q => Q (.int j) M) (h1 : -(2 ^ 62) ≤ j) (h2 : j < 2 ^ 62) (h : forGo g tb (fun _ => True) E (rgL j.toNat) δ M) : tFo (tIR1 (tCo te tN0)) g tb E δ M := by
  show te (E.xk δ) δ M _
  rw [he]
  exact ⟨⟨h1, h2⟩, h⟩
theorem items_eq {xs : List D} {R : Src → Md → Prop} (h : seqA M d = some xs) : itemsD d M R = R ⟨xs, fun N => seqS N d = seqS M d⟩ M := by
  obtain ⟨b, hb⟩ := seqS_of h
  cases d with
  | rng _ _ => cases h
  | _ =>
    simp only [itemsD]
    rw [hb]
    rfl
theorem seqS_congr {N : Md} (h : ∀ a, d = .ref a → N a = M a) : seqS N d = seqS M d ∧ seqA N d = seqA M d := by
  cases d with
  | ref a =>
    have e := h a rfl
    constructor
    · show (match N a with
        | some (MC.lst xs) => some (false, xs)
        | some (MC.tux xs) => some (true, xs)
        | _ => Option.none) = (match M a with
        | some (MC.lst xs) => some (false, xs)
        | some (MC.tux xs) => some (true, xs)
        | _ => Option.none)
      rw [e]
    · show (match N a with
        | some (MC.lst xs) => some xs
        | some (MC.tux xs) => some xs
        | _ => Option.none) = (match M a with
        | some (MC.lst xs) => some xs
        | some (MC.tux xs) => some xs
        | _ => Option.none)
      rw [e]
  | _ => exact ⟨rfl, rfl⟩
theorem seqA_there {xs : List D} {a : Addr} (h : seqA M (.ref a) = some xs) : M a ≠ none := fun e => by
  rcases seqA_out h with z | z <;> rw [e] at z <;> cases z
theorem ix_eq {x : D} {xs : List D} {i : Int} {v : D} (h : seqA M x = some xs) (h2 : atI xs i = some v) : rIxD x (.int i) M Q = Q v M := by
  simp only [rIxD, h, h2]
  rfl
theorem len_eq {x : D} {xs : List D} (h : seqA M x = some xs) : lenD [x] M Q = Q (.int xs.length) M := by
  simp only [lenD, h]
/-! ### rows of numbers -/
def iL (ns : List Int) : List D := ns.map .int
def gi (ns : List Int) (i : Int) : Int := ns.getD i.toNat 0
theorem iL_len {ns : List Int} : (iL ns).length = ns.length := List.length_map ..
theorem iL_get {ns : List Int} {k : Nat} (h : k < (iL ns).length) : (iL ns)[k] = .int (ns[k]'(by rw [iL_len] at h; exact h)) := by simp [iL]
theorem ixN_in {n : Nat} {i : Int} (h0 : 0 ≤ i) (h1 : i < n) : ixN n i = some i.toNat := by
  unfold ixN
  rw [if_pos h0, if_pos h1]
theorem atI_in {xs : List D} {i : Int} (h0 : 0 ≤ i) (h1 : i < xs.length) : atI xs i = xs[i.toNat]? := by
  unfold atI
  rw [ixN_in h0 h1]
  rfl
theorem atI_iL {ns : List Int} {i : Int} (h0 : 0 ≤ i) (h1 : i < ns.length) : atI (iL ns) i = some (.int (gi ns i)) := by
  rw [atI_in h0 (by rw [iL_len]; exact h1)]
  unfold iL gi
  rw [List.getElem?_map, List.getElem?_eq_getElem (by omega), List.getD_eq_getElem?_getD, List.getElem?_eq_getElem (by omega)]
  rfl
theorem iL_set {ns : List Int} {k : Nat} {i : Int} : (iL ns).set k (.int i) = iL (ns.set k i) := by
  unfold iL
  rw [List.map_set]
theorem atI_0 {a : D} {l : List D} : atI (a :: l) 0 = some a := by
  rw [atI_in (by omega) (by simp)]
  rfl
theorem atI_1 {a b : D} {l : List D} : atI (a :: b :: l) 1 = some b := by
  rw [atI_in (by omega) (by simp; omega)]
  rfl
theorem atI_2 {a b c : D} {l : List D} : atI (a :: b :: c :: l) 2 = some c := by
  rw [atI_in (by omega) (by simp; omega)]
  rfl
theorem atI_3 {a b c e : D} {l : List D} : atI (a :: b :: c :: e :: l) 3 = some e := by
  rw [atI_in (by omega) (by simp; omega)]
  rfl
theorem atI_4 {a b c e f : D} {l : List D} : atI (a :: b :: c :: e :: f :: l) 4 = some f := by
  rw [atI_in (by omega) (by simp; omega)]
  rfl
theorem seqA_tup {xs : List D} : seqA M (.tup xs) = some xs := rfl
theorem seqA_lst {xs : List D} : seqA M (.lst xs) = some xs := rfl
theorem setD_eq {a : Addr} {xs : List D} {j : Int} {v : D} {R : Md → Prop} (h : M a = some (.lst xs)) (h0 : 0 ≤ j) (h1 : j < xs.length) : setD (.ref a) (.int j) v M R = R (put M a (.lst (xs.set j.toNat v))) := by
  simp only [setD, h, ixN_in h0 h1]
  rfl
theorem ff_some {n : Nat} {f : Nat → Option D} {r : D} (h : ff n f = some r) : ∃ k, k < n ∧ f k = some r ∧ ∀ j, j < k → f j = none := by
  unfold ff at h
  rw [List.range_eq_range'] at h
  have go : ∀ m k, (List.range' k m).findSome? f = some r → ∃ i, k ≤ i ∧ i < k + m ∧ f i = some r ∧ ∀ j, k ≤ j → j < i → f j = none := by
    intro m
    induction m with
    | zero => intro k h; cases h
    | succ m ih =>
      intro k h
      rw [List.range'_succ, List.findSome?_cons] at h
      cases e : f k with
      | some d =>
        rw [e] at h
        exact ⟨k, Nat.le_refl _, by omega, e.trans h, fun j h1 h2 => by omega⟩
      | none =>
        rw [e] at h
        obtain ⟨i, h1, h2, h3, h4⟩ := ih (k + 1) h
        refine ⟨i, by omega, by omega, h3, fun j j1 j2 => ?_⟩
        by_cases q : j = k
        · rw [q]
          exact e
        · exact h4 j (by omega) j2
  obtain ⟨i, h1, h2, h3, h4⟩ := go n 0 h
  exact ⟨i, by omega, h3, fun j hj => h4 j (by omega) hj⟩
/-! ### comprehensions without tests -/
theorem lcF_run {te : TEd} {f : D → D} {xs : List D} {ok : Md → Prop} {δ : SD} {i : Nat} (hz : xs.length ≤ sizeLine) (hok : ∀ p c, M p = none → ok (put M p c))
    (he : ∀ d ∈ xs, ∀ p c, M p = none → ∀ Q' : VD, Q' (f d) (put M p c) → te X0 (δ.set i (some d)) (put M p c) Q') (h : Q (.lst (xs.map f)) M) (p : Addr) (hp : M p = none) :
    lcGo (.one i) tYs te ok δ p (fun N => ∃ acc, N p = some (.lst acc) ∧ Q (.lst acc) (cut N p)) xs (put M p (.lst [])) := by
  refine lc_run (b := fun _ => true) (f := f) hp (by rw [List.length_nil]; omega) (fun c => hok p c hp) (fun d hd c => ⟨_, rfl, fun _ h => h⟩) (fun d hd _ c δ' e Q' hQ => ?_) ⟨_, put_same, ?_⟩
  · cases e
    exact he d hd p c hp Q' hQ
  · rw [cut_put hp, List.nil_append, List.filter_eq_self.mpr fun _ _ => rfl]
    exact h
/-- .. the list a cell -/
theorem lcM_run {te : TEd} {f : D → D} {xs : List D} {ok : Md → Prop} {δ : SD} {i : Nat} {Q : Md → Prop} (hz : xs.length ≤ sizeLine) (p : Addr) (hp : M p = none) (hok : ∀ c, ok (put M p c))
    (he : ∀ d ∈ xs, ∀ c, ∀ Q' : VD, Q' (f d) (put M p c) → te X0 (δ.set i (some d)) (put M p c) Q') (h : Q (put M p (.lst (xs.map f)))) : lcGo (.one i) tYs te ok δ p Q xs (put M p (.lst [])) := by
  refine lc_run (b := fun _ => true) (f := f) hp (by rw [List.length_nil]; omega) hok (fun d hd c => ⟨_, rfl, fun _ h => h⟩) (fun d hd _ c δ' e Q' hQ => ?_) ?_
  · cases e
    exact he d hd c Q' hQ
  · rw [List.nil_append, List.filter_eq_self.mpr fun _ _ => rfl]
    exact h
def mapI (f : Int → D) : D → D
  | .int i => f i
  | d => d
theorem map_ints (f : Int → D) (ns : List Int) : (iL ns).map (mapI f) = ns.map f := by
  unfold iL
  rw [List.map_map]
  rfl
theorem lcF_ints {te : TEd} {f : Int → D} {ns : List Int} {ok : Md → Prop} {δ : SD} {i : Nat} (hz : ns.length ≤ sizeLine) (hok : ∀ p c, M p = none → ok (put M p c))
    (he : ∀ n ∈ ns, ∀ p c, M p = none → ∀ Q' : VD, Q' (f n) (put M p c) → te X0 (δ.set i (some (.int n))) (put M p c) Q') (h : Q (.lst (ns.map f)) M) (p : Addr) (hp : M p = none) :
    lcGo (.one i) tYs te ok δ p (fun N => ∃ acc, N p = some (.lst acc) ∧ Q (.lst acc) (cut N p)) (iL ns) (put M p (.lst [])) :=
  lcF_run (f := mapI f) (by rw [iL_len]; exact hz) hok (fun d hd p c hp Q' hQ => by
    obtain ⟨n, hn, rfl⟩ := List.mem_map.mp hd
    exact he n hn p c hp Q' hQ) (by rw [map_ints]; exact h) p hp
/-- a comprehension whose element may change the store -/
theorem lcGo_at {te : TEd} {ok : Md → Prop} {δ : SD} {i : Nat} {p : Addr} {Q : Md → Prop} {xs : List D} {I : List D → Md → Prop} (hz : xs.length ≤ sizeLine)
    (hok : ∀ acc N, N p = some (.lst acc) → I acc N → ok N)
    (he : ∀ k (hk : k < xs.length) acc N, acc.length = k → N p = some (.lst acc) → I acc N → ∀ R : VD, (∀ y N', N' p = some (.lst acc) → I (acc ++ [y]) (put N' p (.lst (acc ++ [y]))) → R y N') → te X0 (δ.set i (some xs[k])) N R)
    (fin : ∀ acc N, acc.length = xs.length → N p = some (.lst acc) → I acc N → Q N) {N : Md} (h0 : N p = some (.lst [])) (i0 : I [] N) : lcGo (.one i) tYs te ok δ p Q xs N := by
  have go : ∀ m k, k + m = xs.length → ∀ acc N, acc.length = k → N p = some (.lst acc) → I acc N → lcGo (.one i) tYs te ok δ p Q (xs.drop k) N := by
    intro m
    induction m with
    | zero =>
      intro k hk acc N ha hN hi
      rw [List.drop_eq_nil_of_le (by omega)]
      exact ⟨hok acc N hN hi, ⟨acc, hN⟩, fin acc N (by omega) hN hi⟩
    | succ m ih =>
      intro k hk acc N ha hN hi
      have hlt : k < xs.length := by omega
      rw [List.drop_eq_getElem_cons hlt]
      exact ⟨hok acc N hN hi, _, rfl, he k hlt acc N ha hN hi _ fun y N' h1 h2 => ⟨acc, h1, by omega, ih (k + 1) (by omega) _ _ (by rw [List.length_append]; show acc.length + 1 = k + 1; omega) put_same h2⟩⟩
  have z := go xs.length 0 (by omega) [] N rfl h0 i0
  rw [List.drop_zero] at z
  exact z
theorem app_eq {a : Addr} {xs : List D} {d : D} (h : M a = some (.lst xs)) : mAppD (.ref a) [d] M Q = (xs.length < sizeLine ∧ Q .non (put M a (.lst (xs ++ [d])))) := by
  simp only [mAppD, h]
theorem isLs_ref {a : Addr} {xs : List D} (h : M a = some (.lst xs)) : isLs (.ref a) M := by
  have e : seqL M (.ref a) = some xs := by
    show (match M a with
      | some (MC.lst xs) => some xs
      | _ => none) = some xs
    rw [h]
  unfold isLs
  rw [e]
  rfl
theorem sub_at {N : Md} {xs : List D} (h : seqA M d = some xs) (k : Sub M N) : ∀ a, d = .ref a → N a = M a := fun a e => by
  subst e
  cases q : M a with
  | none => exact absurd q (seqA_there h)
  | some c => exact k a c q
theorem seqA_sub {N : Md} {xs : List D} (h : seqA M d = some xs) (k : Sub M N) : seqA N d = some xs := (seqS_congr (sub_at h k)).2.trans h
theorem seqS_sub {N : Md} {xs : List D} (h : seqA M d = some xs) (k : Sub M N) : seqS N d = seqS M d := (seqS_congr (sub_at h k)).1
theorem Sub.free {N : Md} (k : Sub M N) {p : Addr} (h : N p = none) : M p = none := by
  cases e : M p with
  | none => rfl
  | some c =>
    rw [k p c e] at h
    cases h
theorem items_tup {xs : List D} {R : Src → Md → Prop} : itemsD (.tup xs) M R = R ⟨xs, fun N => seqS N (.tup xs) = some (true, xs)⟩ M := rfl
theorem items_lst {xs : List D} {R : Src → Md → Prop} : itemsD (.lst xs) M R = R ⟨xs, fun N => seqS N (.lst xs) = some (false, xs)⟩ M := rfl
theorem items_rng {lo hi : Int} {R : Src → Md → Prop} : itemsD (.rng lo hi) M R = ((-(2 ^ 62) ≤ lo ∧ lo < 2 ^ 62 ∧ -(2 ^ 62) ≤ hi ∧ hi < 2 ^ 62) ∧ R ⟨(List.range (hi - lo).toNat).map fun i => .int (lo + (i : Nat)), fun _ => True⟩ M) := rfl
theorem put_at {d0 : D} {xs : List D} {p : Addr} {c : MC} (h : seqA M d0 = some xs) (hp : M p = none) : ∀ a, d0 = .ref a → put M p c a = M a := fun a e => by
  subst e
  exact put_ne fun z => seqA_there h (by rw [z]; exact hp)
theorem seqA_put {d0 : D} {xs : List D} {p : Addr} {c : MC} (h : seqA M d0 = some xs) (hp : M p = none) : seqA (put M p c) d0 = some xs := (seqS_congr (put_at h hp)).2.trans h
theorem seqS_put {d0 : D} {xs : List D} {p : Addr} {c : MC} (h : seqA M d0 = some xs) (hp : M p = none) : seqS (put M p c) d0 = seqS M d0 := (seqS_congr (put_at h hp)).1
theorem seqA_keep {d0 : D} {xs : List D} {s C : Addr} {fs : Flds} (h : seqA M d0 = some xs) (hs : M s = some (.ins C fs)) (c : MC) : seqA (put M s c) d0 = some xs := (seqS_congr fun a e => by
  subst e
  refine put_ne fun z => ?_
  rw [z] at h
  rcases seqA_out h with q | q <;> rw [hs] at q <;> cases q).2.trans h
theorem tLcF_seq {Xd : XD} {tsrc te : TEd} {i : Nat} {vs : List Nat} {f : D → D} {d0 : D} {xs : List D} (h0 : ∀ Q' : VD, Q' d0 M → tsrc Xd δ M Q') (hq : seqA M d0 = some xs) (hz : xs.length ≤ sizeLine)
    (he : ∀ d ∈ xs, ∀ p c, M p = none → ∀ Q' : VD, Q' (f d) (put M p c) → te X0 ((wipeD δ vs).set i (some d)) (put M p c) Q') (h : Q (.lst (xs.map f)) M) : tLcF (.one i) (tIS tsrc) tYs te vs Xd δ M Q := by
  refine h0 _ ?_
  rw [items_eq hq]
  exact fun p hp => lcF_run hz (fun p c hp => seqS_put hq hp) he h p hp
theorem tLcF_ints {Xd : XD} {tsrc te : TEd} {i : Nat} {vs : List Nat} {f : Int → D} {d0 : D} {ns : List Int} (h0 : ∀ Q' : VD, Q' d0 M → tsrc Xd δ M Q') (hq : seqA M d0 = some (iL ns)) (hz : ns.length ≤ sizeLine)
    (he : ∀ n ∈ ns, ∀ p c, M p = none → ∀ Q' : VD, Q' (f n) (put M p c) → te X0 ((wipeD δ vs).set i (some (.int n))) (put M p c) Q') (h : Q (.lst (ns.map f)) M) : tLcF (.one i) (tIS tsrc) tYs te vs Xd δ M Q :=
  tLcF_seq (f := mapI f) h0 hq (by rw [iL_len]; exact hz) (fun d hd p c hp Q' hQ => by
    obtain ⟨n, hn, rfl⟩ := List.mem_map.mp hd
    exact he n hn p c hp Q' hQ) (by rw [map_ints]; exact h)
theorem filt_ints (b : Int → Bool) (ns : List Int) : (iL ns).filter (fun d => match d with
    | .int i => b i
    | _ => false) = iL (ns.filter b) := by
  unfold iL
  rw [List.filter_map]
  rfl
/-- [x for x in ns if ..] -/
theorem tLcF_filt {Xd : XD} {tsrc : TEd} {tt : TTd} {i : Nat} {vs : List Nat} {b : Int → Bool} {d0 : D} {ns : List Int} (h0 : ∀ Q' : VD, Q' d0 M → tsrc Xd δ M Q') (hq : seqA M d0 = some (iL ns)) (hz : ns.length ≤ sizeLine)
    (ht : ∀ n ∈ ns, ∀ p c, M p = none → ∀ Q' : Bool → Md → Prop, Q' (b n) (put M p c) → tt X0 ((wipeD δ vs).set i (some (.int n))) (put M p c) Q') (hl : i < (wipeD δ vs).length) (h : Q (.lst (iL (ns.filter b))) M) : tLcF (.one i) (tIS tsrc) tt (tV i) vs Xd δ M Q := by
  refine h0 _ ?_
  rw [items_eq hq]
  intro p hp
  refine lc_run (b := fun d => match d with
    | .int i => b i
    | _ => false) (f := id) hp (by rw [List.length_nil, iL_len]; omega) (fun c => seqS_put hq hp) (fun d hd c => ?_) (fun d hd _ c δ' e Q' hQ => ?_) ⟨_, put_same, ?_⟩
  · obtain ⟨n, hn, rfl⟩ := List.mem_map.mp hd
    exact ⟨_, rfl, fun Q' hQ => ht n hn p c hp Q' hQ⟩
  · cases e
    show (match ((wipeD δ vs).set i (some d))[i]? with
      | some (some d) => Q' d (put M p c)
      | _ => False)
    rw [List.getElem?_set_self hl]
    exact hQ
  · rw [cut_put hp, List.nil_append, List.map_id, filt_ints]
    exact h
theorem tLcM_ints {Xd : XD} {tsrc te : TEd} {i : Nat} {vs : List Nat} {f : Int → D} {d0 : D} {ns : List Int} (h0 : ∀ Q' : VD, Q' d0 M → tsrc Xd δ M Q') (hq : seqA M d0 = some (iL ns)) (hz : ns.length ≤ sizeLine)
    (he : ∀ n ∈ ns, ∀ p c, M p = none → ∀ Q' : VD, Q' (f n) (put M p c) → te X0 ((wipeD δ vs).set i (some (.int n))) (put M p c) Q') (h : ∀ p, M p = none → Q (.ref p) (put M p (.lst (ns.map f)))) : tLcM (.one i) (tIS tsrc) tYs te vs Xd δ M Q := by
  refine h0 _ ?_
  rw [items_eq hq]
  exact fun p hp => lcM_run (f := mapI f) (by rw [iL_len]; exact hz) p hp (fun c => seqS_put hq hp) (fun d hd c Q' hQ => by
    obtain ⟨n, hn, rfl⟩ := List.mem_map.mp hd
    exact he n hn p c hp Q' hQ) (by rw [map_ints]; exact h p hp)
theorem eqi {i j : Int} : DL.rEqD (.int i) (.int j) M Q = Q (.bl (decide (i = j))) M := rfl
theorem eqs {i j : Str} : DL.rEqD (.str i) (.str j) M Q = Q (.bl (decide (i = j))) M := rfl
theorem eqb {i j : Bool} : DL.rEqD (.bl i) (.bl j) M Q = Q (.bl (decide (i = j))) M := rfl
theorem nei {i j : Int} : DL.rNeD (.int i) (.int j) M Q = Q (.bl (!decide (i = j))) M := rfl
theorem nes {i j : Str} : DL.rNeD (.str i) (.str j) M Q = Q (.bl (!decide (i = j))) M := rfl
theorem neb {i j : Bool} : DL.rNeD (.bl i) (.bl j) M Q = Q (.bl (!decide (i = j))) M := rfl
theorem addi {i j : Int} : rAddD (.int i) (.int j) M Q = Q (.int (i + j)) M := rfl
theorem muli {i j : Int} : rMulD (.int i) (.int j) M Q = (CMul i j ∧ Q (.int (i * j)) M) := rfl
theorem i2_ii {g : Int → Int → D} {i j : Int} : i2 g (.int i) (.int j) M Q = Q (g i j) M := rfl
theorem i2c_ii {C : Int → Int → Prop} {g : Int → Int → D} {i j : Int} : i2c C g (.int i) (.int j) M Q = (C i j ∧ Q (g i j) M) := rfl
def rgI (n : Int) : List Int := (List.range n.toNat).map fun i => ((i : Nat) : Int)
theorem rgI_len {n : Int} : (rgI n).length = n.toNat := by simp [rgI]
theorem rgI_mem {n i : Int} (h : i ∈ rgI n) : 0 ≤ i ∧ i < n := by
  obtain ⟨k, hk, rfl⟩ := List.mem_map.mp h
  have := List.mem_range.mp hk
  omega
theorem rg0 {n : Int} : ((List.range (n - 0).toNat).map fun i => D.int (0 + ((i : Nat) : Int))) = rgL n.toNat := by simp
theorem rgL_iL {n : Int} : rgL n.toNat = iL (rgI n) := by simp [rgL, iL, rgI]
theorem atI_rg {n : Int} {f : Int → D} {x : Int} (h0 : 0 ≤ x) (h1 : x < n) : atI ((rgI n).map f) x = some (f x) := by
  rw [atI_in h0 (by rw [List.length_map, rgI_len]; omega)]
  unfold rgI
  rw [List.map_map, List.getElem?_map, List.getElem?_range (by omega)]
  show some (f ((x.toNat : Nat) : Int)) = some (f x)
  rw [Int.toNat_of_nonneg h0]
theorem tLcF_rng {Xd : XD} {tsrc te : TEd} {i : Nat} {vs : List Nat} {f : Int → D} {n : Int} (h0 : ∀ Q' : VD, Q' (.rng 0 n) M → tsrc Xd δ M Q') (hb : -(2 ^ 62) ≤ n) (hz : n ≤ 16777216)
    (he : ∀ x, 0 ≤ x → x < n → ∀ p c, M p = none → ∀ Q' : VD, Q' (f x) (put M p c) → te X0 ((wipeD δ vs).set i (some (.int x))) (put M p c) Q') (h : Q (.lst ((rgI n).map f)) M) : tLcF (.one i) (tIS tsrc) tYs te vs Xd δ M Q := by
  refine h0 _ ⟨⟨by omega, by omega, hb, by omega⟩, ?_⟩
  rw [rg0, rgL_iL]
  exact fun p hp => lcF_ints (by rw [rgI_len, sizeLine_eq]; omega) (fun _ _ _ => trivial) (fun x hx p c hp Q' hQ => he x (rgI_mem hx).1 (rgI_mem hx).2 p c hp Q' hQ) h p hp
/-- [f x for x in range(n)], a cell -/
theorem tLcM_rng {Xd : XD} {ta : TAd} {te : TEd} {i : Nat} {vs : List Nat} {f : Int → Int} {n : Int} (h0 : ∀ R : List D → Md → Prop, R [.int n] M → ta Xd δ M R) (hb : -(2 ^ 62) ≤ n) (hz : n ≤ 16777216)
    (he : ∀ x, 0 ≤ x → x < n → ∀ p c, M p = none → ∀ Q' : VD, Q' (.int (f x)) (put M p c) → te X0 ((wipeD δ vs).set i (some (.int x))) (put M p c) Q') (h : ∀ p, M p = none → Q (.ref p) (put M p (.lst (iL ((rgI n).map f))))) : tLcM (.one i) (tIR1 ta) tYs te vs Xd δ M Q := by
  refine h0 _ ⟨⟨hb, by omega⟩, fun p hp => ?_⟩
  show lcGo (.one i) tYs te _ _ p _ (rgL n.toNat) _
  rw [rgL_iL]
  refine lcM_run (f := mapI fun x => .int (f x)) (by rw [iL_len, rgI_len, sizeLine_eq]; omega) p hp (fun _ => trivial) (fun d hd c Q' hQ => ?_) ?_
  · obtain ⟨x, hx, rfl⟩ := List.mem_map.mp hd
    exact he x (rgI_mem hx).1 (rgI_mem hx).2 p c hp Q' hQ
  · rw [map_ints]
    have e : ((rgI n).map fun x => D.int (f x)) = iL ((rgI n).map f) := by simp [iL]
    rw [e]
    exact h p hp
theorem paired_get {α β : Type} {R : α → β → Prop} {xs : List α} {ys : List β} (h : Paired R xs ys) : ∀ {k : Nat} (h1 : k < xs.length) (h2 : k < ys.length), R xs[k] ys[k] := by
  induction h with
  | nil =>
    intro k h1
    exact absurd h1 (by simp)
  | cons r _ ih =>
    intro k h1 h2
    cases k with
    | zero => exact r
    | succ k => exact ih (by simpa using h1) (by simpa using h2)
/-! ### == of rows of numbers -/
theorem pys_ints : ∀ ns : List Int, Pys M (iL ns) (ns.map PyData.int)
  | [] => .nil
  | n :: ns => .cons (.int n) (pys_ints ns)
theorem can_ints : ∀ ns : List Int, PyData.canLayAll0 (ns.map PyData.int) = true
  | [] => rfl
  | n :: ns => can_ints ns
theorem dep_ints : ∀ ns : List Int, PyData.depthAll (ns.map PyData.int) = 0
  | [] => rfl
  | n :: ns => by
    show max (PyData.depth (.int n)) (PyData.depthAll (ns.map PyData.int)) = 0
    rw [dep_ints ns]
    rfl
theorem eqv_ints : ∀ ns ms : List Int, PyData.eqvAll (ns.map PyData.int) (ms.map PyData.int) = decide (ns = ms)
  | [], [] => rfl
  | [], m :: ms => rfl
  | n :: ns, [] => rfl
  | n :: ns, m :: ms => by
    show (n == m && PyData.eqvAll (ns.map PyData.int) (ms.map PyData.int)) = _
    rw [eqv_ints ns ms]
    by_cases e : n = m <;> simp [e]
theorem sh_tup {ns : List Int} : SeqAt.shaped (.tuple (ns.map PyData.int)) = true := by
  unfold SeqAt.shaped
  rw [Bool.and_eq_true]
  refine ⟨can_ints ns, decide_eq_true ?_⟩
  show PyData.depthAll (ns.map PyData.int) + 1 ≤ 64
  rw [dep_ints]
  omega
theorem eq_tup {a b : List Int} (h : Q (.bl (decide (a = b))) M) : DL.rEqD (.tup (iL a)) (.tup (iL b)) M Q := ⟨.tuple (a.map .int), .tuple (b.map .int), .tup (pys_ints a), .tup (pys_ints b), sh_tup, sh_tup, by
  show Q (.bl (PyData.eqvAll (a.map PyData.int) (b.map PyData.int))) M
  rw [eqv_ints]
  exact h⟩
theorem ne_tup {a b : List Int} (h : Q (.bl (!decide (a = b))) M) : DL.rNeD (.tup (iL a)) (.tup (iL b)) M Q := ⟨.tuple (a.map .int), .tuple (b.map .int), .tup (pys_ints a), .tup (pys_ints b), sh_tup, sh_tup, by
  show Q (.bl (!PyData.eqvAll (a.map PyData.int) (b.map PyData.int))) M
  rw [eqv_ints]
  exact h⟩
end
end DL
/-! The data layer: methods index, count, insert; texts; bit_length; repr of anything. -/
namespace DL
open PySem PySem.Spec PyProof.Rows L2 DNu
variable [B : Obs]
section
variable {X : Cx} {W : WX} {K : PySem.W.Frag} {F H : Hp} {M : Md} {n : Nat} {o e : Expr} {to te : TEd}
theorem iLs_of {vs : List V} {ns : List Int} (r : Rps K F vs (iL ns)) : vs = ns.map V.int := Rps.of_ints r
/-! ### x.index(k), x a list or a tuple made by tuple(..) -/
def tIxV (K : PySem.W.Frag) (to te : TE) : TE := fun σ H Q => to σ H fun x H1 => (∃ a xs, x = .ref a ∧ SqL K H1 a xs ∧ te σ H1 fun y H2 => rIndex K x [y] H2 Q) ∨
  (∃ a ob xs, x = .ref a ∧ H1 a = some (.frz ob (.tup xs)) ∧ (ob.cls = .type "tuple" ∧ ob.dict = none) ∧ te σ H1 fun y H2 => ∃ (ys : List Int) (z : Int) (j : Nat), [y] = [V.int z] ∧ SqT K H2 a (ys.map V.int) ∧ ys[j]? = some z ∧ (∀ m, m < j → ys[m]? ≠ some z) ∧ Q (.int (j : Nat)) H2)
theorem pe_ixm {apos cpos : Pos} {to te : TE} (ho : PE X o to) (he : PE X e te) (hbase : attributeBase o "index" X.env (eval o X.env) = eval o X.env := by rfl)
    (hfew : ((backTo cpos (starEach [e] X.env)).all (fun x => !x.1) && (backToKw cpos (keywordEach [] X.env)).all (fun x => x.1.isSome) && decide (([e] : List Expr).length + ([] : List Keyword).length + (if ([] : List Keyword).isEmpty then 0 else 1) < 30)) = true := by rfl)
    (hline : (apos.endLine == cpos.line) = true := by rfl) (hs : starEach [e] X.env = (false, eval e X.env) :: starEach [] X.env := by rfl) (hplain : (backTo cpos (starEach [] X.env)).any (·.1) = false := by rfl) :
    PE X (.Call (.Attribute o "index" apos) [e] [] cpos) (tIxV X.K to te) := by
  refine ⟨fun pins s σ H Q I h => ?_⟩
  refine wpAny_Call_method_late hbase hfew hline rfl (thn (ho.run pins s σ H _ I h) fun v s1 ⟨x, H1, I1, r1, q1⟩ => ?_)
  rcases q1 with ⟨a, xs, rfl, hq, q1⟩ | ⟨a, ob, xs, rfl, hq, ⟨hc, hd⟩, q1⟩
  · obtain ⟨h1, h2⟩ := tyV_is (T := "list") I1 r1 (.inl ⟨rfl, xs, hq⟩)
    refine ⟨"list", "list.index", PySem.F.plainAttrs_list, PySem.F.slot_list_index, rfl, h1, h2, ?_⟩
    have hA := (pa_cons he (pa_nil (X := X)) hs).run cpos pins s1 σ H1 (fun vs H2 => rIndex X.K (.ref a) vs H2 Q) I1 q1
    rw [hs] at hA ⊢
    refine Calls.callWith_builtin (by show (false || (backTo cpos (starEach [] X.env)).any (·.1)) = false; rw [hplain] <;> rfl) (Calls.evalArgs_plain ?_)
    exact thn hA fun us s2 ⟨vs, H2, I2, r2, q2⟩ => mt_index pins s2 σ H2 _ vs v us Q I2 r1 r2 q2
  · cases r1
    have ho1 : s1.heap.get? a = some ob := (I1.hok a _ hq).1
    refine ⟨"tuple", "tuple.index", PySem.F.plainAttrs_tuple, PySem.F.slot_tuple_index, rfl, ⟨ob, ho1, hc⟩, fun b e => ?_, ?_⟩
    · cases e
      exact ⟨ob, ho1, hd⟩
    · have hA := (pa_cons he (pa_nil (X := X)) hs).run cpos pins s1 σ H1 (fun vs H2 => ∃ (ys : List Int) (z : Int) (j : Nat), vs = [V.int z] ∧ SqT X.K H2 a (ys.map V.int) ∧ ys[j]? = some z ∧ (∀ m, m < j → ys[m]? ≠ some z) ∧ Q (.int (j : Nat)) H2) I1 q1
      rw [hs] at hA ⊢
      refine Calls.callWith_builtin (by show (false || (backTo cpos (starEach [] X.env)).any (·.1)) = false; rw [hplain] <;> rfl) (Calls.evalArgs_plain ?_)
      exact thn hA fun us s2 ⟨vs, H2, I2, r2, ys, z, j, ev, p1, p2, p3, q2⟩ => mt_tup_indexI pins s2 σ H2 (.ref a) vs (.ref a) us Q I2 rfl r2 ⟨a, ys, z, j, rfl, ev, p1, p2, p3, q2⟩
def tIdx (to te : TEd) : TEd := fun Xd δ M Q => to Xd δ M fun x M1 => ((∃ xs, seqL M1 x = some xs) ∨ ∃ a xs, x = .ref a ∧ M1 a = some (.tux xs)) ∧ te Xd δ M1 fun y M2 => ∃ (ys : List Int) (z : Int) (j : Nat), y = .int z ∧ seqA M2 x = some (iL ys) ∧ (seqS M2 x).map (·.1) = (seqS M1 x).map (·.1) ∧ ys[j]? = some z ∧ (∀ m, m < j → ys[m]? ≠ some z) ∧ Q (.int (j : Nat)) M2
theorem seqS_lst {x : D} {xs : List D} (h : seqL M x = some xs) : seqS M x = some (false, xs) := by
  cases x with
  | lst ys =>
    cases h
    rfl
  | ref a =>
    have h' : (match M a with
      | some (MC.lst xs) => some xs
      | _ => Option.none) = some xs := h
    show (match M a with
      | some (MC.lst xs) => some (false, xs)
      | some (MC.tux xs) => some (true, xs)
      | _ => Option.none) = some (false, xs)
    cases e : M a with
    | none =>
      rw [e] at h'
      cases h'
    | some c =>
      rw [e] at h'
      cases c with
      | lst ys =>
        cases h'
        rfl
      | _ => cases h'
  | _ => cases h
theorem seqL_of {x : D} {xs : List D} (h : seqS M x = some (false, xs)) : seqL M x = some xs := by
  cases x with
  | lst ys =>
    cases h
    rfl
  | ref a =>
    have e := seqS_out h
    show (match M a with
      | some (MC.lst xs) => some xs
      | _ => Option.none) = some xs
    rw [e]
    rfl
  | _ => cases h
theorem seqS_tux {a : Addr} {xs : List D} (h : M a = some (.tux xs)) : seqS M (.ref a) = some (true, xs) := by
  show (match M a with
    | some (MC.lst xs) => some (false, xs)
    | some (MC.tux xs) => some (true, xs)
    | _ => Option.none) = some (true, xs)
  rw [h]
theorem pidx {apos cpos : Pos} (ho : PEd X W o to) (he : PEd X W e te) (hbase : attributeBase o "index" X.env (eval o X.env) = eval o X.env := by rfl)
    (hfew : ((backTo cpos (starEach [e] X.env)).all (fun x => !x.1) && (backToKw cpos (keywordEach [] X.env)).all (fun x => x.1.isSome) && decide (([e] : List Expr).length + ([] : List Keyword).length + (if ([] : List Keyword).isEmpty then 0 else 1) < 30)) = true := by rfl)
    (hline : (apos.endLine == cpos.line) = true := by rfl) (hs : starEach [e] X.env = (false, eval e X.env) :: starEach [] X.env := by rfl) (hplain : (backTo cpos (starEach [] X.env)).any (·.1) = false := by rfl) :
    PEd X W (.Call (.Attribute o "index" apos) [e] [] cpos) (tIdx to te) := pe_imp (pe_ixm ho he hbase hfew hline hs hplain) fun σ H Q ⟨F, δ, M, Qd, Xd, l, s, k, kx, q⟩ =>
  low_then l s kx q ⟨fun {d1 M1 v1 G1 H1} g1 l1 r1 ⟨ty, q1⟩ => by
    rcases ty with ⟨xs, hx⟩ | ⟨a, xs, rfl, hx⟩
    · obtain ⟨a, vs, rfl, p, r⟩ := seqL_ok l1 r1 hx
      refine .inl ⟨a, vs, rfl, .inl (.inl p), low_then l1 (s.mono g1) (kx.mono g1) q1 ⟨fun {d2 M2 v2 G2 H2} g2 l2 r2 ⟨ys, z, j, ey, h1, h2, h3, h4, q2⟩ => ?_⟩⟩
      subst ey
      cases r2
      obtain ⟨b, hb⟩ := seqS_of h1
      rw [hb, seqS_lst hx] at h2
      cases h2
      obtain ⟨a', ws, ea, p2, rr⟩ := seqL_ok l2 (r1.mono g2) (seqL_of hb)
      cases ea
      have ew := iLs_of rr
      subst ew
      refine ⟨a, _, _, j, .int z, rfl, rfl, .inl (.inl p2), rfl, flat_ints _, by rw [List.getElem?_map, h3]; rfl, beq_self_eq_true z, fun m z' hm hz' => ?_, k.go (g1.then' g2) l2 (.int _) q2⟩
      rw [List.getElem?_map] at hz'
      cases e : ys[m]? with
      | none =>
        rw [e] at hz'
        cases hz'
      | some w =>
        rw [e] at hz'
        cases hz'
        exact beq_eq_false_iff_ne.mpr fun c => h4 m hm (by rw [e, c])
    · cases r1
      obtain ⟨_, ob, vs, p, c, r⟩ := l1.cell a _ hx
      refine .inr ⟨a, ob, vs, rfl, p, c, low_then l1 (s.mono g1) (kx.mono g1) q1 ⟨fun {d2 M2 v2 G2 H2} g2 l2 r2 ⟨ys, z, j, ey, h1, h2, h3, h4, q2⟩ => ?_⟩⟩
      subst ey
      cases r2
      obtain ⟨b, hb⟩ := seqS_of h1
      rw [hb, seqS_tux hx] at h2
      cases h2
      obtain ⟨ws, p2, rr⟩ := tux_sqt l2 (seqS_out hb)
      have ew := iLs_of rr
      subst ew
      exact ⟨ys, z, j, rfl, p2, h3, h4, k.go (g1.then' g2) l2 (.int _) q2⟩⟩
/-! ### xs.count(k), xs.insert(i, y) of lists -/
def mCntD : RMd := fun o ds M Q => match ds with
  | [.int k] => ∃ ns : List Int, seqL M o = some (iL ns) ∧ Q (.int (ns.count k : Nat)) M
  | _ => False
theorem ok_cnt : OKM K "list" (rCntI K) mCntD isLs := ⟨ty_list, fun {F H M x d vs ds Qd Q} l rx rs k q => by
  match ds, vs, rs, q with
  | [.int j], [_], .cons (.int _) .nil, ⟨ns, h, q⟩ =>
    obtain ⟨a, ws, rfl, p, r⟩ := seqL_ok l rx h
    have ew := iLs_of r
    subst ew
    exact ⟨a, ns, j, rfl, rfl, .inl (.inl p), k.go (.rfl' F) l (.int _) q⟩⟩
def mInsD : RMd := fun o ds M Q => match o, ds with
  | .ref a, [.int i, d] => match M a with
    | some (.lst xs) => (xs.length < sizeLine ∧ 0 ≤ i ∧ i < 2 ^ 63) ∧ Q .non (put M a (.lst (xs.take i.toNat ++ [d] ++ xs.drop i.toNat)))
    | _ => False
  | _, _ => False
theorem ins_eq {a : Addr} {xs : List D} {i : Int} {d : D} {Q : VD} (h : M a = some (.lst xs)) : mInsD (.ref a) [.int i, d] M Q = ((xs.length < sizeLine ∧ 0 ≤ i ∧ i < 2 ^ 63) ∧ Q .non (put M a (.lst (xs.take i.toNat ++ [d] ++ xs.drop i.toNat)))) := by
  simp only [mInsD, h]
theorem ok_ins : OKM K "list" (fun x vs H Q => ∃ (l : Addr) (xs : List V) (i : Int) (y : V), x = .ref l ∧ vs = [.int i, y] ∧ H l = some (.lst xs) ∧ xs.length < sizeLine ∧ 0 ≤ i ∧ i < 2 ^ 63 ∧ Q .non (upd H l (.lst (xs.take i.toNat ++ [y] ++ xs.drop i.toNat)))) mInsD isLs := ⟨ty_list, fun {F H M x d vs ds Qd Q} l rx rs k q => by
  match d, ds, vs, rs, rx, q with
  | .ref a, [.int i, d], [_, w], .cons (.int _) (.cons r .nil), .ref _, q =>
    have q : (match M a with
      | some (MC.lst xs) => (xs.length < sizeLine ∧ 0 ≤ i ∧ i < 2 ^ 63) ∧ Qd .non (put M a (.lst (xs.take i.toNat ++ [d] ++ xs.drop i.toNat)))
      | _ => False) := q
    split at q
    · rename_i xs h
      obtain ⟨⟨h1, h2, h3⟩, q⟩ := q
      obtain ⟨ws, hf, hh, rr⟩ := pe_cell l h
      exact ⟨a, ws, i, w, rfl, rfl, hh, by rw [rr.len]; exact h1, h2, h3, k.go (.rfl' F) (l.cellput (u := .lst (ws.take i.toNat ++ [w] ++ ws.drop i.toNat)) (c := .lst (xs.take i.toNat ++ [d] ++ xs.drop i.toNat)) hf ⟨_, upd_same, ((rr.take' _).app (.one r)).app (rr.drop' _)⟩) .non q⟩
    · exact q.elim⟩
/-! ### texts -/
def tFm (te : TEd) : TEd := fun Xd δ M Q => te Xd δ M fun d M1 => match d with
  | .str y => y.length ≤ sizeLine ∧ Q (.str y) M1
  | .int i => i.natAbs.log2 < 1920 ∧ Q (.str (toString i)) M1
  | _ => False
theorem pfm {pos : Pos} (he : PEd X W e te) : PEd X W (.FormattedValue e (-1) none pos) (tFm te) := pe_imp (pe_fmt he) fun σ H Q ⟨F, δ, M, Qd, Xd, l, s, k, kx, q⟩ =>
  low_then l s kx q ⟨fun {d1 M1 v1 G1 H1} g1 l1 r1 q1 => by
    cases r1 with
    | str y => exact .inl ⟨y, rfl, q1.1, k.go g1 l1 (.str _) q1.2⟩
    | int i => exact .inr ⟨i, rfl, q1.1, k.go g1 l1 (.str _) q1.2⟩
    | _ => exact q1.elim⟩
inductive PJd (X : Cx) (W : WX) : List Expr → List TEd → Prop
  | nil : PJd X W [] []
  | cons {e : Expr} {t : TEd} {es : List Expr} {ts : List TEd} (h : PEd X W e t) (r : PJd X W es ts) : PJd X W (e :: es) (t :: ts)
theorem PJd.low {es : List Expr} {ts : List TEd} (h : PJd X W es ts) : PJ X es (ts.map (DL.low X.K W)) := by
  induction h with
  | nil => exact .nil
  | cons h _ ih => exact .cons h ih
def tJsD : List TEd → Str → XD → SD → Md → VD → Prop
  | [], acc, _, _, M, Q => Q (.str acc) M
  | t :: ts, acc, Xd, δ, M, Q => t Xd δ M fun d M1 => match d with
    | .str y => (acc ++ y).length ≤ sizeLine ∧ tJsD ts (acc ++ y) Xd δ M1 Q
    | _ => False
theorem tJs_low {K : PySem.W.Frag} : ∀ (ts : List TEd) {acc : Str} {F H : Hp} {σ : L2.St} {δ : SD} {M : Md} {Xd : XD} {Qd : VD} {Q : VK}, Rl K F H M → Sls K F σ δ → Kv K F Qd Q → Kx K F Xd (WE W σ) → tJsD ts acc Xd δ M Qd →
    tJs (ts.map (DL.low K W)) acc σ H fun out H1 => Q (.str out) H1
  | [], acc, F, H, σ, δ, M, Xd, Qd, Q, l, s, k, kx, h => k.go (.rfl' F) l (.str _) h
  | t :: ts, acc, F, H, σ, δ, M, Xd, Qd, Q, l, s, k, kx, h => low_then l s kx h ⟨fun {d1 M1 v1 G1 H1} g1 l1 r1 q1 => by
    cases r1 with
    | str y => exact ⟨y, rfl, q1.1, tJs_low ts l1 (s.mono g1) (k.mono g1) (kx.mono g1) q1.2⟩
    | _ => exact q1.elim⟩
def tJd (ts : List TEd) : TEd := tJsD ts Str.empty
theorem pjd {v1 v2 : Expr} {rest : List Expr} {ts : List TEd} {pos : Pos} (h : PJd X W (v1 :: v2 :: rest) ts) : PEd X W (.JoinedStr (v1 :: v2 :: rest) pos) (tJd ts) := pe_imp (pe_joined h.low) fun σ H Q ⟨F, δ, M, Qd, Xd, l, s, k, kx, q⟩ => tJs_low ts l s k kx q
theorem pjd1 {pos : Pos} (he : PEd X W e te) : PEd X W (.JoinedStr [e] pos) te := pe_joined1 he
/-- sep.join(xs) -/
def tJn (to te : TEd) : TEd := fun Xd δ M Q => to Xd δ M fun x M1 => match x with
  | .str a => te Xd δ M1 fun d M2 => ∃ ys : List Str, seqA M2 d = some (ys.map .str) ∧ (ys.map (·.length)).sum + ys.length * a.length ≤ 16777216 ∧ Q (.str (Txt.join a ys)) M2
  | _ => False
theorem strs_of {F : Hp} : ∀ {ys : List Str} {vs : List V}, Rps K F vs (ys.map D.str) → vs = ys.map V.str
  | [], _, .nil => rfl
  | y :: ys, _, .cons r t => by
    cases r
    rw [strs_of t]
    rfl
theorem pjn {apos pos : Pos} (ho : PEd X W o to) (he : PEd X W e te) (hs : starEach [e] X.env = [(false, eval e X.env)] := by rfl) (hbase : attributeBase o "join" X.env (eval o X.env) = eval o X.env := by rfl) (hline : (apos.endLine == pos.line) = true := by rfl) :
    PEd X W (.Call (.Attribute o "join" apos) [e] [] pos) (tJn to te) := pe_imp (pe_join ho he hs hbase hline) fun σ H Q ⟨F, δ, M, Qd, Xd, l, s, k, kx, q⟩ =>
  low_then l s kx q ⟨fun {d1 M1 v1 G1 H1} g1 l1 r1 q1 => by
    cases r1 with
    | str a => exact ⟨⟨a, rfl⟩, low_then l1 (s.mono g1) (kx.mono g1) q1 ⟨fun {d2 M2 v2 G2 H2} g2 l2 r2 ⟨ys, h1, h2, q2⟩ => by
        obtain ⟨p, vs, rfl, hp, rr⟩ := seqA_ok l2 r2 h1
        have ev := strs_of rr
        subst ev
        exact ⟨a, p, ys, rfl, rfl, hp.imp (fun z => .inl (.inl z)) id, h2, k.go (g1.then' g2) l2 (.str _) q2⟩⟩⟩
    | _ => exact q1.elim⟩
/-! ### x.bit_length() -/
def tBt (to : TEd) : TEd := fun Xd δ M Q => to Xd δ M fun x M1 => match x with
  | .int i => Q (.int (Builtin.Int.intBits i : Nat)) M1
  | _ => False
theorem pbt {apos pos : Pos} (ho : PEd X W o to) (hbase : attributeBase o "bit_length" X.env (eval o X.env) = eval o X.env := by rfl) (hline : (apos.endLine == pos.line) = true := by rfl) : PEd X W (.Call (.Attribute o "bit_length" apos) [] [] pos) (tBt to) := pe_imp (pe_bits ho hbase hline) fun σ H Q ⟨F, δ, M, Qd, Xd, l, s, k, kx, q⟩ =>
  low_then l s kx q ⟨fun {d1 M1 v1 G1 H1} g1 l1 r1 q1 => by
    cases r1 with
    | int i => exact ⟨i, rfl, k.go g1 l1 (.int _) q1⟩
    | _ => exact q1.elim⟩
/-! ### a tuple times an int -/
def rMulT : R2d := fun x y M Q => match x, y with
  | .tup xs, .int k => (k = 1 ∧ Q (.tup xs) M) ∨ ((xs ≠ [] ∧ 2 ≤ k ∧ k ≤ 1000 ∧ xs.length ≤ 1000) ∧ Q (.tup (List.replicate k.toNat xs).flatten) M)
  | _, _ => False
abbrev rMulTH (K : PySem.W.Frag) : R2 := fun x y H Q => rRep1 K x y H Q ∨ rRepT K x y H Q
theorem op_mulT : OpR X (binaryOp .Mult) (rMulTH X.K) := op_rep1.or op_repT
theorem ok_mulT : OK2 K (rMulTH K) rMulT := ⟨fun {F H M x y d e Qd Q} l rx ry k q => by
  unfold rMulT at q
  split at q
  · rename_i xs j
    cases ry
    obtain ⟨a, vs, rfl, p, r⟩ := seqT_ok l rx (xs := xs) rfl
    rcases q with ⟨rfl, q⟩ | ⟨⟨h1, h2, h3, h4⟩, q⟩
    · exact .inl ⟨a, vs, rfl, rfl, p, k.go (.rfl' F) l rx q⟩
    · refine .inr ⟨a, j, vs, rfl, rfl, p, fun z => ?_, h2, h3, by rw [r.len]; exact h4, fun b hb => ?_⟩
      · rw [z] at r
        cases r
        exact h1 rfl
      · obtain ⟨l2, g⟩ := l.keep hb (.tup (List.replicate j.toNat vs).flatten)
        exact k.go g l2 (.tup (.inl (.inl upd_same)) ((r.rep _).mono g)) q
  · exact q.elim⟩
end
end DL
/-! The data layer: repr of None, Bools, ints, lists and tuples. -/
namespace DL
open PySem PySem.Spec PyProof.Rows L2
variable [B : Obs]
section
variable {X : Cx} {W : WX} {K : PySem.W.Frag} {n k : Nat}
def rReprA (K : PySem.W.Frag) : List V → Hp → VK → Prop := fun xs H Q => match xs with
  | [.non] => Q (.str "None") H
  | [.bl b] => Q (.str (if b then "True" else "False")) H
  | [.int i] => i.natAbs.log2 < 1920 ∧ Q (.str (toString i)) H
  | [.ref a] => ∃ (p : PyData), Dp K H (.ref a) p ∧ p.showable = true ∧ p.hasDict = false ∧ p.depth ≤ 190 ∧ p.shown.length ≤ sizeLine ∧ Q (.str p.shown) H
  | _ => False
theorem call_reprA (hg : X.A.guards = some []) (hu : X.A.units + 200 < cLine) : CallR X (.builtin "repr") (rReprA X.K) := by
  rintro pins s σ H xs us Q I r q
  match xs, r, q with
  | [.non], r, q =>
    obtain ⟨u, rfl, ru⟩ := vals1 r
    obtain rfl : u = Value.none := ru
    exact PySem.P.repr_of_none ⟨.str _, H, I.tok _, ⟨_, rfl⟩, q⟩
  | [.bl b], r, q =>
    obtain ⟨u, rfl, ru⟩ := vals1 r
    obtain rfl : u = Value.bool b := ru
    exact PySem.P.repr_of_bool ⟨.str _, H, I.tok _, ⟨_, rfl⟩, q⟩
  | [.int i], r, q =>
    obtain ⟨u, rfl, ru⟩ := vals1 r
    obtain ⟨t, rfl⟩ := ru
    exact PySem.P.repr_of_int q.1 ⟨.str _, H, I.tok _, ⟨_, rfl⟩, q.2⟩
  | [.ref a], r, ⟨p, hd, h1, h2, h3, h4, q⟩ => exact call_reprP hg hu pins s σ H [.ref a] us Q I r ⟨a, p, rfl, hd, h1, h2, h3, h4, q⟩
def rpD : Rm := fun ds M Q => match ds with
  | [.non] => Q (.str "None") M
  | [.bl b] => Q (.str (if b then "True" else "False")) M
  | [.int i] => i.natAbs.log2 < 1920 ∧ Q (.str (toString i)) M
  | [d] => ∃ p, Py M d p ∧ (seqA M d).isSome = true ∧ p.showable = true ∧ p.hasDict = false ∧ p.depth ≤ 190 ∧ p.shown.length ≤ sizeLine ∧ Q (.str p.shown) M
  | _ => False
theorem ok_rp : OKC K (rReprA K) rpD := ⟨fun {F H M vs ds Qd Q} l rs k q => by
  have go : ∀ d v, Rp K F v d → (∃ p, Py M d p ∧ (seqA M d).isSome = true ∧ p.showable = true ∧ p.hasDict = false ∧ p.depth ≤ 190 ∧ p.shown.length ≤ sizeLine ∧ Qd (.str p.shown) M) → rReprA K [v] H Q := fun d v r ⟨p, hp, hs, h1, h2, h3, h4, q⟩ => by
    obtain ⟨xs, hx⟩ := Option.isSome_iff_exists.mp hs
    obtain ⟨a, ws, rfl, _, _⟩ := seqA_ok l r hx
    exact ⟨p, hp.dp l r, h1, h2, h3, h4, k.go (.rfl' F) l (.str _) q⟩
  match ds, vs, rs, q with
  | [.non], [_], .cons (.non) .nil, q => exact k.go (.rfl' F) l (.str _) q
  | [.bl b], [_], .cons (.bl _) .nil, q => exact k.go (.rfl' F) l (.str _) q
  | [.int i], [_], .cons (.int _) .nil, q => exact ⟨q.1, k.go (.rfl' F) l (.str _) q.2⟩
  | [.str x], [v], .cons r .nil, q => exact go _ _ r q
  | [.ty x], [v], .cons r .nil, q => exact go _ _ r q
  | [.ref x], [v], .cons r .nil, q => exact go _ _ r q
  | [.lst x], [v], .cons r .nil, q => exact go _ _ r q
  | [.tup x], [v], .cons r .nil, q => exact go _ _ r q
  | [.rng x y], [v], .cons r .nil, q => exact go _ _ r q
  | [.ob x], [v], .cons r .nil, q => exact go _ _ r q
  | [.scr x], [v], .cons r .nil, q => exact go _ _ r q
  | [.exc _ _ _ _ _], [v], .cons r .nil, q => exact go _ _ r q
  | [.ins _ _ _], [v], .cons r .nil, q => exact go _ _ r q
  | [.dic _ _], [v], .cons r .nil, q => exact go _ _ r q⟩
end
end DL
/-! The data layer: sorted(pairs), sorted(set(pairs)). -/
namespace DL
open PySem PySem.Spec PyProof.Rows L2
variable [B : Obs]
/-- a pair of ints -/
def pD (p : Int × Int) : D := .tup [.int p.1, .int p.2]
def pI (p : Int × Int) : List Int := [p.1, p.2]
section
variable {X : Cx} {W : WX} {K : PySem.W.Frag} {n k : Nat} {F H : Hp}
theorem pD_at {v : V} {p : Int × Int} (r : Rp K F v (pD p)) : ∃ t, v = .ref t ∧ SqT K F t ((pI p).map V.int) := by
  unfold pD at r
  cases r with
  | tup h q =>
    cases q with
    | cons q1 q =>
      cases q with
      | cons q2 q =>
        cases q
        cases q1
        cases q2
        exact ⟨_, rfl, h⟩
theorem pD_of {t : Addr} {p : Int × Int} (h : SqT K F t ((pI p).map V.int)) : Rp K F (.ref t) (pD p) := .tup h (.cons (.int _) (.cons (.int _) .nil))
theorem pDs_refs : ∀ {ps : List (Int × Int)} {vs : List V}, Rps K F vs (ps.map pD) → ∃ ks : List (Addr × List Int), vs = ks.map (fun p => V.ref p.1) ∧ ks.map (·.2) = ps.map pI ∧ ∀ p ∈ ks, SqT K F p.1 (p.2.map V.int)
  | [], _, .nil => ⟨[], rfl, rfl, fun _ h => nomatch h⟩
  | p :: ps, _, .cons r t => by
    obtain ⟨a, rfl, ha⟩ := pD_at r
    obtain ⟨ks, e1, e2, e3⟩ := pDs_refs t
    refine ⟨(a, pI p) :: ks, by rw [e1]; rfl, by rw [List.map_cons, e2]; rfl, fun q hq => ?_⟩
    rcases List.mem_cons.mp hq with e | hq
    · rw [e]
      exact ha
    · exact e3 q hq
def ofI (ns : List Int) : Int × Int := (ns.getD 0 0, ns.getD 1 0)
theorem ofI_pI (p : Int × Int) : ofI (pI p) = p := rfl
theorem pDs_of : ∀ {ks : List (Addr × List Int)}, (∀ p ∈ ks, SqT K F p.1 (p.2.map V.int)) → (∀ p ∈ ks, ∃ q, p.2 = pI q) → Rps K F (ks.map fun p => V.ref p.1) ((ks.map fun p => ofI p.2).map pD)
  | [], _, _ => .nil
  | p :: ks, h1, h2 => by
    obtain ⟨q, e⟩ := h2 p List.mem_cons_self
    refine .cons ?_ (pDs_of (fun r hr => h1 r (List.mem_cons_of_mem _ hr)) fun r hr => h2 r (List.mem_cons_of_mem _ hr))
    refine pD_of ?_
    show SqT K F p.1 ((pI (ofI p.2)).map V.int)
    rw [e, ofI_pI, ← e]
    exact h1 p List.mem_cons_self
/-- in their order -/
def ltI (p q : Int × Int) : Prop := p.1 < q.1 ∨ (p.1 = q.1 ∧ p.2 < q.2)
def leI (p q : Int × Int) : Prop := p.1 < q.1 ∨ (p.1 = q.1 ∧ p.2 ≤ q.2)
def Bd2 (p : Int × Int) : Prop := (0 ≤ p.1 ∧ p.1 < 64) ∧ (0 ≤ p.2 ∧ p.2 < 64)
theorem bd_of {p : Int × Int} (h : Bd2 p) : TS.Bd 64 (pI p) := fun m hm => by
  rcases List.mem_cons.mp hm with e | hm
  · rw [e]
    exact h.1
  · rcases List.mem_cons.mp hm with e | hm
    · rw [e]
      exact h.2
    · cases hm
theorem le_of_code {p q : Int × Int} (h : TS.code 64 (pI p) ≤ TS.code 64 (pI q)) (b1 : Bd2 p) (b2 : Bd2 q) : leI p q := by
  unfold pI at h
  rw [code_pair, code_pair] at h
  unfold leI
  have := b1.1; have := b1.2; have := b2.1; have := b2.2
  omega
theorem lt_of_le {p q : Int × Int} (h : leI p q) (ne : p ≠ q) : ltI p q := by
  unfold leI at h
  unfold ltI
  rcases h with h | ⟨h1, h2⟩
  · exact .inl h
  · refine .inr ⟨h1, ?_⟩
    rcases Int.lt_or_eq_of_le h2 with k | k
    · exact k
    · exact absurd (Prod.ext h1 k) ne
/-- sorted(xs), xs a list of pairs of ints below 64 -/
def sortPD : Rm := fun ds M Q => match ds with
  | [d] => ∃ ps : List (Int × Int), seqL M d = some (ps.map pD) ∧ ps.length < 64 ∧ (∀ p ∈ ps, Bd2 p) ∧ ∀ qs : List (Int × Int), qs.Perm ps → qs.Pairwise leI → Q (.lst (qs.map pD)) M
  | _ => False
theorem perm_refs {vs ws : List V} {ps : List (Int × Int)} (p : ws.Perm vs) : Rps K F vs (ps.map pD) → ∃ qs : List (Int × Int), qs.Perm ps ∧ Rps K F ws (qs.map pD) := by
  intro r
  induction p generalizing ps with
  | nil => exact ⟨ps, .refl _, r⟩
  | cons x p ih =>
    cases ps with
    | nil => cases r
    | cons q ps =>
      cases r with
      | cons r t =>
        obtain ⟨qs, h1, h2⟩ := ih t
        exact ⟨q :: qs, h1.cons q, .cons r h2⟩
  | swap x y l =>
    cases ps with
    | nil => cases r
    | cons q ps =>
      cases r with
      | cons r t =>
        cases ps with
        | nil => cases t
        | cons q2 ps =>
          cases t with
          | cons r2 t => exact ⟨q2 :: q :: ps, .swap _ _ _, .cons r2 (.cons r t)⟩
  | trans p1 p2 i1 i2 =>
    obtain ⟨qs, h1, h2⟩ := i2 r
    obtain ⟨rs, h3, h4⟩ := i1 h2
    exact ⟨rs, h3.trans h1, h4⟩
theorem pw_refs {R : V → V → Prop} {S : Int × Int → Int × Int → Prop} (h : ∀ v w p q, Rp K F v (pD p) → Rp K F w (pD q) → R v w → S p q) : ∀ {vs : List V} {ps : List (Int × Int)}, Rps K F vs (ps.map pD) → vs.Pairwise R → ps.Pairwise S
  | [], [], .nil, _ => .nil
  | v :: vs, p :: ps, .cons r t, w => by
    obtain ⟨w1, w2⟩ := List.pairwise_cons.mp w
    refine List.pairwise_cons.mpr ⟨fun q hq => ?_, pw_refs h t w2⟩
    obtain ⟨i, hi⟩ := List.getElem?_of_mem hq
    obtain ⟨u, hu, ru⟩ := t.at' (i := i) (d := pD q) (by rw [List.getElem?_map, hi]; rfl)
    exact h v u p q r ru (w1 u (List.mem_of_getElem? hu))
theorem ok_sortP : OKC K (rSortU K 2 64) sortPD := ⟨fun {F H M vs ds Qd Q} l rs k q => by
  match ds, vs, rs, q with
  | [d], [v], .cons r .nil, ⟨ps, h1, h2, h3, q⟩ =>
    obtain ⟨a, ws, rfl, ha, rw_⟩ := seqL_ok l r h1
    refine ⟨a, ws, rfl, .inl (.inl ha), by rw [rw_.len, List.length_map]; exact h2, fun x hx => ?_, fun ys p hp hw hn => ?_⟩
    · obtain ⟨i, hi⟩ := List.getElem?_of_mem hx
      have hl := (List.getElem?_eq_some_iff.mp hi).1
      have hl2 : i < ps.length := by
        rw [rw_.len, List.length_map] at hl
        exact hl
      obtain ⟨u, hu, ru⟩ := rw_.at' (i := i) (d := pD ps[i]) (by rw [List.getElem?_map, List.getElem?_eq_getElem hl2]; rfl)
      rw [hi] at hu
      cases hu
      obtain ⟨t, et, ht⟩ := pD_at ru
      exact ⟨_, ⟨t, et, l.sub.sqt ht⟩, rfl, bd_of (h3 _ (List.getElem_mem hl2))⟩
    · obtain ⟨qs, hq, rq⟩ := perm_refs hp rw_
      have hb : ∀ p ∈ qs, Bd2 p := fun p hp => h3 p (hq.mem_iff.mp hp)
      have hw2 : qs.Pairwise fun x y => TS.code 64 (pI x) ≤ TS.code 64 (pI y) := pw_refs (fun v w x y rx ry h => by
        obtain ⟨t, et, ht⟩ := pD_at rx
        obtain ⟨t2, et2, ht2⟩ := pD_at ry
        exact h _ _ ⟨t, et, l.sub.sqt ht⟩ ⟨t2, et2, l.sub.sqt ht2⟩) rq hw
      obtain ⟨l2, e2⟩ := l.keep hn (.lst ys)
      exact k.go e2 l2 (.lst upd_same (rq.mono e2)) (q qs hq (hw2.imp_of_mem fun hx hy h => le_of_code h (hb _ hx) (hb _ hy)))⟩
/-- sorted(set(xs)) -/
def sortSD : Rm := fun ds M Q => match ds with
  | [d] => ∃ ps : List (Int × Int), seqL M d = some (ps.map pD) ∧ ps.length < 64 ∧ (∀ p ∈ ps, Bd2 p) ∧ ∀ qs : List (Int × Int), (∀ p, p ∈ qs ↔ p ∈ ps) → qs.Pairwise ltI → qs.length < 64 → Q (.lst (qs.map pD)) M
  | _ => False
theorem psortS {m : Nat} (c : Cd X W m) {e : Expr} {tes : TAd} {p p2 q2 pos : Pos} (hg : Gl X "sorted") (hm : X.mg "sorted" = none) (hg2 : Gl X "set") (hm2 : X.mg "set" = none) (ha : PAd X W [e] tes)
    (na : starEach [e] X.env = (false, eval e X.env) :: starEach [] X.env := by rfl) : PEd X W (.Call (.Name "sorted" p) [.Call (.Name "set" p2) [e] [] q2] [] pos) (tCl sortSD tes) := by
  have hu : X.A.units + 64 < cLine := by
    have := c.rm.un
    omega
  refine pe_imp (pe_callB (cr_sortedT c.calm) hg hm (by rfl) (pa_cons (pe_callTy (cr_setOfT c.calm hu) hg2 hm2 (by rfl) ha (by decide) (by decide) na (by rfl)) pa_nil (by rfl)) (by decide) (by decide) (by rfl) (by rfl)) fun σ H Q ⟨F, δ, M, Qd, Xd, l, s, kq, kx, q⟩ => ?_
  refine lowA_then l s kx q ⟨fun {ds M1 vs G H1} g l1 r1 h1 => ?_⟩
  match ds, vs, r1, h1 with
  | [d], [v], .cons r .nil, ⟨ps, h1, h2, h3, q⟩ =>
    obtain ⟨a, ws, rfl, ha, rw_⟩ := seqL_ok l1 r h1
    obtain ⟨ks, rfl, e2, e3⟩ := pDs_refs rw_
    have hk : ∀ p ∈ ks, ∃ q ∈ ps, p.2 = pI q := fun p hp => by
      have hm : p.2 ∈ ps.map pI := by
        rw [← e2]
        exact List.mem_map.mpr ⟨p, hp, rfl⟩
      obtain ⟨q, hq, e⟩ := List.mem_map.mp hm
      exact ⟨q, hq, e.symm⟩
    refine ⟨a, ks, rfl, .inl (.inl ha), fun p hp => l1.sub.sqt (e3 p hp), ?_, fun b L hb hL1 hL2 => ?_⟩
    · have := congrArg List.length e2
      rw [List.length_map, List.length_map] at this
      omega
    · have hadd : Le H1 (upd H1 b (SetTO X.prog X.w b L)) := Le.add hb
      have l2 := l1.lost hb (SetTO X.prog X.w b L)
      refine ⟨b, L, 2, 64, rfl, upd_same, fun p hp => hadd.sqt (l1.sub.sqt (e3 p (hL1 p hp))), by omega, fun p hp => ?_, fun L' t hp hnd hlen hpw hn => ?_⟩
      · obtain ⟨q, hq, e⟩ := hk p (hL1 p hp)
        rw [e]
        exact ⟨rfl, bd_of (h3 q hq)⟩
      · obtain ⟨l3, g3⟩ := l2.keep hn (.lst (L'.map fun q => V.ref q.1))
        have hmem : ∀ p ∈ L', p ∈ ks := fun p hp' => hL1 p (hp.mem_iff.mp hp')
        have rq : Rps X.K G (L'.map fun p => V.ref p.1) ((L'.map fun p => ofI p.2).map pD) := pDs_of (fun p hp' => e3 p (hmem p hp')) fun p hp' => by
          obtain ⟨q, _, e⟩ := hk p (hmem p hp')
          exact ⟨q, e⟩
        refine kq.go (g.then' g3) l3 (.lst upd_same (rq.mono g3)) (q (L'.map fun p => ofI p.2) (fun p => ⟨fun hp' => ?_, fun hp' => ?_⟩) ?_ (by rw [List.length_map]; exact hlen))
        · obtain ⟨x, hx, e⟩ := List.mem_map.mp hp'
          obtain ⟨y, hy, e'⟩ := hk x (hmem x hx)
          rw [e', ofI_pI] at e
          rw [← e]
          exact hy
        · have : pI p ∈ ks.map (·.2) := by
            rw [e2]
            exact List.mem_map.mpr ⟨p, hp', rfl⟩
          obtain ⟨x, hx, e⟩ := List.mem_map.mp this
          have hx2 := hL2 x hx
          obtain ⟨y, hy, ey⟩ := List.mem_map.mp hx2
          refine List.mem_map.mpr ⟨y, hp.mem_iff.mpr hy, ?_⟩
          rw [ey, e]
          rfl
        · have hnd' : L'.Pairwise fun x y => x.2 ≠ y.2 := List.pairwise_map.mp hnd
          refine List.pairwise_map.mpr ((hpw.and hnd').imp_of_mem fun {x y} hx hy ⟨h, hne⟩ => ?_)
          obtain ⟨x', hx', ex⟩ := hk x (hmem x hx)
          obtain ⟨y', hy', ey⟩ := hk y (hmem y hy)
          rw [ex, ey] at h hne
          rw [ex, ey, ofI_pI, ofI_pI]
          exact lt_of_le (le_of_code h (h3 _ hx') (h3 _ hy')) fun z => hne (by rw [z])
end
end DL
/-! The data layer: defs called within an except suite that may be handed the caught error itself. -/
namespace DL
open PySem PySem.Spec PyProof.Rows L2 L2H
variable [B : Obs]
/-- within the suite of the caught error at a, of the class cls, with the dict d -/
structure HotX (X : Cx) (k : Nat) (a : Addr) (cls : Value) (d : Option Addr) : Prop where
  ex : ∃ oe, (a, oe) ∈ X.pn ∧ X.A.handled = some (.ref a) ∧ L2N.Zn cls d oe ∧ ∃ vs, oe.data = .fields vs
  nd : X.N.Nodup
  rm : RoomH k X.A
  gd : X.A.guards = some []
theorem HotX.ru {X : Cx} {k : Nat} {a : Addr} {cls : Value} {d : Option Addr} (h : HotX X k a cls d) : X.A.units + 200 < cLine := by
  have := h.rm.un
  omega
theorem HotX.hu {X : Cx} {k : Nat} {a : Addr} {cls : Value} {d : Option Addr} (h : HotX X k a cls d) : X.A.units + 64 < cLine := by
  have := h.rm.un
  omega
theorem HotX.c {X : Cx} {k : Nat} {a : Addr} {cls : Value} {d : Option Addr} (h : HotX X k a cls d) : HotC X := by
  obtain ⟨oe, h1, h2, h3, vs, h4⟩ := h.ex
  exact ⟨(a, oe), ⟨h2, vs, h4, h3.2.2 vs h4⟩, h1⟩
theorem hotx_suite {X : Cx} {W : WX} {n : Nat} {a : Addr} {oe : Obj} {cls : Value} {d : Option Addr} {pn : List (Addr × Obj)} (c : Cd X W n) (hz : L2N.Zn cls d oe) (hf : ∃ vs, oe.data = .fields vs) : HotX (X.suite a ((a, oe) :: pn)) n a cls d :=
  ⟨⟨oe, List.mem_cons_self, rfl, hz, hf⟩, c.nd, roomH_m c.rm _, c.gd⟩
/-- promises that tell of the caught error -/
abbrev SpX := Addr → Value → Option Addr → SpD
structure FnX (P : Program) (w : World) (K : PySem.W.Frag) (mg : Str → Option Value) (base : Heap) (k : Nat) (f : Addr) (fd : FuncData) (ps : List Str) (sp : SpX) : Prop where
  len : ∀ {a cls d vs H Q E}, toSp K (sp a cls d) vs H Q E → vs.length = ps.length
  run : ∀ (A : Around) (outer : List Env) (s : Shared) (H : Hp) (args : Args) (us : List Value) (vs : List V) (Q : VK) (E : XK) (p : Addr × Obj) (cls : Value) (d : Option Addr), RoomH k A → A.guards = some [] → Hot1 A p → L2N.Zn cls d p.2 → PinOk outer H s p → Env0 P w K mg base A outer s H →
    BindsTo s fd args (ps.zip us) → Vals vs us → toSp K (sp p.1 cls d) vs H Q E → codeAny (model P w) A (.call (.ref f) args) (CR (L2N.CX P w) outer P w H s Q E) s
structure HasX (P : Program) (w : World) (K : PySem.W.Frag) (mg : Str → Option Value) (base : Heap) (k : Nat) (x : Str) (ps : List Str) (sp : SpX) : Prop where
  ex : ∃ f fd, FnX P w K mg base k f fd ps sp ∧ mg x = some (.ref f) ∧ PySem.W.keepIn K (.ref f) = true ∧ Binds K fd ps []
section
variable {X : Cx} {W : WX} {n k : Nat} {f : Addr} {fd : FuncData} {x : Str} {ps : List Str} {sp : SpX} {e : Expr} {es : List Expr} {pos p : Pos} {te : TEd} {tes : TAd} {t : TA} {a C : Addr} {cls : Value} {d : Option Addr} {ok : Addr → Prop}
theorem run_fnX {pins : List (Addr × Obj)} {σ : L2.St} {H : Hp} {s : Shared} {Q : VK} {us : List Value} {vs : List V} (F : FnX X.prog X.w X.K X.mg X.base k f fd ps sp) (hx : HotX X n a cls d) (hk : k ≤ n) (hb : Binds X.K fd ps [])
    (I : Inv X pins σ H s) (r : Vals vs us) (h : toSp X.K (sp a cls d) vs H Q fun _ _ _ => False) : wpAny (model X.prog X.w) X.A (call (.ref f) us) (EP X pins σ Q) X.xe s := by
  obtain ⟨oe, h1, h2, h3, ws, h4⟩ := hx.ex
  have hot : Hot1 X.A (a, oe) := ⟨h2, ws, h4, h3.2.2 ws h4⟩
  have hl : us.length = ps.length := by rw [← r.length]; exact F.len h
  have b := hb s us I.kIn (by rw [List.append_nil]; exact hl)
  rw [List.append_nil] at b
  have P1 := I.pin (a, oe) (List.mem_append_left _ h1)
  have hpin : PinOk X.stack H s (a, oe) := ⟨P1.1, P1.2.1, fun hm => (List.mem_cons.mp (I.stkSub a hm)).elim P1.2.2.1 P1.2.2.2.1, P1.2.2.2.2⟩
  refine wpAny_call (codeAny_mono (F.run X.A X.stack s H ⟨us, []⟩ us vs Q (fun _ _ _ => False) (a, oe) cls d (hx.rm.mono hk) hx.gd hot h3 hpin I.env0 b r h) fun r s' hq => ?_)
  match r, hq with
  | .error e, hq =>
    obtain ⟨_, _, _, _, _, _, _, _, _, _, _, _, z⟩ := hq
    exact z.elim
  | .ok (.ret u), hq => exact I.after hq
  | .ok .next, hq => exact hq.elim
  | .ok .brk, hq => exact hq.elim
  | .ok .cont, hq => exact hq.elim
/-- f(e, ..) there -/
theorem pcallX (hx : HotX X n a cls d) (G : HasX X.prog X.w X.K X.mg X.base k x ps sp) (ha : PAd X W0 (e :: es) tes) (hk : k ≤ n := by decide) (hg : Gl X x := by rfl)
    (hdb : (x == ("__debug__" : Str)) = false := by decide) (he : starEach (e :: es) X.env = (false, eval e X.env) :: starEach es X.env := by rfl) (hpl : (backTo pos (starEach es X.env)).any (·.1) = false := by rfl) : PEd X W0 (.Call (.Name x p) (e :: es) [] pos) (tFn (sp a cls d) [] tes) := by
  obtain ⟨f, fd, F, hm, kp, hb⟩ := G.ex
  refine ⟨fun pins s σ H Q I ⟨F', δ, M, Qd, Xd, l, s', kq, kx, h⟩ => ?_⟩
  refine wpAny_Call_Name_kw (ld_glob I hg hm (PySem.W.callWith_K (h₀ := X.base) I.ok.mod.kin kp
    (thn (ha.run pos pins s σ H (fun vs H1 => toSp X.K (sp a cls d) vs H1 Q fun _ _ _ => False) I (lowA_then l s' kx h ⟨fun {ds M1 vs G H1} g l1 r1 h1 => ?_⟩)) fun us s1 ⟨vs, H1, I1, r, q⟩ => ⟨I1.kIn, run_fnX F hx hk hb I1 r q⟩) he hpl) hdb)
  rw [List.append_nil] at h1
  exact ⟨G, M1, ds, Qd, Xd, l1, r1, kq.mono g, ⟨fun e1 l2 f2 q2 => (kx.mono g).go e1 l2 f2 q2⟩, h1⟩
/-- such a def by its body -/
theorem fn_dataX {P : Program} {w : World} {K : PySem.W.Frag} {mg : Str → Option Value} {base : Heap} {k : Nat} {f : Addr} {fd : FuncData} {name qual : Str} {params : Arguments} {body : List Stmt} {scope : Scope} {dvs : List V} {kws : List (Str × V)} {N ps : List Str} {spd : SpX} {td : Addr → Value → Option Addr → TSd}
    (F : FunD K name qual params body scope dvs kws f fd) (S : FnScope N ps scope) (len : ∀ {a cls d ds M Qd Xd}, spd a cls d ds M Qd Xd → ds.length = ps.length)
    (hbody : ∀ (cdv : Value) (A : Around) (outer : List Env) (s : Shared) (H : Hp) (E : XK) (p : Addr × Obj) (cls : Value) (d : Option Addr), HotX (cxH (L2N.CX P w) P w K mg base N qual scope f cdv A outer s H E p) k p.1 cls d →
      PSsd (cxH (L2N.CX P w) P w K mg base N qual scope f cdv A outer s H E p) W0 body (td p.1 cls d))
    (pure_ : ∀ {a cls d ds M Qd Xd}, spd a cls d ds M Qd Xd → td a cls d (outD Qd X0) (startD N ds) M) : FnX P w K mg base (k + 1) f fd ps spd := by
  obtain ⟨oc, od, dV, kV, doc, pm, an, cdv, ct, osl, rfl, lk, hcd, _, _⟩ := F.ex
  have len' : ∀ {a cls d vs H Q E}, toSp K (spd a cls d) vs H Q E → vs.length = ps.length := fun ⟨G, M, ds, Qd, Xd, l, r, kq, kx, q⟩ => by rw [r.len]; exact len q
  refine ⟨len', fun A outer s H args us vs Q E p cls d hr hgd hot hz hpin e0 hb r hsp => ?_⟩
  have hl := len' hsp
  have KX : K.In s.heap := e0.mod.kin.keeps fun b o e => (e0.bs b o e).1
  have lim : s.heap.NoLimit := e0.mod.nolimit.keeps fun b o e => (e0.bs b o e).1
  have hkind : ∀ y ∈ ps.zip us, scope.names.lookup y.1 = some .local ∨ (scope.names.lookup y.1 = some .cell ∧ ((cellsFrom (s.heap.objs.size + 1) scope.names []).lookup y.1).isSome = true) := fun ⟨n, v⟩ hy => by
    rcases S.par n (List.of_mem_zip hy).1 with q | q
    · exact .inl q
    · exact .inr ⟨q, PySem.W.cellsFrom_some _ _ _ (.inl q)⟩
  refine codeAny_call_function hr.depth (KX _ _ lk) rfl S.co S.gen rfl (PySem.W.codeRec_of KX hcd) (hb _ _ _ _ ?_)
  refine wpAny_newFunctionEnv_cells S.kind hkind fun env he s1 x => ?_
  subst he
  refine ⟨lim.keeps x.toInCall.keep, codeAny_func ?_⟩
  obtain ⟨G, M, ds, Qd, Xd, l, rr, kq, kx, q⟩ := hsp
  obtain ⟨vs2, hv2⟩ := hot.2
  have hbd := hbody cdv A outer s H E p cls d ⟨⟨p.2, List.mem_singleton.mpr rfl, hot.1, hz, vs2, hv2.1⟩, S.nd, hr.deeper _, guards_deeper hgd⟩
  have I : Inv (cxH (L2N.CX P w) P w K mg base N qual scope f cdv A outer s H E p) [] (L2.start N vs) H s1 := inv_startH S hpin e0 hl r x
  have lt := lt_out (E := fun _ _ _ => False) kq (kx0 (K := K) (F := G))
  refine wpAny_mono (hbd.run [] s1 (L2.start N vs) H { nx := fun _ H' => Q .non H', rt := Q } I ⟨G, startD N ds, M, outD Qd X0, l, start_rel rr, ⟨lt.nx, lt.rt, lt.bk, lt.ct, fun g s => lt.xx g s⟩, pure_ q⟩) (fun fl s' hs => ?_) fun e s' hs => hs
  match fl, hs with
  | .ret u, ⟨v, σ', H', J, rv, q⟩ => exact ⟨v, H', J.os, J.bare, J.base, J.hok, rv, q⟩
  | .next, ⟨σ', H', J, q⟩ => exact ⟨.non, H', J.os, J.bare, J.base, J.hok, rfl, q⟩
  | .brk, ⟨_, _, _, q⟩ => exact q.elim
  | .cont, ⟨_, _, _, q⟩ => exact q.elim
/-- err.f there -/
theorem pe_xfX {t0 : TE} {nm : Str} (hx : HotX X n a cls d) (T : XfC X.K C) (hno : PySem.W.findIn X.K (.ref C) nm = some none) (he : PE X e t0) (hb : attributeBase e nm X.env (eval e X.env) = eval e X.env := by rfl) : PE X (.Attribute e nm pos) (tXf a cls d C nm t0) := by
  refine ⟨fun pins s σ H Q I h => ?_⟩
  refine attr_of hb (thn (he.run pins s σ H _ I h) fun u s1 hh => ?_)
  obtain ⟨x, H1, I1, rx, ex, ec, dd, fs, v, ed, ea, l, q⟩ := hh
  subst ex
  obtain rfl : u = Value.ref a := rx
  subst ec
  subst ed
  obtain ⟨oe, h1, h2, h3, vs, hd⟩ := hx.ex
  obtain ⟨ha, _⟩ := I1.pin (a, oe) (List.mem_append_left _ h1)
  have hx : ObjOk X.prog X.w H1 s1.heap dd (.xd fs) := I1.hok dd _ ea
  obtain ⟨mA, hns, hr⟩ := hx
  obtain ⟨od, ho, hl⟩ := lookIn_ns hns
  obtain ⟨u, hu, ru⟩ := RelO.some_of (v := v) (o := mA nm) (by rw [← l]; exact hr nm)
  have J : PySem.W.InstAt s1.heap a oe C (some od) := ⟨ha, h3.1, by unfold PySem.W.notCls; rw [hd] <;> rfl, by rw [h3.2.1]; exact ho⟩
  exact HandSPX.exc_get I1.kIn J T.ga T.gg T.exC (PySem.W.findObj_own T.hdC hno rfl (by rw [hl, hu])) (handed_of ru) ⟨v, H1, I1.tok _, ru, q⟩
theorem pxf {nm : Str} (hx : HotX X n a cls d) (T : ∀ C, ok C → XfC X.K C ∧ PySem.W.findIn X.K (.ref C) nm = some none) (he : PEd X W e te) (hb : attributeBase e nm X.env (eval e X.env) = eval e X.env := by rfl) : PEd X W (.Attribute e nm pos) (tXfd ok a cls d nm te) := by
  by_cases hC : ∃ C, cls = .ref C ∧ ok C
  · obtain ⟨C, rfl, k⟩ := hC
    refine pe_imp (pe_xfX hx (T C k).1 (T C k).2 he hb) fun σ H Q ⟨F, δ, M, Qd, Xd, l, s, kq, kx, q⟩ => low_then l s kx q ⟨fun {x M1 v G H1} g l1 r1 h1 => ?_⟩
    cases r1 with
    | exc hx' rs =>
      obtain ⟨rfl, ec, _, ed, u, hu, h1⟩ := h1
      obtain ⟨w, hw, rw_⟩ := zip_at rs hu
      cases ec
      exact ⟨rfl, rfl, _, _, w, ed, l1.sub.of hx', hw, kq.go g l1 rw_ h1⟩
    | _ => exact h1.elim
  · refine ⟨fun pins s σ H Q I ⟨F, δ, M, Qd, Xd, l, s', kq, kx, q⟩ => attr_of hb (thn (he.run pins s σ H (fun _ _ => False) I (low_then l s' kx q ⟨fun {x M1 v G H1} g l1 r1 h1 => ?_⟩)) fun _ _ ⟨_, _, _, _, z⟩ => z.elim)⟩
    cases r1 with
    | exc hx rs => exact hC ⟨_, h1.2.1, h1.2.2.1⟩
    | _ => exact h1.elim
/-- isinstance(err, c) there, c a class or a tuple of classes -/
def clsL : List D → Option (List Value)
  | [] => some []
  | x :: xs => (clsD x).bind fun c => (clsL xs).bind fun cs => some (c :: cs)
theorem clsL_eq {K : PySem.W.Frag} {F : Hp} : ∀ {vs : List V} {ds : List D} {cs : List Value}, Rps K F vs ds → clsL ds = some cs → ∀ us, Vals vs us → us = cs
  | [], _, _, .nil, h => fun us r => by
    cases h
    cases r
    rfl
  | v :: vs, d :: ds, cs, .cons r t, h => fun us rv => by
    unfold clsL at h
    obtain ⟨c, h1, h⟩ := Option.bind_eq_some_iff.mp h
    obtain ⟨cs', h2, h3⟩ := Option.bind_eq_some_iff.mp h
    cases h3
    cases rv with
    | cons rv rt => rw [clsD_eq r h1 _ rv, clsL_eq t h2 _ rt]
def isAns (K : PySem.W.Frag) (C : Addr) (y : D) : Option Bool := match y with
  | .tup cs => (clsL cs).bind fun l => PySem.W.kitAny K (.ref C) l
  | y => (clsD y).bind fun c => PySem.W.kitOne K (.ref C) c
def tIsX (K : PySem.W.Frag) (ok : Addr → Prop) (a : Addr) (cls : Value) (d : Option Addr) (ta : TAd) : TEd := fun Xd δ M Q => ta Xd δ M fun ds M1 => match ds with
  | [.exc b C dd _ _, y] => b = a ∧ cls = .ref C ∧ ok C ∧ d = some dd ∧ ∃ b, isAns K C y = some b ∧ Q (.bl b) M1
  | _ => False
theorem call_isXX {C dd : Addr} (T : ExcC X.K C) (hx : HotX X n a (.ref C) (some dd)) : CallR X (.builtin "isinstance")
    (fun xs H Q => ∃ (c : V) (b : Bool) (fs : List (Str × V)), xs = [.ref a, c] ∧ H dd = some (.xd fs) ∧ ((∃ cv, (∀ u, RelV c u → u = cv) ∧ PySem.W.kitOne X.K (.ref C) cv = some b) ∨ ∃ t vs cs, c = .ref t ∧ SqT X.K H t vs ∧ (∀ us, Vals vs us → us = cs) ∧ PySem.W.kitAny X.K (.ref C) cs = some b) ∧ Q (.bl b) H) := by
  rintro pins s σ H xs us Q I r ⟨c, b, fs, rfl, hx', hk, q⟩
  obtain ⟨u1, u2, rfl, r1, r2⟩ := vals2 r
  cases r1
  obtain ⟨oe, h1, h2, hz, vs, hv⟩ := hx.ex
  obtain ⟨hget, _⟩ := I.pin (a, oe) (List.mem_append.mpr (.inl h1))
  obtain ⟨mA, hns, _⟩ := (show ObjOk X.prog X.w H s.heap dd (.xd fs) from I.hok dd _ hx')
  obtain ⟨od, ho, _⟩ := lookIn_ns hns
  have J : PySem.W.InstAt s.heap a oe C (some od) := ⟨hget, hz.1, by unfold PySem.W.notCls; rw [hv] <;> rfl, by rw [hz.2.1]; exact ho⟩
  rcases hk with ⟨cv, hcv, hk⟩ | ⟨t, ws, cs, rfl, ht, hcs, hk⟩
  · obtain rfl := hcv _ r2
    exact PySem.W.kia_one (DX.kit_err (x := a) T) I.kIn J hk (fun z => nomatch z) fun tk => ⟨.bl b, H, I.kept (t' := tk) fun _ _ z => z, rfl, q⟩
  · obtain ⟨its, rv, ⟨ot, hot, hcl, nn, hdt⟩, _⟩ := I.tuple ht
    obtain rfl := hcs _ rv
    obtain rfl : u2 = Value.ref t := r2
    obtain ⟨oc, od', odt, osl⟩ := ot
    simp only at hcl hdt
    subst hcl
    subst hdt
    exact PySem.W.kia_tup (DX.kit_err (x := a) T) I.kIn J hot hk (fun z => nomatch z) fun tk => ⟨.bl b, H, I.kept (t' := tk) fun _ _ z => z, rfl, q⟩
theorem pisXX (hx : HotX X n a cls d) (T : ∀ C, ok C → ExcC X.K C) (hm : X.mg "isinstance" = none) (ha : PAd X W (e :: es) tes) (hg : Gl X "isinstance" := by rfl)
    (he : starEach (e :: es) X.env = (false, eval e X.env) :: starEach es X.env := by rfl) (hpl : (backTo pos (starEach es X.env)).any (·.1) = false := by rfl) : PEd X W (.Call (.Name "isinstance" p) (e :: es) [] pos) (tIsX X.K ok a cls d tes) := by
  by_cases hC : ∃ C dd, cls = .ref C ∧ ok C ∧ d = some dd
  · obtain ⟨C, dd, rfl, k, rfl⟩ := hC
    refine pe_imp (pe_callB (call_isXX (T C k) hx) hg hm (by rfl) ha (by decide) (by decide) he hpl) fun σ H Q ⟨F, δ, M, Qd, Xd, l, s, kq, kx, q⟩ => lowA_then l s kx q ⟨fun {ds M1 vs G H1} g l1 r1 h1 => ?_⟩
    match ds, vs, r1, h1 with
    | [.exc b C' dd' ns es, y], [v, w], .cons r (.cons r2 .nil), ⟨e1, e2, _, e3, bb, hk, qq⟩ =>
      cases r with
      | exc hx rs =>
        subst e1
        cases e2
        cases e3
        refine ⟨w, bb, _, rfl, l1.sub.of hx, ?_, kq.go g l1 (.bl bb) qq⟩
        cases r2 with
        | tup ht rt =>
          obtain ⟨cs, h1, h2⟩ := Option.bind_eq_some_iff.mp hk
          exact .inr ⟨_, _, cs, rfl, l1.sub.sqt ht, clsL_eq rt h1, h2⟩
        | ref z =>
          obtain ⟨cv, h1, h2⟩ := Option.bind_eq_some_iff.mp (show (clsD (.ref z)).bind (fun c => PySem.W.kitOne X.K (.ref C) c) = some bb from hk)
          exact .inl ⟨cv, clsD_eq (K := X.K) (F := G) (.ref z) h1, h2⟩
        | ty z =>
          obtain ⟨cv, h1, h2⟩ := Option.bind_eq_some_iff.mp (show (clsD (.ty z)).bind (fun c => PySem.W.kitOne X.K (.ref C) c) = some bb from hk)
          exact .inl ⟨cv, clsD_eq (K := X.K) (F := G) (.ty z) h1, h2⟩
        | _ => cases hk
  · refine pe_imp (pe_callB (r := fun _ _ _ => False) (fun _ _ _ _ _ _ _ _ _ z => z.elim) hg hm (by rfl) ha (by decide) (by decide) he hpl) fun σ H Q ⟨F, δ, M, Qd, Xd, l, s, kq, kx, q⟩ => lowA_then l s kx q ⟨fun {ds M1 vs G H1} g l1 r1 h1 => ?_⟩
    match ds, vs, r1, h1 with
    | [.exc b C' dd' ns es, y], [v, w], .cons r (.cons r2 .nil), ⟨e1, e2, k, e3, _⟩ => exact hC ⟨_, _, e2, k, e3⟩
end
end DL
namespace K15
open PySem PySem.Spec PyProof.Rows L2
def topS (i : Nat) : Stmt := (PySem.W.OpenLaw.prog PySem.Challenge.rw_framesays_k15_led_faults).main.body.getD i (.Pass ⟨0, 0, 0, 0⟩)
def inC (j : Nat) (s : Stmt) : Stmt := inClass s j
end K15
namespace K15
open PySem PySem.Spec PyProof.Rows L2 DL
variable [B : Obs]
def okE (K : PySem.W.Frag) (C : Addr) : Prop := C = He.ga K "BadMap"
/-- facts -/
structure Fc (P : Program) (K : PySem.W.Frag) (mg : Str → Option Value) : Prop where
  b_ValueError : mg "ValueError" = none
  b_len : mg "len" = none
  b_range : mg "range" = none
  b_int : mg "int" = none
  b_str : mg "str" = none
  b_tuple : mg "tuple" = none
  b_list : mg "list" = none
  b_isinstance : mg "isinstance" = none
  b_abs : mg "abs" = none
  b_repr : mg "repr" = none
  b_super : mg "super" = none
  b_sorted : mg "sorted" = none
  b_set : mg "set" = none
  b_enumerate : mg "enumerate" = none
  b_zip : mg "zip" = none
  g_WAYS : HasG K mg "WAYS" (.tup [.str "a", .str "b", .str "c"])
  g_DIRECTIONS : HasG K mg "DIRECTIONS" (.tup [.str "a", .str "~a", .str "b", .str "~b", .str "c", .str "~c", .str "all"])
  g_KINDS : HasG K mg "KINDS" (.tup [.str "plain", .str "turned", .str "counted", .str "all", .str "full"])
  g_MOST_PLACES : HasG K mg "MOST_PLACES" (.int 130)
  g_SayError : HasG K mg "SayError" (.ref (He.ga K "SayError"))
  n_SayError : mg "SayError" = some (.ref (He.ga K "SayError"))
  g_BadMap : HasG K mg "BadMap" (.ref (He.ga K "BadMap"))
  n_BadMap : mg "BadMap" = some (.ref (He.ga K "BadMap"))
  g_Apart : HasG K mg "Apart" (.ref (He.ga K "Apart"))
  n_Apart : mg "Apart" = some (.ref (He.ga K "Apart"))
  g_BadCount : HasG K mg "BadCount" (.ref (He.ga K "BadCount"))
  n_BadCount : mg "BadCount" = some (.ref (He.ga K "BadCount"))
  g_BadPlace : HasG K mg "BadPlace" (.ref (He.ga K "BadPlace"))
  n_BadPlace : mg "BadPlace" = some (.ref (He.ga K "BadPlace"))
  g_BadSize : HasG K mg "BadSize" (.ref (He.ga K "BadSize"))
  n_BadSize : mg "BadSize" = some (.ref (He.ga K "BadSize"))
  g_BadWord : HasG K mg "BadWord" (.ref (He.ga K "BadWord"))
  n_BadWord : mg "BadWord" = some (.ref (He.ga K "BadWord"))
  g_TooLarge : HasG K mg "TooLarge" (.ref (He.ga K "TooLarge"))
  n_TooLarge : mg "TooLarge" = some (.ref (He.ga K "TooLarge"))
  g_TooWide : HasG K mg "TooWide" (.ref (He.ga K "TooWide"))
  n_TooWide : mg "TooWide" = some (.ref (He.ga K "TooWide"))
  g_Frame : HasG K mg "Frame" (.ref (He.ga K "Frame"))
  n_Frame : mg "Frame" = some (.ref (He.ga K "Frame"))
  e_BadMap : ∀ {w : World} {base : Heap}, HasE P w K mg base "BadMap" (He.ga K "BadMap") "at"
  xf_at : ∀ C, okE K C → XfC K C ∧ PySem.W.findIn K (.ref C) "at" = some none
  isx : ∀ C, okE K C → ExcC K C
  x_BadMap_SayError : PySem.W.exmOne K (.ref (He.ga K "BadMap")) (.ref (He.ga K "SayError")) = some true
  k_BadMap_ValueError : PySem.W.kitOne K (.ref (He.ga K "BadMap")) (.type "ValueError") = some true
  k_BadMap_Apart : PySem.W.kitOne K (.ref (He.ga K "BadMap")) (.ref (He.ga K "Apart")) = some false
  k_BadMap_BadCount : PySem.W.kitOne K (.ref (He.ga K "BadMap")) (.ref (He.ga K "BadCount")) = some false
  k_BadMap_BadPlace : PySem.W.kitOne K (.ref (He.ga K "BadMap")) (.ref (He.ga K "BadPlace")) = some false
  k_BadMap_BadSize : PySem.W.kitOne K (.ref (He.ga K "BadMap")) (.ref (He.ga K "BadSize")) = some false
  k_BadMap_BadWord : PySem.W.kitOne K (.ref (He.ga K "BadMap")) (.ref (He.ga K "BadWord")) = some false
  k_BadMap_TooLarge : PySem.W.kitOne K (.ref (He.ga K "BadMap")) (.ref (He.ga K "TooLarge")) = some false
  k_BadMap_TooWide : PySem.W.kitOne K (.ref (He.ga K "BadMap")) (.ref (He.ga K "TooWide")) = some false
  is_Frame : IsC K (He.ga K "Frame")
  f_Frame_size : OKF K (He.ga K "Frame") "size"
  f_Frame_full_mask : OKF K (He.ga K "Frame") "full_mask"
  f_Frame__steps : OKF K (He.ga K "Frame") "_steps"
  f_Frame_text : OKF K (He.ga K "Frame") "text"
end K15
/-! Plain laws of bits: the lowest bit, its removal. -/
namespace DL
open PySem
theorem bitNot_nat (m : Nat) : Builtin.bitNot (m : Int) = -(m : Int) - 1 := by
  show -(m : Int) - 1 = _
  rfl
theorem bitAnd_nat (x y : Nat) : Builtin.bitAnd (x : Int) (y : Int) = ((x &&& y : Nat) : Int) := by
  unfold Builtin.bitAnd
  rw [decide_eq_true (Int.natCast_nonneg x), decide_eq_true (Int.natCast_nonneg y)]
  rfl
theorem bitAnd_neg (m : Nat) (h : 0 < m) : Builtin.bitAnd (m : Int) (-(m : Int)) = ((m - (m &&& (m - 1)) : Nat) : Int) := by
  unfold Builtin.bitAnd
  rw [decide_eq_true (Int.natCast_nonneg m), decide_eq_false (show ¬ (0 : Int) ≤ -(m : Int) by omega)]
  have e : (Builtin.bitNot (-(m : Int))).toNat = m - 1 := by
    have : Builtin.bitNot (-(m : Int)) = ((m - 1 : Nat) : Int) := by
      unfold Builtin.bitNot
      omega
    rw [this]
    rfl
  show (m : Int) - (((m : Int).toNat &&& (Builtin.bitNot (-(m : Int))).toNat : Nat) : Int) = _
  rw [e, Int.toNat_natCast]
  have : m &&& (m - 1) ≤ m := Nat.and_le_left
  omega
theorem bitOr_nat (x y : Nat) : Builtin.bitOr (x : Int) (y : Int) = ((x ||| y : Nat) : Int) := by
  have n1 : ∀ z : Nat, (Builtin.bitNot (Builtin.bitNot (z : Int))) = (z : Int) := fun z => by
    unfold Builtin.bitNot
    omega
  have n2 : ∀ z : Nat, ¬ (0 : Int) ≤ Builtin.bitNot (z : Int) := fun z => by
    unfold Builtin.bitNot
    omega
  unfold Builtin.bitOr Builtin.bitAnd
  rw [decide_eq_false (n2 x), decide_eq_false (n2 y)]
  show Builtin.bitNot (Builtin.bitNot ((((Builtin.bitNot (Builtin.bitNot (x : Int))).toNat ||| (Builtin.bitNot (Builtin.bitNot (y : Int))).toNat : Nat) : Int))) = _
  rw [n1, n1, n1, Int.toNat_natCast, Int.toNat_natCast]
theorem bitXor_nat (x y : Nat) : Builtin.bitXor (x : Int) (y : Int) = (((x ||| y : Nat) : Int) - ((x &&& y : Nat) : Int)) := by
  unfold Builtin.bitXor
  rw [bitOr_nat, bitAnd_nat]
theorem or_split (y k : Nat) : 2 ^ y ||| 2 ^ (y + 1) * k = 2 ^ (y + 1) * k + 2 ^ y := by
  rw [Nat.or_comm]
  exact (Nat.two_pow_add_eq_or_of_lt (Nat.pow_lt_pow_right (by omega) (Nat.lt_succ_self y)) k).symm
theorem low_and (y k : Nat) : (2 ^ (y + 1) * k + 2 ^ y) &&& (2 ^ (y + 1) * k + 2 ^ y - 1) = 2 ^ (y + 1) * k := by
  have h1 : 2 ^ y < 2 ^ (y + 1) := Nat.pow_lt_pow_right (by omega) (Nat.lt_succ_self y)
  have h0 : 0 < 2 ^ y := Nat.two_pow_pos y
  have h2 : 2 ^ (y + 1) * k + 2 ^ y - 1 = 2 ^ (y + 1) * k + (2 ^ y - 1) := by omega
  rw [h2]
  apply Nat.eq_of_testBit_eq
  intro j
  have h3 : (2 ^ (y + 1) * k).testBit j = (2 ^ (y + 1) * k + 0).testBit j := rfl
  rw [Nat.testBit_and, Nat.testBit_two_pow_mul_add k h1, Nat.testBit_two_pow_mul_add k (show 2 ^ y - 1 < 2 ^ (y + 1) by omega), h3, Nat.testBit_two_pow_mul_add k (Nat.two_pow_pos (y + 1))]
  split
  · rename_i h
    rw [Nat.testBit_two_pow, Nat.testBit_two_pow_sub_one, Nat.zero_testBit]
    by_cases e : y = j
    · subst e
      simp
    · simp [e]
  · rw [Bool.and_self]
theorem low_bit (y k : Nat) : (2 ^ (y + 1) * k + 2 ^ y) - ((2 ^ (y + 1) * k + 2 ^ y) &&& (2 ^ (y + 1) * k + 2 ^ y - 1)) = 2 ^ y := by
  rw [low_and, Nat.add_sub_cancel_left]
theorem and_low (y k : Nat) : (2 ^ (y + 1) * k + 2 ^ y) &&& 2 ^ y = 2 ^ y := by
  have h1 : 2 ^ y < 2 ^ (y + 1) := Nat.pow_lt_pow_right (by omega) (Nat.lt_succ_self y)
  apply Nat.eq_of_testBit_eq
  intro j
  rw [Nat.testBit_and, Nat.testBit_two_pow_mul_add k h1, Nat.testBit_two_pow]
  by_cases e : y = j
  · subst e
    simp
  · simp [e]
theorem or_low (y k : Nat) : (2 ^ (y + 1) * k + 2 ^ y) ||| 2 ^ y = 2 ^ (y + 1) * k + 2 ^ y := by
  rw [← or_split, Nat.or_assoc, Nat.or_comm _ (2 ^ y), ← Nat.or_assoc, Nat.or_self]
theorem intBits_pow (y : Nat) : Builtin.Int.intBits (((2 ^ y : Nat) : Int)) = y + 1 := by
  have h0 : 0 < 2 ^ y := Nat.two_pow_pos y
  unfold Builtin.Int.intBits
  have e : ((((2 ^ y : Nat) : Int)) == 0) = false := by
    rw [beq_eq_false_iff_ne]
    omega
  rw [e]
  show (((2 ^ y : Nat) : Int)).natAbs.log2 + 1 = y + 1
  rw [Int.natAbs_natCast, Nat.log2_two_pow]
/-! ### masks -/
def maskN (l : List Int) : Nat := l.foldl (fun m y => m ||| 2 ^ y.toNat) 0
theorem mask_acc (l : List Int) : ∀ m : Nat, l.foldl (fun m y => m ||| 2 ^ y.toNat) m = m ||| maskN l := by
  induction l with
  | nil =>
    intro m
    exact (Nat.or_zero m).symm
  | cons y l ih =>
    intro m
    unfold maskN
    rw [List.foldl_cons, List.foldl_cons, ih, ih, Nat.zero_or, Nat.or_assoc]
theorem mask_cons (y : Int) (l : List Int) : maskN (y :: l) = 2 ^ y.toNat ||| maskN l := by
  unfold maskN
  rw [List.foldl_cons, mask_acc, Nat.zero_or]
  rfl
theorem mask_snoc (y : Int) (l : List Int) : maskN (l ++ [y]) = maskN l ||| 2 ^ y.toNat := by
  unfold maskN
  rw [List.foldl_append]
  rfl
theorem mask_mul : ∀ (l : List Int) (y : Nat), (∀ z ∈ l, y < z.toNat) → ∃ k, maskN l = 2 ^ (y + 1) * k
  | [], y, _ => ⟨0, rfl⟩
  | z :: l, y, h => by
    obtain ⟨k, hk⟩ := mask_mul l y fun w hw => h w (List.mem_cons_of_mem _ hw)
    have hz := h z List.mem_cons_self
    have e : 2 ^ z.toNat = 2 ^ (y + 1) * 2 ^ (z.toNat - (y + 1)) := by
      rw [← Nat.pow_add]
      congr 1
      omega
    refine ⟨2 ^ (z.toNat - (y + 1)) ||| k, ?_⟩
    rw [mask_cons, hk, e]
    apply Nat.eq_of_testBit_eq
    intro j
    rw [Nat.testBit_or, Nat.testBit_two_pow_mul, Nat.testBit_two_pow_mul, Nat.testBit_two_pow_mul, Nat.testBit_or]
    cases decide (j ≥ y + 1) <;> simp
/-- the lowest of an ascending list -/
theorem mask_low {y : Int} {l : List Int} (h0 : 0 ≤ y) (h : ∀ z ∈ l, y < z) : ∃ k, maskN l = 2 ^ (y.toNat + 1) * k ∧ maskN (y :: l) = 2 ^ (y.toNat + 1) * k + 2 ^ y.toNat := by
  obtain ⟨k, hk⟩ := mask_mul l y.toNat fun z hz => by
    have := h z hz
    omega
  exact ⟨k, hk, by rw [mask_cons, hk, or_split]⟩
end DL
/-! k15: what the defs promise. -/
namespace K15
open PySem PySem.Spec PyProof.Rows L2 DL
variable [B : Obs]
abbrev SpK := PySem.W.Frag → SpD
abbrev SpKX := PySem.W.Frag → SpX
def NumsAt (M : Md) (d : D) (ns : List Int) : Prop := seqA M d = some (iL ns)
def orN (o : Option D) (d : D) : D := match o with
  | some r => r
  | none => d
/-! ### words -/
def kindsL : List Str := ["plain", "turned", "counted", "all", "full"]
def dirs6 : List Str := ["a", "~a", "b", "~b", "c", "~c"]
def dirs (k : Str) : List Str := if k = "turned" ∨ k = "full" then dirs6 else ["a", "b", "c"]
def sp_is_kind : SpK := fun K ds M Q X => ∃ (w : Str), ds = [.str w] ∧ w ∈ kindsL ∧ Q (.bl true) M
def sp_directions_of : SpK := fun K ds M Q X => ∃ (w : Str), ds = [.str w] ∧ w ∈ kindsL ∧ Q (.tup ((dirs w).map .str)) M
def sp_check_kind : SpK := fun K ds M Q X => ∃ (w : Str), ds = [.str w] ∧ w ∈ kindsL ∧ Q .non M
/-! ### frames -/
abbrev Prs := List (Int × Int)
structure WfP (n : Int) (ps : Prs) : Prop where
  srt : ps.Pairwise ltI
  rg : ∀ p ∈ ps, (0 ≤ p.1 ∧ p.1 < n) ∧ (0 ≤ p.2 ∧ p.2 < n)
  sz : ps.length ≤ 1000
structure Fr where
  n : Int
  a : Prs
  b : Prs
  c : Prs
structure WfF (F : Fr) : Prop where
  lo : 1 ≤ F.n
  hi : F.n ≤ 130
  a : WfP F.n F.a
  b : WfP F.n F.b
  c : WfP F.n F.c
def forthL (ps : Prs) (x : Int) : List Int := (ps.filter fun p => decide (p.1 = x)).map (·.2)
def backL (ps : Prs) (y : Int) : List Int := (ps.filter fun p => decide (p.2 = y)).map (·.1)
def leadsL (F : Fr) (w : Str) (x : Int) : List Int := if w = "a" then forthL F.a x else if w = "~a" then backL F.a x else if w = "b" then forthL F.b x else if w = "~b" then backL F.b x else if w = "c" then forthL F.c x else backL F.c x
def maskD (l : List Int) : D := .int (maskN l : Nat)
def mT (F : Fr) (w : Str) : D := .tup ((rgI F.n).map fun x => maskD (leadsL F w x))
def fullM (F : Fr) : Int := 2 ^ F.n.toNat - 1
def stepsDic (F : Fr) : D := .dic [.inr "a", .inr "~a", .inr "b", .inr "~b", .inr "c", .inr "~c", .inr "all"] [mT F "a", mT F "~a", mT F "b", mT F "~b", mT F "c", mT F "~c", .tup (List.replicate F.n.toNat (.int (fullM F)))]
abbrev CF (K : PySem.W.Frag) : Addr := He.ga K "Frame"
def nsF : List Str := ["size", "full_mask", "_steps", "text"]
def dsF (F : Fr) (t : Str) : List D := [.int F.n, .int (fullM F), stepsDic F, .str t]
def frameD (K : PySem.W.Frag) (F : Fr) (t : Str) : D := .ins (CF K) nsF (dsF F t)
def prD (ps : Prs) : D := .lst (ps.map pD)
def waysD3 (F : Fr) : D := .lst [prD F.a, prD F.b, prD F.c]
def worldD (F : Fr) : D := .tup [.int F.n, waysD3 F]
def Asc (l : List Int) : Prop := l.Pairwise (· < ·)
def sp_Frame_mask_to : SpK := fun K ds M Q X => ∃ (F : Fr) (t w : Str) (x : Int), ds = [frameD K F t, .str w, .int x] ∧ w ∈ dirs6 ∧ 0 ≤ x ∧ x < F.n ∧ Q (maskD (leadsL F w x)) M
def sp_bits_of : SpK := fun K ds M Q X => ∃ (l : List Int), ds = [maskD l] ∧ Asc l ∧ (∀ y ∈ l, 0 ≤ y ∧ y < 1000) ∧ l.length ≤ 1000 ∧ Q (.tup (iL l)) M
def stepsD (F : Fr) (k : Str) : D := .lst ((rgI F.n).map fun x => .lst ((dirs k).map fun w => .tup (iL (leadsL F w x))))
def sp_steps_of_led : SpK := fun K ds M Q X => ∃ (F : Fr) (t k : Str), ds = [frameD K F t, .str k] ∧ WfF F ∧ k ∈ kindsL ∧ Q (stepsD F k) M
def isMany (k : Str) : Prop := k = "counted" ∨ k = "full"
instance (k : Str) : Decidable (isMany k) := by unfold isMany; infer_instance
def faultF (f : List Int) (w : Str) (x : Int) (A Bl : List Int) : Option D := A.findSome? fun y => if gi f y ∈ Bl then none else some (.tup [.str "forth", .str w, .int x, .int y])
def faultB (f : List Int) (k w : Str) (x : Int) (A Bl : List Int) : Option D := Bl.findSome? fun v => if (A.map (gi f)).count v = 0 then some (.tup [.str "back", .str w, .int x, .int v]) else if 1 < (A.map (gi f)).count v ∧ isMany k then some (.tup [.str "many", .str w, .int x, .int v]) else none
def faultW (f : List Int) (k w : Str) (x : Int) (A Bl : List Int) : Option D := (faultF f w x A Bl).or (faultB f k w x A Bl)
def faultA (f : List Int) (k : Str) (x : Int) (A Bl : Str → List Int) : Option D := (dirs k).findSome? fun w => faultW f k w x (A w) (Bl w)
def sp__fault_at : SpK := fun K ds M Q X => ∃ (x : Int) (A Bl : Str → List Int) (di : D) (f : List Int) (k : Str), ds = [.int x, .lst ((dirs k).map fun w => .tup (iL (A w))), .lst ((dirs k).map fun w => .tup (iL (Bl w))), di, .str k] ∧ k ∈ kindsL ∧ NumsAt M di f ∧ (∀ w, ∀ y ∈ A w, 0 ≤ y ∧ y < f.length) ∧ (∀ w, (A w).length ≤ 1000) ∧ Q (orN (faultA f k x A Bl) .non) M
def badAt (f : List Int) (n g : Int) : Option Int := if (f.length : Int) ≠ n then some (f.length : Int) else f.zipIdx.findSome? fun p => if p.1 < 0 ∨ g ≤ p.1 then some ((p.2 : Nat) : Int) else none
/-- a list, or a tuple made by tuple(..) -/
structure ImgAt (M : Md) (d : D) (f : List Int) : Prop where
  n : NumsAt M d f
  ok : (∃ xs, seqL M d = some xs) ∨ ∃ a xs, d = .ref a ∧ M a = some (.tux xs)
/-- a list -/
structure ListAt (M : Md) (d : D) (f : List Int) : Prop where
  l : seqL M d = some (iL f)
structure MapOk (f : List Int) (n g : Int) : Prop where
  len : (f.length : Int) = n
  rg : ∀ y ∈ f, 0 ≤ y ∧ y < g
def sp_check_map : SpK := fun K ds M Q X => ∃ (di : D) (f : List Int) (n g : Int), ds = [di, .int n, .int g] ∧ NumsAt M di f ∧ f.length ≤ 1000 ∧ (match badAt f n g with
  | some i => X (He.ga K "BadMap") [("at", .int i)] M
  | none => Q .non M)
def missF (f : List Int) (k : Str) (g : Int) : Option D := if k = "all" ∨ k = "full" then (rgI g).findSome? fun v => if v ∈ f then none else some (.tup [.str "missed", .str "all", .int v, .int v]) else none
def twiceF (f : List Int) (k : Str) (n : Int) : Option D := if k = "full" then (rgI n).findSome? fun x => if ((f.idxOf (gi f x) : Nat) : Int) < x then some (.tup [.str "twice", .str "all", .int (f.idxOf (gi f x) : Nat), .int x]) else none else none
def placeF (F G : Fr) (f : List Int) (k : Str) : Option D := (rgI F.n).findSome? fun x => faultA f k x (fun w => leadsL F w x) (fun w => leadsL G w (gi f x))
def mapF (F G : Fr) (f : List Int) (k : Str) : Option D := (placeF F G f k).or ((missF f k G.n).or (twiceF f k F.n))
def sp_map_fault : SpK := fun K ds M Q X => ∃ (F G : Fr) (t u : Str) (di : D) (f : List Int) (k : Str), ds = [frameD K F t, frameD K G u, di, .str k] ∧ WfF F ∧ WfF G ∧ k ∈ kindsL ∧ ImgAt M di f ∧ MapOk f F.n G.n ∧ Q (orN (mapF F G f k) .non) M
def sp_led_fault : SpK := fun K ds M Q X => ∃ (F G : Fr) (t u : Str) (di : D) (f : List Int) (k : Str), ds = [frameD K F t, frameD K G u, di, .str k] ∧ WfF F ∧ WfF G ∧ k ∈ kindsL ∧ ImgAt M di f ∧ f.length ≤ 1000 ∧ (match badAt f F.n G.n with
  | some i => X (He.ga K "BadMap") [("at", .int i)] M
  | none => Q (orN (mapF F G f k) .non) M)
def sp_is_led : SpK := fun K ds M Q X => ∃ (F G : Fr) (t u : Str) (di : D) (f : List Int) (k : Str), ds = [frameD K F t, frameD K G u, di, .str k] ∧ WfF F ∧ WfF G ∧ k ∈ kindsL ∧ ImgAt M di f ∧ f.length ≤ 1000 ∧ (match badAt f F.n G.n with
  | some i => X (He.ga K "BadMap") [("at", .int i)] M
  | none => Q (.bl (mapF F G f k).isNone) M)
def sp_steps_of_frames : SpK := fun K ds M Q X => ∃ (F : Fr), ds = [.int F.n, prD F.a, prD F.b, prD F.c] ∧ WfF F ∧ Q (stepsDic F) M
def pairsL (n : Int) (L : Int → List Int) : Prs := (rgI n).flatMap fun x => (L x).map fun y => (x, y)
def sp__pairs_of : SpK := fun K ds M Q X => ∃ (n : Int) (L : Int → List Int), ds = [.tup ((rgI n).map fun x => maskD (L x))] ∧ 0 ≤ n ∧ n ≤ 130 ∧ (∀ x, Asc (L x) ∧ (∀ y ∈ L x, 0 ≤ y ∧ y < 130) ∧ (L x).length ≤ 1000) ∧ Q (.tup ((pairsL n L).map pD)) M
def sp__text_of : SpK := fun K ds M Q X => ∃ (F : Fr), ds = [.int F.n, stepsDic F] ∧ WfF F ∧ ∀ s : Str, Q (.str s) M
def sp_Frame___init__ : SpK := fun K ds M Q X => ∃ (s : Addr) (F : Fr), ds = [.ref s, .int F.n, prD F.a, prD F.b, prD F.c] ∧ M s = some (.ins (CF K) []) ∧ WfF F ∧ ∀ t : Str, Q .non (put M s (.ins (CF K) (nsF.zip (dsF F t))))
/-! ### the law's state of draws -/
structure StOk (M : Md) (st cs : Addr) : Prop where
  ne : st ≠ cs
  ex : ∃ (ns : List Int) (i c : Int), M st = some (.lst [.ref cs, .int i, .int c]) ∧ M cs = some (.lst (iL ns)) ∧ 0 ≤ i
/-- all but the state of draws is as it was -/
def Off (st cs : Addr) (M N : Md) : Prop := ∀ a, a ≠ st → a ≠ cs → N a = M a
def sp__law_state : SpK := fun K ds M Q X => ∃ (ns : List Int), ds = [.scr ns] ∧ ns.length ≤ 63 ∧ ∀ (st cs : Addr) (N : Md), StOk N st cs → Q (.ref st) N
def sp__law_take : SpK := fun K ds M Q X => ∃ (st cs : Addr) (many : Int), ds = [.ref st, .int many] ∧ StOk M st cs ∧ 0 < many ∧ many < 1000000 ∧
  ∀ (r : Int) (N : Md), 0 ≤ r → r < many → Off st cs M N → StOk N st cs → Q (.int r) N
def sp__law_way : SpK := fun K ds M Q X => ∃ (st cs : Addr) (n : Int), ds = [.ref st, .int n] ∧ StOk M st cs ∧ 1 ≤ n ∧ n ≤ 4 ∧ ∀ (ps : Prs) (N : Md), WfP n ps → Off st cs M N → StOk N st cs → Q (prD ps) N
/-- what led_fault may tell, what an error's field may hold -/
def toldL : List Str := ["forth", "back", "many", "missed", "twice", "a", "~a", "b", "~b", "c", "~c", "all"]
def okS (d : D) : Prop := d = .non ∨ (∃ b, d = .bl b) ∨ (∃ i : Int, d = .int i ∧ i.natAbs ≤ 1000000) ∨ ∃ (w v : Str) (i j : Int), d = .tup [.str w, .str v, .int i, .int j] ∧ w ∈ toldL ∧ v ∈ toldL ∧ i.natAbs ≤ 1000000 ∧ j.natAbs ≤ 1000000
def sp__law_same : SpK := fun K ds M Q X => ∃ (d : D), ds = [d, d] ∧ okS d ∧ Q (.bl true) M
def spx__law_same : SpKX := fun K a cls d => sp__law_same K
def tabV (F : Fr) (w : Str) : D := .lst ((rgI F.n).map fun x => .lst (iL (leadsL F w x)))
def tabD (F : Fr) : D := .dic [.inr "all", .inr "a", .inr "~a", .inr "b", .inr "~b", .inr "c", .inr "~c"] [.lst ((rgI F.n).map fun _ => .lst (iL (rgI F.n))), tabV F "a", tabV F "~a", tabV F "b", tabV F "~b", tabV F "c", tabV F "~c"]
def sp__law_table : SpK := fun K ds M Q X => ∃ (F : Fr), ds = [.int F.n, waysD3 F] ∧ WfF F ∧ Q (tabD F) M
def sp__law_words : SpK := fun K ds M Q X => ∃ (k : Str), ds = [.str k] ∧ k ∈ kindsL ∧ Q (.lst ((dirs k).map .str)) M
def sp__law_fault_at : SpK := fun K ds M Q X => ∃ (F G : Fr) (df : D) (f : List Int) (k w : Str) (x : Int), ds = [tabD F, tabD G, df, .str k, .str w, .int x] ∧ WfF F ∧ WfF G ∧ NumsAt M df f ∧ MapOk f F.n G.n ∧ k ∈ kindsL ∧ w ∈ dirs6 ∧ 0 ≤ x ∧ x < F.n ∧ Q (orN (faultW f k w x (leadsL F w x) (leadsL G w (gi f x))) .non) M
def sp__law_fault : SpK := fun K ds M Q X => ∃ (F G : Fr) (df : D) (f : List Int) (k : Str), ds = [tabD F, tabD G, df, .str k] ∧ WfF F ∧ WfF G ∧ ListAt M df f ∧ MapOk f F.n G.n ∧ k ∈ kindsL ∧ Q (orN (mapF F G f k) .non) M
def Onto (f : List Int) (g : Int) : Prop := ∀ v, 0 ≤ v → v < g → v ∈ f
def sp__law_copies : SpK := fun K ds M Q X => ∃ (st cs : Addr) (g : Int) (a b c : Prs) (f : List Int) (m : Int), ds = [.ref st, .lst [prD a, prD b, prD c], .lst (iL f), .int m] ∧ StOk M st cs ∧ WfP g a ∧ WfP g b ∧ WfP g c ∧ g ≤ 4 ∧ f.length ≤ 4 ∧ Onto f g ∧
  ∀ (a' b' c' : Prs) (N : Md), WfP f.length a' → WfP f.length b' → WfP f.length c' → Off st cs M N → StOk N st cs → Q (.lst [prD a', prD b', prD c']) N
def sp__law_over : SpK := fun K ds M Q X => ∃ (st cs : Addr) (g : Int) (a b c : Prs), ds = [.ref st, .int g, .lst [prD a, prD b, prD c]] ∧ StOk M st cs ∧ 1 ≤ g ∧ g ≤ 4 ∧ WfP g a ∧ WfP g b ∧ WfP g c ∧
  ∀ (S : Fr) (f : List Int) (N : Md), WfF S → S.n ≤ 4 → MapOk f S.n g → Off st cs M N → StOk N st cs → Q (.tup [.lst (iL f), worldD S]) N
def sp__law_frame : SpK := fun K ds M Q X => ∃ (F : Fr), ds = [worldD F] ∧ WfF F ∧ ∀ t : Str, Q (frameD K F t) M
def sp__law_asked : SpK := fun K ds M Q X => ∃ (F G : Fr) (df : D) (f : List Int), ds = [worldD F, worldD G, df] ∧ WfF F ∧ WfF G ∧ ListAt M df f ∧ MapOk f F.n G.n ∧ Q (.bl true) M
def spx__law_told : SpKX := fun K a cls d ds M Q X => ∃ (dd : Addr) (i : Int), ds = [.exc a (He.ga K "BadMap") dd ["at"] [.int i], .int i] ∧ cls = .ref (He.ga K "BadMap") ∧ d = some dd ∧ i.natAbs ≤ 1000000 ∧ Q (.bl true) M
def sp__law_refused : SpK := fun K ds M Q X => ∃ (F G : Fr) (t u : Str) (f : List Int) (k : Str) (i : Int), ds = [frameD K F t, frameD K G u, .lst (iL f), .str k, .int i] ∧ WfF F ∧ WfF G ∧ k ∈ kindsL ∧ f.length ≤ 1000 ∧ badAt f F.n G.n = some i ∧ Q (.bl true) M
def sp__law_wrong_maps : SpK := fun K ds M Q X => ∃ (st cs : Addr) (F G : Fr) (f : List Int), ds = [.ref st, worldD F, worldD G, .lst (iL f)] ∧ StOk M st cs ∧ WfF F ∧ WfF G ∧ MapOk f F.n G.n ∧ ∀ N : Md, Off st cs M N → StOk N st cs → Q (.bl true) N
def sp__law_told_pairs : SpK := fun K ds M Q X => ∃ (u : Unit), ds = [] ∧ Q (.bl true) M
def sp__law_rings : SpK := fun K ds M Q X => ∃ (st cs : Addr), ds = [.ref st] ∧ StOk M st cs ∧ ∀ N : Md, Off st cs M N → StOk N st cs → Q (.bl true) N
def sp__law_renumbered : SpK := fun K ds M Q X => ∃ (st cs : Addr) (S : Fr), ds = [.ref st, worldD S] ∧ StOk M st cs ∧ WfF S ∧ S.n ≤ 4 ∧ ∀ (L : Fr) (f : List Int) (N : Md), WfF L → L.n = S.n → MapOk f S.n L.n → Off st cs M N → StOk N st cs → Q (.tup [.lst (iL f), worldD L]) N
/-- as DL.spLaw 63 -/
def sp_law : SpK := fun K ds M Q X => ∃ (ns : List Int), ds = [.scr ns] ∧ ns.length ≤ 63 ∧ (∀ a, M a = none) ∧ ∀ N, Q (.bl true) N
end K15
/-! Readings of the defs, printed by gen.py. -/
namespace K15
open PySem PySem.Spec PyProof.Rows L2 DL
variable [B : Obs]
def N_is_kind : List Str := ["word"]
def t_is_kind (K : PySem.W.Frag) : TSd := tRt (tO (rInD false) (tV 0) (tK (.tup [.str "plain", .str "turned", .str "counted", .str "all", .str "full"])))
def N_directions_of : List Str := ["kind"]
def t_directions_of (K : PySem.W.Frag) : TSd := tSq (tIf' (tNo (tTr (tFn (sp_is_kind K) [] (tCo (tV 0) tN0)))) tNv tNx) (tSq (tIf' (tTs (tO (rInD false) (tV 0) (tTu (tCo (tK (.str "turned")) (tCo (tK (.str "full")) tN0))))) (tRt (tSlc (tK (.tup [.str "a", .str "~a", .str "b", .str "~b", .str "c", .str "~c", .str "all"])) tP0 (tP1 (tK (.int 6))))) tNx) (tRt (tK (.tup [.str "a", .str "b", .str "c"]))))
def N_check_kind : List Str := ["kind"]
def t_check_kind (K : PySem.W.Frag) : TSd := tIf' (tNo (tTr (tFn (sp_is_kind K) [] (tCo (tV 0) tN0)))) tNv tNx
def N_bits_of : List Str := ["mask", "places", "left", "low"]
def t_bits_of (K : PySem.W.Frag) : TSd := tSq (tSe (tLsM tN0) 1) (tSq (tSe (tV 0) 2) (tSq (tWh (tTs (tO rNeD (tV 2) (tK (.int 0)))) (tSq (tSe (tO rAndD (tV 2) (tU rNegD (tV 2))) 3) (tSq (tEx (tMe isLs mAppD (tV 1) (tCo (tO rSubD (tBt (tV 3)) (tK (.int 1))) tN0))) (tSe (tO rXorD (tV 2) (tV 3)) 2)))) (tRt (tCl tupleD (tCo (tV 1) tN0)))))
def N_Frame_mask_to : List Str := ["self", "direction", "place"]
def t_Frame_mask_to (K : PySem.W.Frag) : TSd := tRt (tO rIxD (tDg (tFd K "_steps" (tV 0)) (tV 1)) (tV 2))
def N_steps_of_led : List Str := ["frame", "kind", "words", "word", "place"]
def t_steps_of_led (K : PySem.W.Frag) : TSd := tSq (tSe (tFn (sp_directions_of K) [] (tCo (tV 1) tN0)) 2) (tRt (tLcF (.one 4) (tIR1 (tCo (tFd K "size" (tV 0)) tN0)) tYs (tLcF (.one 3) (tIS (tV 2)) tYs (tFn (sp_bits_of K) [] (tCo (tMh (He.ga K "Frame") "mask_to" (sp_Frame_mask_to K) [] (tV 0) (tCo (tV 3) (tCo (tV 4) tN0))) tN0)) [3]) [4]))
def N__fault_at : List Str := ["place", "ahead", "allowed", "images", "kind", "at", "word", "reached", "goal", "value", "many"]
def t__fault_at (K : PySem.W.Frag) : TSd := tSq (tFo (tIEn (tCo (tFn (sp_directions_of K) [] (tCo (tV 4) tN0)) tN0)) (gT 2 (gsc (gN 5) (gsc (gN 6) gs0))) (tSq (tSe (tLcF (.one 8) (tIS (tO rIxD (tV 1) (tV 5))) tYs (tO rIxD (tV 3) (tV 8)) [8]) 7) (tSq (tFo (tIS (tO rIxD (tV 1) (tV 5))) (gN 8) (tIf' (tTs (tO (rInD true) (tO rIxD (tV 3) (tV 8)) (tO rIxD (tV 2) (tV 5)))) (tRt (tTu (tCo (tK (.str "forth")) (tCo (tV 6) (tCo (tV 0) (tCo (tV 8) tN0)))))) tNx)) (tFo (tIS (tO rIxD (tV 2) (tV 5))) (gN 9) (tSq (tSe (tMe isLs mCntD (tV 7) (tCo (tV 9) tN0)) 10) (tSq (tIf' (tTs (tO rEqD (tV 10) (tK (.int 0)))) (tRt (tTu (tCo (tK (.str "back")) (tCo (tV 6) (tCo (tV 0) (tCo (tV 9) tN0)))))) tNx) (tIf' (tAn (tTs (tO rGtD (tV 10) (tK (.int 1)))) (tTs (tO (rInD false) (tV 4) (tTu (tCo (tK (.str "counted")) (tCo (tK (.str "full")) tN0)))))) (tRt (tTu (tCo (tK (.str "many")) (tCo (tV 6) (tCo (tV 0) (tCo (tV 9) tN0)))))) tNx))))))) (tRt (tK .non))
def N_check_map : List Str := ["images", "size", "goals", "at", "image"]
def t_check_map (K : PySem.W.Frag) : TSd := tSq (tIf' (tTs (tO rNeD (tCl lenD (tCo (tV 0) tN0)) (tV 1))) (DX.tRs (He.ga K "BadMap") "at" (tCo (tCl lenD (tCo (tV 0) tN0)) tN0)) tNx) (tFo (tIEn (tCo (tV 0) tN0)) (gT 2 (gsc (gN 3) (gsc (gN 4) gs0))) (tIf' (tOr' (tTs (tO rLtD (tV 4) (tK (.int 0)))) (tTs (tO rGeD (tV 4) (tV 2)))) (DX.tRs (He.ga K "BadMap") "at" (tCo (tV 3) tN0)) tNx))
def N_map_fault : List Str := ["first", "second", "images", "kind", "froms", "tos", "place", "fault", "value", "elder"]
def t_map_fault (K : PySem.W.Frag) : TSd := tSq (tSe (tFn (sp_steps_of_led K) [] (tCo (tV 0) (tCo (tV 3) tN0))) 4) (tSq (tSe (tFn (sp_steps_of_led K) [] (tCo (tV 1) (tCo (tV 3) tN0))) 5) (tSq (tFo (tIR1 (tCo (tFd K "size" (tV 0)) tN0)) (gN 6) (tSq (tSe (tFn (sp__fault_at K) [] (tCo (tV 6) (tCo (tO rIxD (tV 4) (tV 6)) (tCo (tO rIxD (tV 5) (tO rIxD (tV 2) (tV 6))) (tCo (tV 2) (tCo (tV 3) tN0)))))) 7) (tIf' (tTs (tO rIsnD (tV 7) (tK .non))) (tRt (tV 7)) tNx))) (tSq (tIf' (tTs (tO (rInD false) (tV 3) (tTu (tCo (tK (.str "all")) (tCo (tK (.str "full")) tN0))))) (tFo (tIR1 (tCo (tFd K "size" (tV 1)) tN0)) (gN 8) (tIf' (tTs (tO (rInD true) (tV 8) (tV 2))) (tRt (tTu (tCo (tK (.str "missed")) (tCo (tK (.str "all")) (tCo (tV 8) (tCo (tV 8) tN0)))))) tNx)) tNx) (tSq (tIf' (tTs (tO rEqD (tV 3) (tK (.str "full")))) (tFo (tIR1 (tCo (tFd K "size" (tV 0)) tN0)) (gN 6) (tSq (tSe (tIdx (tV 2) (tO rIxD (tV 2) (tV 6))) 9) (tIf' (tTs (tO rLtD (tV 9) (tV 6))) (tRt (tTu (tCo (tK (.str "twice")) (tCo (tK (.str "all")) (tCo (tV 9) (tCo (tV 6) tN0)))))) tNx))) tNx) (tRt (tK .non))))))
def N_led_fault : List Str := ["first", "second", "images", "kind"]
def t_led_fault (K : PySem.W.Frag) : TSd := tSq (tEx (tFn (sp_check_kind K) [] (tCo (tV 3) tN0))) (tSq (tEx (tFn (sp_check_map K) [] (tCo (tV 2) (tCo (tFd K "size" (tV 0)) (tCo (tFd K "size" (tV 1)) tN0))))) (tRt (tFn (sp_map_fault K) [] (tCo (tV 0) (tCo (tV 1) (tCo (tV 2) (tCo (tV 3) tN0)))))))
def N_is_led : List Str := ["first", "second", "images", "kind"]
def t_is_led (K : PySem.W.Frag) : TSd := tSq (tEx (tFn (sp_check_kind K) [] (tCo (tV 3) tN0))) (tSq (tEx (tFn (sp_check_map K) [] (tCo (tV 2) (tCo (tFd K "size" (tV 0)) (tCo (tFd K "size" (tV 1)) tN0))))) (tRt (tO rIsD (tFn (sp_map_fault K) [] (tCo (tV 0) (tCo (tV 1) (tCo (tV 2) (tCo (tV 3) tN0))))) (tK .non))))
def N_steps_of_frames : List Str := ["size", "a", "b", "c", "steps", "way", "pairs", "forth", "back", "x", "y"]
def t_steps_of_frames (K : PySem.W.Frag) : TSd := tSq (tSe tDi0 4) (tSq (tFo (tIZp (tCo (tK (.tup [.str "a", .str "b", .str "c"])) (tCo (tTu (tCo (tV 1) (tCo (tV 2) (tCo (tV 3) tN0)))) tN0))) (gT 2 (gsc (gN 5) (gsc (gN 6) gs0))) (tSq (tSe (tO rMulM (tLs (tCo (tK (.int 0)) tN0)) (tV 0)) 7) (tSq (tSe (tO rMulM (tLs (tCo (tK (.int 0)) tN0)) (tV 0)) 8) (tSq (tFo (tIS (tV 6)) (gT 2 (gsc (gN 9) (gsc (gN 10) gs0))) (tSq (tAs (tO rOrD (tO rIxD (tV 7) (tV 9)) (tO rShlD (tK (.int 1)) (tV 10))) (gS (tV 7) (tV 9))) (tAs (tO rOrD (tO rIxD (tV 8) (tV 10)) (tO rShlD (tK (.int 1)) (tV 9))) (gS (tV 8) (tV 10))))) (tSq (tAs (tCl tupleD (tCo (tV 7) tN0)) (gDs (tV 4) (tV 5))) (tAs (tCl tupleD (tCo (tV 8) tN0)) (gDs (tV 4) (tO rAddD (tK (.str "~")) (tV 5))))))))) (tSq (tAs (tO rMulT (tTu (tCo (tO rSubD (tO rShlD (tK (.int 1)) (tV 0)) (tK (.int 1))) tN0)) (tV 0)) (gDs (tV 4) (tK (.str "all")))) (tRt (tV 4))))
def N__pairs_of : List Str := ["masks", "x", "mask", "y"]
def t__pairs_of (K : PySem.W.Frag) : TSd := tRt (tCl tupleD (tCo (tLc2F (.many [1, 2]) (tIEn (tCo (tV 0) tN0)) tYs (.one 3) (tIS (tFn (sp_bits_of K) [] (tCo (tV 2) tN0))) tYs (tTu (tCo (tV 1) (tCo (tV 3) tN0))) [1, 2, 3] [3]) tN0))
def N__text_of : List Str := ["size", "steps", "rows", "way", "pairs", "x", "y"]
def t__text_of (K : PySem.W.Frag) : TSd := tSq (tSe (tLsM (tCo (tJd [tK (.str "places "), tFm (tV 0)]) tN0)) 2) (tSq (tFo (tIS (tK (.tup [.str "a", .str "b", .str "c"]))) (gN 3) (tSq (tSe (tFn (sp__pairs_of K) [] (tCo (tDg (tV 1) (tV 3)) tN0)) 4) (tIf' (tTs (tO rGtD (tCl lenD (tCo (tV 4) tN0)) (tK (.int 0)))) (tEx (tMe isLs mAppD (tV 2) (tCo (tO rAddD (tO rAddD (tV 3) (tK (.str ":"))) (tJn (tK (.str "")) (tLcF (.many [5, 6]) (tIS (tV 4)) tYs (tJd [tK (.str " "), tFm (tV 5), tK (.str ">"), tFm (tV 6)]) [5, 6]))) tN0))) tNx))) (tRt (tJn (tK (.str "\n")) (tV 2))))
def N_Frame___init__ : List Str := ["self", "size", "a", "b", "c", "pairs", "pair", "place"]
def t_Frame___init__ (K : PySem.W.Frag) : TSd := tSq (tIf' (tOr' (tTs (tO rLtD (tV 1) (tK (.int 1)))) (tTs (tO rGtD (tV 1) (tK (.int 130))))) tNv tNx) (tSq (tFo (tIS (tTu (tCo (tV 2) (tCo (tV 3) (tCo (tV 4) tN0))))) (gN 5) (tFo (tIS (tV 5)) (gN 6) (tFo (tIS (tV 6)) (gN 7) (tIf' (tOr' (tTs (tO rLtD (tV 7) (tK (.int 0)))) (tTs (tO rGeD (tV 7) (tV 1)))) tNv tNx)))) (tSq (tSf K "size" (tV 0) (tV 1)) (tSq (tSf K "full_mask" (tV 0) (tO rSubD (tO rShlD (tK (.int 1)) (tV 1)) (tK (.int 1)))) (tSq (tSf K "_steps" (tV 0) (tFn (sp_steps_of_frames K) [] (tCo (tV 1) (tCo (tV 2) (tCo (tV 3) (tCo (tV 4) tN0)))))) (tSf K "text" (tV 0) (tFn (sp__text_of K) [] (tCo (tV 1) (tCo (tFd K "_steps" (tV 0)) tN0))))))))
def N__law_state : List Str := ["script", "cell"]
def t__law_state (K : PySem.W.Frag) : TSd := tRt (tLsM (tCo (tLcM (.one 1) (tIS (tSlc (tV 0) tP0 (tP1 (tK (.int 63))))) tYs (tCl absD (tCo (tCl intC (tCo (tV 1) tN0)) tN0)) [1]) (tCo (tK (.int 0)) (tCo (tK (.int 0)) tN0))))
def N__law_take : List Str := ["st", "many", "cell"]
def t__law_take (K : PySem.W.Frag) : TSd := tSq (tAs (tO rAddD (tO rIxD (tV 0) (tK (.int 2))) (tK (.int 1))) (gS (tV 0) (tK (.int 2)))) (tSq (tIf' (tTs (tO rLtD (tV 1) (tK (.int 2)))) (tRt (tK (.int 0))) tNx) (tSq (tIf' (tTs (tO rLtD (tO rIxD (tV 0) (tK (.int 1))) (tCl lenD (tCo (tO rIxD (tV 0) (tK (.int 0))) tN0)))) (tSq (tSe (tO rIxD (tO rIxD (tV 0) (tK (.int 0))) (tO rIxD (tV 0) (tK (.int 1)))) 2) (tSq (tAs (tO rDivD (tV 2) (tV 1)) (gS (tO rIxD (tV 0) (tK (.int 0))) (tO rIxD (tV 0) (tK (.int 1))))) (tSq (tIf' (tTs (tO rLtD (tV 2) (tV 1))) (tAs (tO rAddD (tO rIxD (tV 0) (tK (.int 1))) (tK (.int 1))) (gS (tV 0) (tK (.int 1)))) tNx) (tRt (tO rModD (tCl intC (tCo (tV 2) tN0)) (tV 1)))))) tNx) (tRt (tO rModD (tCl intC (tCo (tO rModD (tCl intC (tCo (tO rMulD (tO rIxD (tV 0) (tK (.int 2))) (tK (.int 48271))) tN0)) (tK (.int 65537))) tN0)) (tV 1)))))
def N__law_way : List Str := ["st", "size", "style", "pairs", "k", "x", "mask", "row", "y"]
def t__law_way (K : PySem.W.Frag) : TSd := tSq (tSe (tFn (sp__law_take K) [] (tCo (tV 0) (tCo (tK (.int 6)) tN0))) 2) (tSq (tSe (tLsM tN0) 3) (tSq (tIf' (tTs (tO rEqD (tV 2) (tK (.int 0)))) (tFo (tIR1 (tCo (tFn (sp__law_take K) [] (tCo (tV 0) (tCo (tO rAddD (tV 1) (tK (.int 3))) tN0))) tN0)) (gN 4) (tSq (tSe (tFn (sp__law_take K) [] (tCo (tV 0) (tCo (tV 1) tN0))) 5) (tEx (tMe isLs mAppD (tV 3) (tCo (tTu (tCo (tV 5) (tCo (tFn (sp__law_take K) [] (tCo (tV 0) (tCo (tV 1) tN0))) tN0))) tN0))))) tNx) (tSq (tFo (tIR1 (tCo (tV 1) tN0)) (gN 5) (tSq (tIf' (tTs (tO rEqD (tV 2) (tK (.int 1)))) (tSq (tSe (tFn (sp__law_take K) [] (tCo (tV 0) (tCo (tO rShlD (tK (.int 1)) (tV 1)) tN0))) 6) (tSq (tSe (tLcF (.one 8) (tIR1 (tCo (tV 1) tN0)) (tTs (tO rEqD (tO rAndD (tO rShrD (tV 6) (tV 8)) (tK (.int 1))) (tK (.int 1)))) (tV 8) [8]) 7) (tSe (tO rAddD (tV 3) (tLcF (.one 8) (tIS (tV 7)) tYs (tTu (tCo (tV 5) (tCo (tV 8) tN0))) [8])) 3))) tNx) (tSq (tIf' (tTs (tO rEqD (tV 2) (tK (.int 2)))) (tEx (tMe isLs mAppD (tV 3) (tCo (tTu (tCo (tV 5) (tCo (tV 5) tN0))) tN0))) tNx) (tSq (tIf' (tTs (tO rEqD (tV 2) (tK (.int 3)))) (tEx (tMe isLs mAppD (tV 3) (tCo (tTu (tCo (tV 5) (tCo (tO rModD (tCl intC (tCo (tO rAddD (tV 5) (tK (.int 1))) tN0)) (tV 1)) tN0))) tN0))) tNx) (tIf' (tTs (tO rEqD (tV 2) (tK (.int 4)))) (tSe (tO rAddD (tV 3) (tLcF (.one 8) (tIR2 (tCo (tO rAddD (tV 5) (tK (.int 1))) (tCo (tV 1) tN0))) tYs (tTu (tCo (tV 5) (tCo (tV 8) tN0))) [8])) 3) tNx))))) (tRt (tCl sortSD (tCo (tV 3) tN0))))))
def N__law_same : List Str := ["told", "due"]
def t__law_same (K : PySem.W.Frag) : TSd := tRt (tAnV (tO rEqD (tCl rpD (tCo (tV 0) tN0)) (tCl rpD (tCo (tV 1) tN0))) (tO rEqD (tV 0) (tV 1)))
def N__law_table : List Str := ["size", "steps", "table", "x", "k", "ahead", "behind", "y"]
def t__law_table (K : PySem.W.Frag) : TSd := tSq (tSe (tDi [(tK (.str "all"), tLcF (.one 3) (tIR1 (tCo (tV 0) tN0)) tYs (tLsRg false (tV 0)) [3])]) 2) (tSq (tFo (tIR1 (tCo (tK (.int 3)) tN0)) (gN 4) (tSq (tSe (tLcM (.one 3) (tIR1 (tCo (tV 0) tN0)) tYs (tLsM tN0) [3]) 5) (tSq (tSe (tLcM (.one 3) (tIR1 (tCo (tV 0) tN0)) tYs (tLsM tN0) [3]) 6) (tSq (tFo (tIS (tO rIxD (tV 1) (tV 4))) (gT 2 (gsc (gN 3) (gsc (gN 7) gs0))) (tSq (tEx (tMe isLs mAppD (tO rIxD (tV 5) (tV 3)) (tCo (tV 7) tN0))) (tEx (tMe isLs mAppD (tO rIxD (tV 6) (tV 7)) (tCo (tV 3) tN0))))) (tSq (tVs (tAs (tV 5) (gDs (tV 2) (tO rIxD (tK (.str "abc")) (tV 4))))) (tVs (tAs (tV 6) (gDs (tV 2) (tO rAddD (tK (.str "~")) (tO rIxD (tK (.str "abc")) (tV 4))))))))))) (tRt (tV 2)))
def N__law_words : List Str := ["kind"]
def t__law_words (K : PySem.W.Frag) : TSd := tSq (tIf' (tTs (tO (rInD false) (tV 0) (tLs (tCo (tK (.str "turned")) (tCo (tK (.str "full")) tN0))))) (tRt (tLs (tCo (tK (.str "a")) (tCo (tK (.str "~a")) (tCo (tK (.str "b")) (tCo (tK (.str "~b")) (tCo (tK (.str "c")) (tCo (tK (.str "~c")) tN0)))))))) tNx) (tRt (tLs (tCo (tK (.str "a")) (tCo (tK (.str "b")) (tCo (tK (.str "c")) tN0)))))
def N__law_fault_at : List Str := ["one", "two", "f", "kind", "e", "x", "y", "v", "met"]
def t__law_fault_at (K : PySem.W.Frag) : TSd := tSq (tFo (tIS (tO rIxD (tDg (tV 0) (tV 4)) (tV 5))) (gN 6) (tIf' (tTs (tO (rInD true) (tO rIxD (tV 2) (tV 6)) (tO rIxD (tDg (tV 1) (tV 4)) (tO rIxD (tV 2) (tV 5))))) (tRt (tTu (tCo (tK (.str "forth")) (tCo (tV 4) (tCo (tV 5) (tCo (tV 6) tN0)))))) tNx)) (tSq (tFo (tIS (tO rIxD (tDg (tV 1) (tV 4)) (tO rIxD (tV 2) (tV 5)))) (gN 7) (tSq (tSe (tLcF (.one 6) (tIS (tO rIxD (tDg (tV 0) (tV 4)) (tV 5))) (tTs (tO rEqD (tO rIxD (tV 2) (tV 6)) (tV 7))) (tV 6) [6]) 8) (tSq (tIf' (tTs (tO rEqD (tV 8) (tLs tN0))) (tRt (tTu (tCo (tK (.str "back")) (tCo (tV 4) (tCo (tV 5) (tCo (tV 7) tN0)))))) tNx) (tIf' (tAn (tTs (tO rGtD (tCl lenD (tCo (tV 8) tN0)) (tK (.int 1)))) (tTs (tO (rInD false) (tV 3) (tLs (tCo (tK (.str "counted")) (tCo (tK (.str "full")) tN0)))))) (tRt (tTu (tCo (tK (.str "many")) (tCo (tV 4) (tCo (tV 5) (tCo (tV 7) tN0)))))) tNx)))) (tRt (tK .non)))
def N__law_fault : List Str := ["one", "two", "f", "kind", "x", "e", "found", "v"]
def t__law_fault (K : PySem.W.Frag) : TSd := tSq (tFo (tIR1 (tCo (tCl lenD (tCo (tV 2) tN0)) tN0)) (gN 4) (tFo (tIS (tFn (sp__law_words K) [] (tCo (tV 3) tN0))) (gN 5) (tSq (tSe (tFn (sp__law_fault_at K) [] (tCo (tV 0) (tCo (tV 1) (tCo (tV 2) (tCo (tV 3) (tCo (tV 5) (tCo (tV 4) tN0))))))) 6) (tIf' (tTs (tO rIsnD (tV 6) (tK .non))) (tRt (tV 6)) tNx)))) (tSq (tFo (tIR1 (tCo (tCl lenD (tCo (tDg (tV 1) (tK (.str "a"))) tN0)) tN0)) (gN 7) (tIf' (tAn (tTs (tO (rInD false) (tV 3) (tLs (tCo (tK (.str "all")) (tCo (tK (.str "full")) tN0))))) (tTs (tO (rInD true) (tV 7) (tV 2)))) (tRt (tTu (tCo (tK (.str "missed")) (tCo (tK (.str "all")) (tCo (tV 7) (tCo (tV 7) tN0)))))) tNx)) (tSq (tFo (tIR1 (tCo (tCl lenD (tCo (tV 2) tN0)) tN0)) (gN 4) (tIf' (tAn (tTs (tO rEqD (tV 3) (tK (.str "full")))) (tTs (tO (rInD false) (tO rIxD (tV 2) (tV 4)) (tSlc (tV 2) tP0 (tP1 (tV 4)))))) (tRt (tTu (tCo (tK (.str "twice")) (tCo (tK (.str "all")) (tCo (tIdx (tV 2) (tO rIxD (tV 2) (tV 4))) (tCo (tV 4) tN0)))))) tNx)) (tRt (tK .non))))
def N__law_copies : List Str := ["st", "steps", "f", "mode", "ways", "row", "pairs", "u", "v", "over", "y", "x", "ends"]
def t__law_copies (K : PySem.W.Frag) : TSd := tSq (tSe (tLsM tN0) 4) (tSq (tFo (tIS (tV 1)) (gN 5) (tSq (tSe (tLs tN0) 6) (tSq (tFo (tIS (tV 5)) (gT 2 (gsc (gN 7) (gsc (gN 8) gs0))) (tSq (tSe (tLcF (.one 10) (tIR1 (tCo (tCl lenD (tCo (tV 2) tN0)) tN0)) (tTs (tO rEqD (tO rIxD (tV 2) (tV 10)) (tV 8))) (tV 10) [10]) 9) (tFo (tIS (tLcF (.one 10) (tIR1 (tCo (tCl lenD (tCo (tV 2) tN0)) tN0)) (tTs (tO rEqD (tO rIxD (tV 2) (tV 10)) (tV 7))) (tV 10) [10])) (gN 11) (tSq (tSe (tV 9) 12) (tSq (tIf' (tTs (tO rEqD (tV 3) (tK (.int 2)))) (tSe (tLs (tCo (tO rIxD (tV 9) (tFn (sp__law_take K) [] (tCo (tV 0) (tCo (tCl lenD (tCo (tV 9) tN0)) tN0)))) tN0)) 12) tNx) (tSe (tO rAddD (tV 6) (tLcF (.one 10) (tIS (tV 12)) tYs (tTu (tCo (tV 11) (tCo (tV 10) tN0))) [10])) 6)))))) (tEx (tMe isLs mAppD (tV 4) (tCo (tCl sortPD (tCo (tV 6) tN0)) tN0)))))) (tRt (tV 4)))
def N__law_over : List Str := ["st", "goals", "steps", "mode", "size", "f", "x", "shift", "ways", "k"]
def t__law_over (K : PySem.W.Frag) : TSd := tSq (tSe (tFn (sp__law_take K) [] (tCo (tV 0) (tCo (tK (.int 3)) tN0))) 3) (tSq (tSe (tO rAddD (tV 1) (tFn (sp__law_take K) [] (tCo (tV 0) (tCo (tO rSubD (tK (.int 5)) (tV 1)) tN0)))) 4) (tSq (tSe (tLsRg true (tV 1)) 5) (tSq (tFo (tIR2 (tCo (tV 1) (tCo (tV 4) tN0))) (gN 6) (tEx (tMe isLs mAppD (tV 5) (tCo (tFn (sp__law_take K) [] (tCo (tV 0) (tCo (tV 1) tN0))) tN0)))) (tSq (tSe (tFn (sp__law_take K) [] (tCo (tV 0) (tCo (tV 4) tN0))) 7) (tSq (tSe (tO rAddD (tSlc (tV 5) (tP1 (tV 7)) tP0) (tSlc (tV 5) tP0 (tP1 (tV 7)))) 5) (tSq (tSe (tFn (sp__law_copies K) [] (tCo (tV 0) (tCo (tV 2) (tCo (tV 5) (tCo (tV 3) tN0))))) 8) (tSq (tIf' (tTs (tO rEqD (tV 3) (tK (.int 0)))) (tSq (tSe (tLcF (.one 9) (tIR1 (tCo (tK (.int 3)) tN0)) tYs (tFn (sp__law_way K) [] (tCo (tV 0) (tCo (tV 4) tN0))) [9]) 8) (tSe (tLcF (.one 6) (tIR1 (tCo (tV 4) tN0)) tYs (tFn (sp__law_take K) [] (tCo (tV 0) (tCo (tV 1) tN0))) [6]) 5)) tNx) (tRt (tTu (tCo (tV 5) (tCo (tTu (tCo (tV 4) (tCo (tV 8) tN0))) tN0)))))))))))
def N__law_frame : List Str := ["world"]
def t__law_frame (K : PySem.W.Frag) : TSd := tRt (tMk (He.ga K "Frame") (sp_Frame___init__ K) [] (tCo (tO rIxD (tV 0) (tK (.int 0))) (tCo (tO rIxD (tO rIxD (tV 0) (tK (.int 1))) (tK (.int 0))) (tCo (tO rIxD (tO rIxD (tV 0) (tK (.int 1))) (tK (.int 1))) (tCo (tO rIxD (tO rIxD (tV 0) (tK (.int 1))) (tK (.int 2))) tN0)))))
def N__law_asked : List Str := ["source", "target", "f", "first", "second", "one", "two", "kind", "handed", "due"]
def t__law_asked (K : PySem.W.Frag) : TSd := tSq (tSe (tFn (sp__law_frame K) [] (tCo (tV 0) tN0)) 3) (tSq (tSe (tFn (sp__law_frame K) [] (tCo (tV 1) tN0)) 4) (tSq (tSe (tFn (sp__law_table K) [] (tCo (tO rIxD (tV 0) (tK (.int 0))) (tCo (tO rIxD (tV 0) (tK (.int 1))) tN0))) 5) (tSq (tSe (tFn (sp__law_table K) [] (tCo (tO rIxD (tV 1) (tK (.int 0))) (tCo (tO rIxD (tV 1) (tK (.int 1))) tN0))) 6) (tSq (tFo (tIS (tLs (tCo (tK (.str "plain")) (tCo (tK (.str "turned")) (tCo (tK (.str "counted")) (tCo (tK (.str "all")) (tCo (tK (.str "full")) tN0))))))) (gN 7) (tSq (tSe (tCl listF (tCo (tV 2) tN0)) 8) (tSq (tSe (tFn (sp__law_fault K) [] (tCo (tV 5) (tCo (tV 6) (tCo (tV 2) (tCo (tV 7) tN0))))) 9) (tSq (tIf' (tNo (tTr (tFn (sp__law_same K) [] (tCo (tFn (sp_led_fault K) [] (tCo (tV 3) (tCo (tV 4) (tCo (tV 8) (tCo (tV 7) tN0))))) (tCo (tV 9) tN0))))) (tRt (tK (.bl false))) tNx) (tSq (tIf' (tNo (tTr (tFn (sp__law_same K) [] (tCo (tFn (sp_is_led K) [] (tCo (tV 3) (tCo (tV 4) (tCo (tCl tupleM (tCo (tV 2) tN0)) (tCo (tV 7) tN0))))) (tCo (tO rIsD (tV 9) (tK .non)) tN0))))) (tRt (tK (.bl false))) tNx) (tIf' (tTs (tO rNeD (tV 8) (tV 2))) (tRt (tK (.bl false))) tNx)))))) (tRt (tK (.bl true)))))))
def N__law_told : List Str := ["e", "at"]
def t__law_told (K : PySem.W.Frag) (a : Addr) (cls : Value) (d : Option Addr) : TSd := tSq (tIf' (tOr' (tNo (tTr (tIsX K (okE K) a cls d (tCo (tV 0) (tCo (tK (.ref (He.ga K "BadMap"))) tN0))))) (tNo (tTr (tIsX K (okE K) a cls d (tCo (tV 0) (tCo (tK (.ty "ValueError")) tN0)))))) (tRt (tK (.bl false))) tNx) (tSq (tIf' (tTr (tIsX K (okE K) a cls d (tCo (tV 0) (tCo (tTu (tCo (tK (.ref (He.ga K "Apart"))) (tCo (tK (.ref (He.ga K "BadCount"))) (tCo (tK (.ref (He.ga K "BadPlace"))) (tCo (tK (.ref (He.ga K "BadSize"))) (tCo (tK (.ref (He.ga K "BadWord"))) (tCo (tK (.ref (He.ga K "TooLarge"))) (tCo (tK (.ref (He.ga K "TooWide"))) tN0)))))))) tN0)))) (tRt (tK (.bl false))) tNx) (tRt (tFn (spx__law_same K a cls d) [] (tCo (tXfd (okE K) a cls d "at" (tV 0)) (tCo (tV 1) tN0)))))
def N__law_refused : List Str := ["first", "second", "f", "kind", "at", "handed", "good", "e"]
def t__law_refused (K : PySem.W.Frag) : TSd := tSq (tSe (tCl listF (tCo (tV 2) tN0)) 5) (tSq (tSe (tK (.int 0)) 6) (tSq (tTry K (tEx (tFn (sp_led_fault K) [] (tCo (tV 0) (tCo (tV 1) (tCo (tV 5) (tCo (tV 3) tN0)))))) [⟨.ref (He.ga K "SayError"), some 7, fun a cls d => tSe (tO rAddD (tV 6) (tCl intC (tCo (tFn (spx__law_told K a cls d) [] (tCo (tV 7) (tCo (tV 4) tN0))) tN0))) 6⟩]) (tSq (tTry K (tEx (tFn (sp_is_led K) [] (tCo (tV 0) (tCo (tV 1) (tCo (tV 5) (tCo (tV 3) tN0)))))) [⟨.ref (He.ga K "SayError"), some 7, fun a cls d => tSe (tO rAddD (tV 6) (tCl intC (tCo (tFn (spx__law_told K a cls d) [] (tCo (tV 7) (tCo (tV 4) tN0))) tN0))) 6⟩]) (tRt (tAnV (tO rEqD (tV 6) (tK (.int 2))) (tO rEqD (tV 5) (tV 2)))))))
def N__law_wrong_maps : List Str := ["st", "source", "target", "f", "size", "goals", "kind", "at", "later", "x", "rows", "row", "due"]
def t__law_wrong_maps (K : PySem.W.Frag) : TSd := tSq (tSe (tO rIxD (tV 1) (tK (.int 0))) 4) (tSq (tSe (tO rIxD (tV 2) (tK (.int 0))) 5) (tSq (tSe (tO rIxD (tLs (tCo (tK (.str "plain")) (tCo (tK (.str "turned")) (tCo (tK (.str "counted")) (tCo (tK (.str "all")) (tCo (tK (.str "full")) tN0)))))) (tFn (sp__law_take K) [] (tCo (tV 0) (tCo (tK (.int 5)) tN0)))) 6) (tSq (tSe (tFn (sp__law_take K) [] (tCo (tV 0) (tCo (tV 4) tN0))) 7) (tSq (tSe (tLcF (.one 9) (tIR1 (tCo (tO rSubD (tV 4) (tV 7)) tN0)) tYs (tO rIxD (tLs (tCo (tV 5) (tCo (tU rNegD (tK (.int 1))) tN0))) (tFn (sp__law_take K) [] (tCo (tV 0) (tCo (tK (.int 2)) tN0)))) [9]) 8) (tSq (tSe (tLsM (tCo (tTu (tCo (tO rAddD (tV 3) (tLs (tCo (tK (.int 0)) tN0))) (tCo (tO rAddD (tV 4) (tK (.int 1))) tN0))) (tCo (tTu (tCo (tO rAddD (tV 3) (tLs (tCo (tV 5) tN0))) (tCo (tO rAddD (tV 4) (tK (.int 1))) tN0))) tN0))) 10) (tSq (tEx (tMe isLs mAppD (tV 10) (tCo (tTu (tCo (tSlc (tV 3) tP0 (tP1 (tU rNegD (tK (.int 1))))) (tCo (tO rSubD (tV 4) (tK (.int 1))) tN0))) tN0))) (tSq (tEx (tMe isLs mAppD (tV 10) (tCo (tTu (tCo (tO rAddD (tSlc (tV 3) tP0 (tP1 (tV 7))) (tV 8)) (tCo (tV 7) tN0))) tN0))) (tSq (tEx (tMe isLs mAppD (tV 10) (tCo (tTu (tCo (tO rAddD (tO rAddD (tSlc (tV 3) tP0 (tP1 (tV 7))) (tLs (tCo (tV 5) tN0))) (tSlc (tV 3) (tP1 (tO rAddD (tV 7) (tK (.int 1)))) tP0)) (tCo (tV 7) tN0))) tN0))) (tSq (tEx (tMe isLs mAppD (tV 10) (tCo (tTu (tCo (tO rAddD (tO rAddD (tSlc (tV 3) tP0 (tP1 (tV 7))) (tLs (tCo (tU rNegD (tK (.int 1))) tN0))) (tSlc (tV 3) (tP1 (tO rAddD (tV 7) (tK (.int 1)))) tP0)) (tCo (tV 7) tN0))) tN0))) (tSq (tFo (tIS (tV 10)) (gT 2 (gsc (gN 11) (gsc (gN 12) gs0))) (tIf' (tNo (tTr (tFn (sp__law_refused K) [] (tCo (tFn (sp__law_frame K) [] (tCo (tV 1) tN0)) (tCo (tFn (sp__law_frame K) [] (tCo (tV 2) tN0)) (tCo (tV 11) (tCo (tV 6) (tCo (tV 12) tN0)))))))) (tRt (tK (.bl false))) tNx)) (tRt (tK (.bl true)))))))))))))
def N__law_told_pairs : List Str := ["none", "fork"]
def t__law_told_pairs (K : PySem.W.Frag) : TSd := tSq (tSe (tLs (tCo (tLs tN0) (tCo (tLs tN0) (tCo (tLs tN0) tN0)))) 0) (tSq (tIf' (tNo (tTr (tFn (sp__law_asked K) [] (tCo (tTu (tCo (tK (.int 1)) (tCo (tV 0) tN0))) (tCo (tTu (tCo (tK (.int 2)) (tCo (tV 0) tN0))) (tCo (tLs (tCo (tK (.int 0)) tN0)) tN0)))))) (tRt (tK (.bl false))) tNx) (tSq (tIf' (tNo (tTr (tFn (sp__law_asked K) [] (tCo (tTu (tCo (tK (.int 2)) (tCo (tV 0) tN0))) (tCo (tTu (tCo (tK (.int 1)) (tCo (tV 0) tN0))) (tCo (tLs (tCo (tK (.int 0)) (tCo (tK (.int 0)) tN0))) tN0)))))) (tRt (tK (.bl false))) tNx) (tSq (tSe (tLs (tCo (tLs (tCo (tTu (tCo (tK (.int 0)) (tCo (tK (.int 1)) tN0))) (tCo (tTu (tCo (tK (.int 0)) (tCo (tK (.int 2)) tN0))) tN0))) (tCo (tLs tN0) (tCo (tLs tN0) tN0)))) 1) (tRt (tFn (sp__law_asked K) [] (tCo (tTu (tCo (tK (.int 3)) (tCo (tV 1) tN0))) (tCo (tTu (tCo (tK (.int 2)) (tCo (tLs (tCo (tLs (tCo (tTu (tCo (tK (.int 0)) (tCo (tK (.int 1)) tN0))) tN0)) (tCo (tLs tN0) (tCo (tLs tN0) tN0)))) tN0))) (tCo (tLs (tCo (tK (.int 0)) (tCo (tK (.int 1)) (tCo (tK (.int 1)) tN0)))) tN0))))))))
def N__law_rings : List Str := ["st", "goals", "size", "steps", "x", "ways", "f", "at"]
def t__law_rings (K : PySem.W.Frag) : TSd := tSq (tSe (tO rAddD (tK (.int 1)) (tFn (sp__law_take K) [] (tCo (tV 0) (tCo (tK (.int 6)) tN0)))) 1) (tSq (tSe (tO rMulD (tV 1) (tO rAddD (tK (.int 1)) (tFn (sp__law_take K) [] (tCo (tV 0) (tCo (tO rDivD (tK (.int 130)) (tV 1)) tN0))))) 2) (tSq (tSe (tLs (tCo (tLcF (.one 4) (tIR1 (tCo (tV 1) tN0)) tYs (tTu (tCo (tV 4) (tCo (tO rModD (tCl intC (tCo (tO rAddD (tV 4) (tK (.int 1))) tN0)) (tV 1)) tN0))) [4]) (tCo (tLs tN0) (tCo (tLs tN0) tN0)))) 3) (tSq (tSe (tLs (tCo (tLcF (.one 4) (tIR1 (tCo (tV 2) tN0)) tYs (tTu (tCo (tV 4) (tCo (tO rModD (tCl intC (tCo (tO rAddD (tV 4) (tK (.int 1))) tN0)) (tV 2)) tN0))) [4]) (tCo (tLs tN0) (tCo (tLs tN0) tN0)))) 5) (tSq (tSe (tLcM (.one 4) (tIR1 (tCo (tV 2) tN0)) tYs (tO rModD (tCl intC (tCo (tV 4) tN0)) (tV 1)) [4]) 6) (tSq (tIf' (tNo (tTr (tFn (sp__law_asked K) [] (tCo (tTu (tCo (tV 2) (tCo (tV 5) tN0))) (tCo (tTu (tCo (tV 1) (tCo (tV 3) tN0))) (tCo (tV 6) tN0)))))) (tRt (tK (.bl false))) tNx) (tSq (tSe (tFn (sp__law_take K) [] (tCo (tV 0) (tCo (tV 2) tN0))) 7) (tSq (tAs (tFn (sp__law_take K) [] (tCo (tV 0) (tCo (tV 1) tN0))) (gS (tV 6) (tV 7))) (tRt (tFn (sp__law_asked K) [] (tCo (tTu (tCo (tV 2) (tCo (tV 5) tN0))) (tCo (tTu (tCo (tV 1) (tCo (tV 3) tN0))) (tCo (tV 6) tN0))))))))))))
def N__law_renumbered : List Str := ["st", "source", "order", "x", "ways", "row", "pairs", "y", "f"]
def t__law_renumbered (K : PySem.W.Frag) : TSd := tSq (tSe (tLsM tN0) 2) (tSq (tFo (tIR1 (tCo (tO rIxD (tV 1) (tK (.int 0))) tN0)) (gN 3) (tEx (tMe isLs mInsD (tV 2) (tCo (tFn (sp__law_take K) [] (tCo (tV 0) (tCo (tO rAddD (tV 3) (tK (.int 1))) tN0))) (tCo (tV 3) tN0))))) (tSq (tSe (tLsM tN0) 4) (tSq (tFo (tIS (tO rIxD (tV 1) (tK (.int 1)))) (gN 5) (tSq (tSe (tLcF (.many [3, 7]) (tIS (tV 5)) tYs (tTu (tCo (tIdx (tV 2) (tV 3)) (tCo (tIdx (tV 2) (tV 7)) tN0))) [3, 7]) 6) (tEx (tMe isLs mAppD (tV 4) (tCo (tCl sortPD (tCo (tV 6) tN0)) tN0))))) (tSq (tSe (tLcF (.one 3) (tIR1 (tCo (tO rIxD (tV 1) (tK (.int 0))) tN0)) tYs (tIdx (tV 2) (tV 3)) [3]) 8) (tRt (tTu (tCo (tV 8) (tCo (tTu (tCo (tO rIxD (tV 1) (tK (.int 0))) (tCo (tV 4) tN0))) tN0))))))))
def N_law : List Str := ["script", "st", "goals", "large", "target", "k", "f", "source", "g", "like", "at", "near", "far"]
def t_law (K : PySem.W.Frag) : TSd := tSq (tSe (tFn (sp__law_state K) [] (tCo (tV 0) tN0)) 1) (tSq (tSe (tO rAddD (tK (.int 1)) (tFn (sp__law_take K) [] (tCo (tV 1) (tCo (tK (.int 4)) tN0)))) 2) (tSq (tSe (tFn (sp__law_take K) [] (tCo (tV 1) (tCo (tK (.int 8)) tN0))) 3) (tSq (tSe (tTu (tCo (tV 2) (tCo (tLcF (.one 5) (tIR1 (tCo (tK (.int 3)) tN0)) tYs (tFn (sp__law_way K) [] (tCo (tV 1) (tCo (tV 2) tN0))) [5]) tN0))) 4) (tSq (tAs (tFn (sp__law_over K) [] (tCo (tV 1) (tCo (tV 2) (tCo (tO rIxD (tV 4) (tK (.int 1))) tN0)))) (gT 2 (gsc (gN 6) (gsc (gN 7) gs0)))) (tSq (tAs (tFn (sp__law_renumbered K) [] (tCo (tV 1) (tCo (tV 7) tN0))) (gT 2 (gsc (gN 8) (gsc (gN 9) gs0)))) (tSq (tIf' (tOr' (tNo (tTr (tFn (sp__law_asked K) [] (tCo (tV 7) (tCo (tV 4) (tCo (tV 6) tN0)))))) (tNo (tTr (tFn (sp__law_asked K) [] (tCo (tV 7) (tCo (tV 9) (tCo (tV 8) tN0))))))) (tRt (tK (.bl false))) tNx) (tSq (tSe (tFn (sp__law_take K) [] (tCo (tV 1) (tCo (tO rIxD (tV 7) (tK (.int 0))) tN0))) 10) (tSq (tSe (tO rAddD (tO rAddD (tSlc (tV 6) tP0 (tP1 (tV 10))) (tLs (tCo (tFn (sp__law_take K) [] (tCo (tV 1) (tCo (tV 2) tN0))) tN0))) (tSlc (tV 6) (tP1 (tO rAddD (tV 10) (tK (.int 1)))) tP0)) 11) (tSq (tSe (tO rAddD (tO rAddD (tSlc (tV 8) tP0 (tP1 (tV 10))) (tLs (tCo (tFn (sp__law_take K) [] (tCo (tV 1) (tCo (tO rIxD (tV 7) (tK (.int 0))) tN0))) tN0))) (tSlc (tV 8) (tP1 (tO rAddD (tV 10) (tK (.int 1)))) tP0)) 12) (tSq (tIf' (tOr' (tNo (tTr (tFn (sp__law_asked K) [] (tCo (tV 7) (tCo (tV 4) (tCo (tV 11) tN0)))))) (tNo (tTr (tFn (sp__law_asked K) [] (tCo (tV 7) (tCo (tV 9) (tCo (tV 12) tN0))))))) (tRt (tK (.bl false))) tNx) (tSq (tIf' (tOr' (tNo (tTr (tFn (sp__law_wrong_maps K) [] (tCo (tV 1) (tCo (tV 7) (tCo (tV 4) (tCo (tV 6) tN0))))))) (tNo (tTr (tFn (sp__law_told_pairs K) [] tN0)))) (tRt (tK (.bl false))) tNx) (tSq (tIf' (tAn (tTs (tO rEqD (tV 3) (tK (.int 7)))) (tNo (tTr (tFn (sp__law_rings K) [] (tCo (tV 1) tN0))))) (tRt (tK (.bl false))) tNx) (tRt (tFn (sp__law_asked K) [] (tCo (tV 7) (tCo (tV 4) (tCo (tV 6) tN0)))))))))))))))))
end K15
/-! Walks of the defs, printed by gen.py. -/
namespace K15
open PySem PySem.Spec PyProof.Rows L2 DL
variable [B : Obs]
abbrev s_is_kind : Stmt := topS 18
theorem sc_is_kind : FnScope N_is_kind ["word"] (defScope s_is_kind) := ⟨rfl, rfl, rfl, by decide +kernel, rfl, by decide +kernel, by decide +kernel⟩
theorem w_is_kind {P : Program} {w : World} {K : PySem.W.Frag} {mg : Str → Option Value} {base : Heap} {f : Addr} {fd : FuncData} {dvs : List V} {kws : List (Str × V)} (Z : Fc P K mg) 
    (F : FunD K "is_kind" "is_kind" (defArgs s_is_kind) (defBody s_is_kind) (defScope s_is_kind) dvs kws f fd) (len : ∀ {ds M Qd Xd}, sp_is_kind K ds M Qd Xd → ds.length = 1)
    (pure_ : ∀ {ds M Qd Xd}, sp_is_kind K ds M Qd Xd → t_is_kind K (outD Qd Xd) (startD N_is_kind ds) M) : FnD P w K mg base 1 f fd ["word"] (sp_is_kind K) :=
  fn_data F sc_is_kind len (fun cdv A outer s H E c => (ss1 (sret (pcmp op_inA ok_in (pv 0) (pgl Z.g_KINDS) (by rfl))))) pure_
abbrev s_directions_of : Stmt := topS 19
theorem sc_directions_of : FnScope N_directions_of ["kind"] (defScope s_directions_of) := ⟨rfl, rfl, rfl, by decide +kernel, rfl, by decide +kernel, by decide +kernel⟩
theorem w_directions_of {P : Program} {w : World} {K : PySem.W.Frag} {mg : Str → Option Value} {base : Heap} {f : Addr} {fd : FuncData} {dvs : List V} {kws : List (Str × V)} (Z : Fc P K mg) (h_is_kind : Has P w K mg base 1 "is_kind" ["word"] (sp_is_kind K))
    (F : FunD K "directions_of" "directions_of" (defArgs s_directions_of) (defBody s_directions_of) (defScope s_directions_of) dvs kws f fd) (len : ∀ {ds M Qd Xd}, sp_directions_of K ds M Qd Xd → ds.length = 1)
    (pure_ : ∀ {ds M Qd Xd}, sp_directions_of K ds M Qd Xd → t_directions_of K (outD Qd Xd) (startD N_directions_of ds) M) : FnD P w K mg base 3 f fd ["kind"] (sp_directions_of K) :=
  fn_data F sc_directions_of len (fun cdv A outer s H E c => (ssc (sif (ptnot (pttru (pcall c h_is_kind (pac (pv 0) pa0)))) (ss1 snever) ss0) (ssc (sif (ptcmp op_inA ok_in (pv 0) (ptup (pac pstr (pac pstr pa0))) (by rfl)) (ss1 (sret (psl (pgl Z.g_DIRECTIONS) po0 (po1 pint)))) ss0) (ss1 (sret (pgl Z.g_WAYS)))))) pure_
abbrev s_check_kind : Stmt := topS 22
theorem sc_check_kind : FnScope N_check_kind ["kind"] (defScope s_check_kind) := ⟨rfl, rfl, rfl, by decide +kernel, rfl, by decide +kernel, by decide +kernel⟩
theorem w_check_kind {P : Program} {w : World} {K : PySem.W.Frag} {mg : Str → Option Value} {base : Heap} {f : Addr} {fd : FuncData} {dvs : List V} {kws : List (Str × V)} (Z : Fc P K mg) (h_is_kind : Has P w K mg base 1 "is_kind" ["word"] (sp_is_kind K))
    (F : FunD K "check_kind" "check_kind" (defArgs s_check_kind) (defBody s_check_kind) (defScope s_check_kind) dvs kws f fd) (len : ∀ {ds M Qd Xd}, sp_check_kind K ds M Qd Xd → ds.length = 1)
    (pure_ : ∀ {ds M Qd Xd}, sp_check_kind K ds M Qd Xd → t_check_kind K (outD Qd Xd) (startD N_check_kind ds) M) : FnD P w K mg base 3 f fd ["kind"] (sp_check_kind K) :=
  fn_data F sc_check_kind len (fun cdv A outer s H E c => (ss1 (sif (ptnot (pttru (pcall c h_is_kind (pac (pv 0) pa0)))) (ss1 snever) ss0))) pure_
abbrev s_bits_of : Stmt := topS 25
theorem sc_bits_of : FnScope N_bits_of ["mask"] (defScope s_bits_of) := ⟨rfl, rfl, rfl, by decide +kernel, rfl, by decide +kernel, by decide +kernel⟩
theorem w_bits_of {P : Program} {w : World} {K : PySem.W.Frag} {mg : Str → Option Value} {base : Heap} {f : Addr} {fd : FuncData} {dvs : List V} {kws : List (Str × V)} (Z : Fc P K mg) 
    (F : FunD K "bits_of" "bits_of" (defArgs s_bits_of) (defBody s_bits_of) (defScope s_bits_of) dvs kws f fd) (len : ∀ {ds M Qd Xd}, sp_bits_of K ds M Qd Xd → ds.length = 1)
    (pure_ : ∀ {ds M Qd Xd}, sp_bits_of K ds M Qd Xd → t_bits_of K (outD Qd Xd) (startD N_bits_of ds) M) : FnD P w K mg base 1 f fd ["mask"] (sp_bits_of K) :=
  fn_data F sc_bits_of len (fun cdv A outer s H E c => (ssc (sset (i := 1) c.nd rfl (by first | exact .inl rfl | exact .inr rfl) (plstM pa0)) (ssc (sset (i := 2) c.nd rfl (by first | exact .inl rfl | exact .inr rfl) (pv 0)) (ssc (swhile c.hp (ptcmp (op_neA c.hu) ok_ne (pv 2) pint (by rfl)) (ssc (sset (i := 3) c.nd rfl (by first | exact .inl rfl | exact .inr rfl) (pbin op_and (ok_i2 fun _ _ _ => .int _) (pv 2) (punop un_neg ok_neg (pv 2)))) (ssc (sexpr (pbm PySem.F.plainAttrs_list PySem.F.slot_list_append PySem.F.type_list_append mt_append ok_app (pv 1) (pac (pbin op_sub (ok_i2 fun _ _ _ => .int _) (pbt (pv 3)) pint) pa0))) (ss1 (sset (i := 2) c.nd rfl (by first | exact .inl rfl | exact .inr rfl) (pbin op_xor (ok_i2 fun _ _ _ => .int _) (pv 2) (pv 3))))))) (ss1 (sret (pbty call_tuple_of ok_tuple Z.b_tuple (pac (pv 1) pa0)))))))) pure_
abbrev s_Frame_mask_to : Stmt := inC 5 (topS 37)
theorem sc_Frame_mask_to : FnScope N_Frame_mask_to ["self", "direction", "place"] (defScope s_Frame_mask_to) := ⟨rfl, rfl, rfl, by decide +kernel, rfl, by decide +kernel, by decide +kernel⟩
theorem w_Frame_mask_to {P : Program} {w : World} {K : PySem.W.Frag} {mg : Str → Option Value} {base : Heap} {f : Addr} {fd : FuncData} {dvs : List V} {kws : List (Str × V)} (Z : Fc P K mg) 
    (F : FunD K "mask_to" "Frame.mask_to" (defArgs s_Frame_mask_to) (defBody s_Frame_mask_to) (defScope s_Frame_mask_to) dvs kws f fd) (len : ∀ {ds M Qd Xd}, sp_Frame_mask_to K ds M Qd Xd → ds.length = 3)
    (pure_ : ∀ {ds M Qd Xd}, sp_Frame_mask_to K ds M Qd Xd → t_Frame_mask_to K (outD Qd Xd) (startD N_Frame_mask_to ds) M) : FnD P w K mg base 1 f fd ["self", "direction", "place"] (sp_Frame_mask_to K) :=
  fn_data F sc_Frame_mask_to len (fun cdv A outer s H E c => (ss1 (sret (pix ix_seq ok_ix (pdget c (pfld (pv 0)) (pv 1) (fun _ _ => rfl)) (pv 2) (fun _ _ => rfl))))) pure_
abbrev s_steps_of_led : Stmt := topS 31
theorem sc_steps_of_led : FnScope N_steps_of_led ["frame", "kind"] (defScope s_steps_of_led) := ⟨rfl, rfl, rfl, by decide +kernel, rfl, by decide +kernel, by decide +kernel⟩
theorem w_steps_of_led {P : Program} {w : World} {K : PySem.W.Frag} {mg : Str → Option Value} {base : Heap} {f : Addr} {fd : FuncData} {dvs : List V} {kws : List (Str × V)} (Z : Fc P K mg) (h_directions_of : Has P w K mg base 3 "directions_of" ["kind"] (sp_directions_of K)) (h_bits_of : Has P w K mg base 1 "bits_of" ["mask"] (sp_bits_of K)) (h_Frame_mask_to : HasM P w K mg base 1 (He.ga K "Frame") "mask_to" ["self", "direction", "place"] (sp_Frame_mask_to K))
    (F : FunD K "_steps_of" "_steps_of" (defArgs s_steps_of_led) (defBody s_steps_of_led) (defScope s_steps_of_led) dvs kws f fd) (len : ∀ {ds M Qd Xd}, sp_steps_of_led K ds M Qd Xd → ds.length = 2)
    (pure_ : ∀ {ds M Qd Xd}, sp_steps_of_led K ds M Qd Xd → t_steps_of_led K (outD Qd Xd) (startD N_steps_of_led ds) M) : FnD P w K mg base 4 f fd ["frame", "kind"] (sp_steps_of_led K) :=
  fn_data F sc_steps_of_led len (fun cdv A outer s H E c => (ssc (sset (i := 2) c.nd rfl (by first | exact .inl rfl | exact .inr rfl) (pcall c h_directions_of (pac (pv 1) pa0))) (ss1 (sret (plcF (own := [("place", 4)]) c (pir1 rfl Z.b_range (pac (pfld (pv 0)) pa0)) ⟨blk_of N_steps_of_led (defScope s_steps_of_led) rfl rfl ⟨rfl, by decide +kernel, by decide +kernel, by decide +kernel, by decide +kernel⟩, by decide, fun s H C cl fp => g1 4 (by exact c.nd), fun s H C cl fp c => pts0, fun s H C cl fp c => (plcF (own := [("word", 3)]) c (pis (pv 2)) ⟨blk_in N_steps_of_led rfl ⟨rfl, by decide +kernel, by decide +kernel, by decide +kernel, by decide +kernel⟩, by decide, fun s H C cl fp => g1 3 (by exact c.nd), fun s H C cl fp c => pts0, fun s H C cl fp c => (pcall c h_bits_of (pac (pmcall c h_Frame_mask_to (pv 0) (pac (pv 3) (pac (pv 4) pa0))) pa0))⟩)⟩))))) pure_
abbrev s__fault_at : Stmt := topS 33
theorem sc__fault_at : FnScope N__fault_at ["place", "ahead", "allowed", "images", "kind"] (defScope s__fault_at) := ⟨rfl, rfl, rfl, by decide +kernel, rfl, by decide +kernel, by decide +kernel⟩
theorem w__fault_at {P : Program} {w : World} {K : PySem.W.Frag} {mg : Str → Option Value} {base : Heap} {f : Addr} {fd : FuncData} {dvs : List V} {kws : List (Str × V)} (Z : Fc P K mg) (h_directions_of : Has P w K mg base 3 "directions_of" ["kind"] (sp_directions_of K))
    (F : FunD K "_fault_at" "_fault_at" (defArgs s__fault_at) (defBody s__fault_at) (defScope s__fault_at) dvs kws f fd) (len : ∀ {ds M Qd Xd}, sp__fault_at K ds M Qd Xd → ds.length = 5)
    (pure_ : ∀ {ds M Qd Xd}, sp__fault_at K ds M Qd Xd → t__fault_at K (outD Qd Xd) (startD N__fault_at ds) M) : FnD P w K mg base 4 f fd ["place", "ahead", "allowed", "images", "kind"] (sp__fault_at K) :=
  fn_data F sc__fault_at len (fun cdv A outer s H E c => (ssc (sfor c.hp c.calm (pien Z.b_enumerate (pac (pcall c h_directions_of (pac (pv 4) pa0)) pa0)) (gtup c.calm (gcons (W := W0) (gname (i := 5) c.nd rfl (by first | exact .inl rfl | exact .inr rfl)) (gcons (W := W0) (gname (i := 6) c.nd rfl (by first | exact .inl rfl | exact .inr rfl)) gnil))) (ssc (ssetLc (own := [("goal", 8)]) (i := 7) c rfl rfl (sw_true rfl rfl rfl (by decide +kernel)) (pis (pix ix_seq ok_ix (pv 1) (pv 5) (fun _ _ => rfl))) ⟨blk_of N__fault_at (defScope s__fault_at) rfl rfl ⟨rfl, by decide +kernel, by decide +kernel, by decide +kernel, by decide +kernel⟩, by decide, fun s H C cl fp => g1 8 (by exact c.nd), fun s H C cl fp c => pts0, fun s H C cl fp c => (pix ix_seq ok_ix (pv 3) (pv 8) (fun _ _ => rfl))⟩) (ssc (sfor c.hp c.calm (pis (pix ix_seq ok_ix (pv 1) (pv 5) (fun _ _ => rfl))) (gname (i := 8) c.nd rfl (by first | exact .inl rfl | exact .inr rfl)) (ss1 (sif (ptcmp op_ninA ok_nin (pix ix_seq ok_ix (pv 3) (pv 8) (fun _ _ => rfl)) (pix ix_seq ok_ix (pv 2) (pv 5) (fun _ _ => rfl)) (by rfl)) (ss1 (sret (ptup (pac pstr (pac (pv 6) (pac (pv 0) (pac (pv 8) pa0))))))) ss0))) (ss1 (sfor c.hp c.calm (pis (pix ix_seq ok_ix (pv 2) (pv 5) (fun _ _ => rfl))) (gname (i := 9) c.nd rfl (by first | exact .inl rfl | exact .inr rfl)) (ssc (sset (i := 10) c.nd rfl (by first | exact .inl rfl | exact .inr rfl) (pbm PySem.F.plainAttrs_list PySem.F.slot_list_count PySem.F.type_list_count mt_lcount ok_cnt (pv 7) (pac (pv 9) pa0))) (ssc (sif (ptcmp (op_eqA c.hu) ok_eq (pv 10) pint (by rfl)) (ss1 (sret (ptup (pac pstr (pac (pv 6) (pac (pv 0) (pac (pv 9) pa0))))))) ss0) (ss1 (sif (PW.pt (pwand (ptcmp op_gt (ok_i2 fun _ _ _ => .bl _) (pv 10) pint (by rfl)) (pwand1 (ptcmp op_inA ok_in (pv 4) (ptup (pac pstr (pac pstr pa0))) (by rfl))))) (ss1 (sret (ptup (pac pstr (pac (pv 6) (pac (pv 0) (pac (pv 9) pa0))))))) ss0))))))))) (ss1 (sret pnon)))) pure_
abbrev s_check_map : Stmt := topS 29
theorem sc_check_map : FnScope N_check_map ["images", "size", "goals"] (defScope s_check_map) := ⟨rfl, rfl, rfl, by decide +kernel, rfl, by decide +kernel, by decide +kernel⟩
theorem w_check_map {P : Program} {w : World} {K : PySem.W.Frag} {mg : Str → Option Value} {base : Heap} {f : Addr} {fd : FuncData} {dvs : List V} {kws : List (Str × V)} (Z : Fc P K mg) 
    (F : FunD K "check_map" "check_map" (defArgs s_check_map) (defBody s_check_map) (defScope s_check_map) dvs kws f fd) (len : ∀ {ds M Qd Xd}, sp_check_map K ds M Qd Xd → ds.length = 3)
    (pure_ : ∀ {ds M Qd Xd}, sp_check_map K ds M Qd Xd → t_check_map K (outD Qd Xd) (startD N_check_map ds) M) : FnD P w K mg base 3 f fd ["images", "size", "goals"] (sp_check_map K) :=
  fn_data F sc_check_map len (fun cdv A outer s H E c => (ssc (sif (ptcmp (op_neA c.hu) ok_ne (pblt call_len ok_len Z.b_len (pac (pv 0) pa0)) (pv 1) (by rfl)) (ss1 (srai c Z.e_BadMap (pac (pblt call_len ok_len Z.b_len (pac (pv 0) pa0)) pa0))) ss0) (ss1 (sfor c.hp c.calm (pien Z.b_enumerate (pac (pv 0) pa0)) (gtup c.calm (gcons (W := W0) (gname (i := 3) c.nd rfl (by first | exact .inl rfl | exact .inr rfl)) (gcons (W := W0) (gname (i := 4) c.nd rfl (by first | exact .inl rfl | exact .inr rfl)) gnil))) (ss1 (sif (PW.pt (pwor (ptcmp op_lt (ok_i2 fun _ _ _ => .bl _) (pv 4) pint (by rfl)) (pwor1 (ptcmp op_ge (ok_i2 fun _ _ _ => .bl _) (pv 4) (pv 2) (by rfl))))) (ss1 (srai c Z.e_BadMap (pac (pv 3) pa0))) ss0)))))) pure_
abbrev s_map_fault : Stmt := topS 30
theorem sc_map_fault : FnScope N_map_fault ["first", "second", "images", "kind"] (defScope s_map_fault) := ⟨rfl, rfl, rfl, by decide +kernel, rfl, by decide +kernel, by decide +kernel⟩
theorem w_map_fault {P : Program} {w : World} {K : PySem.W.Frag} {mg : Str → Option Value} {base : Heap} {f : Addr} {fd : FuncData} {dvs : List V} {kws : List (Str × V)} (Z : Fc P K mg) (h_steps_of_led : Has P w K mg base 4 "steps_of_led" ["frame", "kind"] (sp_steps_of_led K)) (h__fault_at : Has P w K mg base 4 "_fault_at" ["place", "ahead", "allowed", "images", "kind"] (sp__fault_at K))
    (F : FunD K "map_fault" "map_fault" (defArgs s_map_fault) (defBody s_map_fault) (defScope s_map_fault) dvs kws f fd) (len : ∀ {ds M Qd Xd}, sp_map_fault K ds M Qd Xd → ds.length = 4)
    (pure_ : ∀ {ds M Qd Xd}, sp_map_fault K ds M Qd Xd → t_map_fault K (outD Qd Xd) (startD N_map_fault ds) M) : FnD P w K mg base 5 f fd ["first", "second", "images", "kind"] (sp_map_fault K) :=
  fn_data F sc_map_fault len (fun cdv A outer s H E c => (ssc (sset (i := 4) c.nd rfl (by first | exact .inl rfl | exact .inr rfl) (pcall c h_steps_of_led (pac (pv 0) (pac (pv 3) pa0)))) (ssc (sset (i := 5) c.nd rfl (by first | exact .inl rfl | exact .inr rfl) (pcall c h_steps_of_led (pac (pv 1) (pac (pv 3) pa0)))) (ssc (sfor c.hp c.calm (pir1 rfl Z.b_range (pac (pfld (pv 0)) pa0)) (gname (i := 6) c.nd rfl (by first | exact .inl rfl | exact .inr rfl)) (ssc (sset (i := 7) c.nd rfl (by first | exact .inl rfl | exact .inr rfl) (pcall c h__fault_at (pac (pv 6) (pac (pix ix_seq ok_ix (pv 4) (pv 6) (fun _ _ => rfl)) (pac (pix ix_seq ok_ix (pv 5) (pix ix_seq ok_ix (pv 2) (pv 6) (fun _ _ => rfl)) (fun _ _ => rfl)) (pac (pv 2) (pac (pv 3) pa0))))))) (ss1 (sif (ptcmp op_isnA ok_isn (pv 7) pnon (by rfl)) (ss1 (sret (pv 7))) ss0)))) (ssc (sif (ptcmp op_inA ok_in (pv 3) (ptup (pac pstr (pac pstr pa0))) (by rfl)) (ss1 (sfor c.hp c.calm (pir1 rfl Z.b_range (pac (pfld (pv 1)) pa0)) (gname (i := 8) c.nd rfl (by first | exact .inl rfl | exact .inr rfl)) (ss1 (sif (ptcmp op_ninA ok_nin (pv 8) (pv 2) (by rfl)) (ss1 (sret (ptup (pac pstr (pac pstr (pac (pv 8) (pac (pv 8) pa0))))))) ss0)))) ss0) (ssc (sif (ptcmp (op_eqA c.hu) ok_eq (pv 3) pstr (by rfl)) (ss1 (sfor c.hp c.calm (pir1 rfl Z.b_range (pac (pfld (pv 0)) pa0)) (gname (i := 6) c.nd rfl (by first | exact .inl rfl | exact .inr rfl)) (ssc (sset (i := 9) c.nd rfl (by first | exact .inl rfl | exact .inr rfl) (pidx (pv 2) (pix ix_seq ok_ix (pv 2) (pv 6) (fun _ _ => rfl)))) (ss1 (sif (ptcmp op_lt (ok_i2 fun _ _ _ => .bl _) (pv 9) (pv 6) (by rfl)) (ss1 (sret (ptup (pac pstr (pac pstr (pac (pv 9) (pac (pv 6) pa0))))))) ss0))))) ss0) (ss1 (sret pnon)))))))) pure_
abbrev s_led_fault : Stmt := topS 27
theorem sc_led_fault : FnScope N_led_fault ["first", "second", "images", "kind"] (defScope s_led_fault) := ⟨rfl, rfl, rfl, by decide +kernel, rfl, by decide +kernel, by decide +kernel⟩
theorem w_led_fault {P : Program} {w : World} {K : PySem.W.Frag} {mg : Str → Option Value} {base : Heap} {f : Addr} {fd : FuncData} {dvs : List V} {kws : List (Str × V)} (Z : Fc P K mg) (h_check_kind : Has P w K mg base 3 "check_kind" ["kind"] (sp_check_kind K)) (h_check_map : Has P w K mg base 3 "check_map" ["images", "size", "goals"] (sp_check_map K)) (h_map_fault : Has P w K mg base 5 "map_fault" ["first", "second", "images", "kind"] (sp_map_fault K))
    (F : FunD K "led_fault" "led_fault" (defArgs s_led_fault) (defBody s_led_fault) (defScope s_led_fault) dvs kws f fd) (len : ∀ {ds M Qd Xd}, sp_led_fault K ds M Qd Xd → ds.length = 4)
    (pure_ : ∀ {ds M Qd Xd}, sp_led_fault K ds M Qd Xd → t_led_fault K (outD Qd Xd) (startD N_led_fault ds) M) : FnD P w K mg base 6 f fd ["first", "second", "images", "kind"] (sp_led_fault K) :=
  fn_data F sc_led_fault len (fun cdv A outer s H E c => (ssc (sexpr (pcall c h_check_kind (pac (pv 3) pa0))) (ssc (sexpr (pcall c h_check_map (pac (pv 2) (pac (pfld (pv 0)) (pac (pfld (pv 1)) pa0))))) (ss1 (sret (pcall c h_map_fault (pac (pv 0) (pac (pv 1) (pac (pv 2) (pac (pv 3) pa0)))))))))) pure_
abbrev s_is_led : Stmt := topS 28
theorem sc_is_led : FnScope N_is_led ["first", "second", "images", "kind"] (defScope s_is_led) := ⟨rfl, rfl, rfl, by decide +kernel, rfl, by decide +kernel, by decide +kernel⟩
theorem w_is_led {P : Program} {w : World} {K : PySem.W.Frag} {mg : Str → Option Value} {base : Heap} {f : Addr} {fd : FuncData} {dvs : List V} {kws : List (Str × V)} (Z : Fc P K mg) (h_check_kind : Has P w K mg base 3 "check_kind" ["kind"] (sp_check_kind K)) (h_check_map : Has P w K mg base 3 "check_map" ["images", "size", "goals"] (sp_check_map K)) (h_map_fault : Has P w K mg base 5 "map_fault" ["first", "second", "images", "kind"] (sp_map_fault K))
    (F : FunD K "is_led" "is_led" (defArgs s_is_led) (defBody s_is_led) (defScope s_is_led) dvs kws f fd) (len : ∀ {ds M Qd Xd}, sp_is_led K ds M Qd Xd → ds.length = 4)
    (pure_ : ∀ {ds M Qd Xd}, sp_is_led K ds M Qd Xd → t_is_led K (outD Qd Xd) (startD N_is_led ds) M) : FnD P w K mg base 6 f fd ["first", "second", "images", "kind"] (sp_is_led K) :=
  fn_data F sc_is_led len (fun cdv A outer s H E c => (ssc (sexpr (pcall c h_check_kind (pac (pv 3) pa0))) (ssc (sexpr (pcall c h_check_map (pac (pv 2) (pac (pfld (pv 0)) (pac (pfld (pv 1)) pa0))))) (ss1 (sret (pcmp op_isA ok_is (pcall c h_map_fault (pac (pv 0) (pac (pv 1) (pac (pv 2) (pac (pv 3) pa0))))) pnon (by rfl))))))) pure_
abbrev s_steps_of_frames : Stmt := topS 38
theorem sc_steps_of_frames : FnScope N_steps_of_frames ["size", "a", "b", "c"] (defScope s_steps_of_frames) := ⟨rfl, rfl, rfl, by decide +kernel, rfl, by decide +kernel, by decide +kernel⟩
theorem w_steps_of_frames {P : Program} {w : World} {K : PySem.W.Frag} {mg : Str → Option Value} {base : Heap} {f : Addr} {fd : FuncData} {dvs : List V} {kws : List (Str × V)} (Z : Fc P K mg) 
    (F : FunD K "_steps_of" "_steps_of" (defArgs s_steps_of_frames) (defBody s_steps_of_frames) (defScope s_steps_of_frames) dvs kws f fd) (len : ∀ {ds M Qd Xd}, sp_steps_of_frames K ds M Qd Xd → ds.length = 4)
    (pure_ : ∀ {ds M Qd Xd}, sp_steps_of_frames K ds M Qd Xd → t_steps_of_frames K (outD Qd Xd) (startD N_steps_of_frames ds) M) : FnD P w K mg base 1 f fd ["size", "a", "b", "c"] (sp_steps_of_frames K) :=
  fn_data F sc_steps_of_frames len (fun cdv A outer s H E c => (ssc (sset (i := 4) c.nd rfl (by first | exact .inl rfl | exact .inr rfl) pdi0) (ssc (sfor c.hp c.calm (pizp Z.b_zip (pac (pgl Z.g_WAYS) (pac (ptup (pac (pv 1) (pac (pv 2) (pac (pv 3) pa0)))) pa0))) (gtup c.calm (gcons (W := W0) (gname (i := 5) c.nd rfl (by first | exact .inl rfl | exact .inr rfl)) (gcons (W := W0) (gname (i := 6) c.nd rfl (by first | exact .inl rfl | exact .inr rfl)) gnil))) (ssc (sset (i := 7) c.nd rfl (by first | exact .inl rfl | exact .inr rfl) (pbin op_mulA ok_mulM (plst (pac pint pa0)) (pv 0))) (ssc (sset (i := 8) c.nd rfl (by first | exact .inl rfl | exact .inr rfl) (pbin op_mulA ok_mulM (plst (pac pint pa0)) (pv 0))) (ssc (sfor c.hp c.calm (pis (pv 6)) (gtup c.calm (gcons (W := W0) (gname (i := 9) c.nd rfl (by first | exact .inl rfl | exact .inr rfl)) (gcons (W := W0) (gname (i := 10) c.nd rfl (by first | exact .inl rfl | exact .inr rfl)) gnil))) (ssc (sasg (pbin op_or (ok_i2 fun _ _ _ => .int _) (pix ix_seq ok_ix (pv 7) (pv 9) (fun _ _ => rfl)) (pbin op_shl (ok_i2c fun _ _ _ => .int _) pint (pv 10))) (gsub (pv 7) (pv 9))) (ss1 (sasg (pbin op_or (ok_i2 fun _ _ _ => .int _) (pix ix_seq ok_ix (pv 8) (pv 10) (fun _ _ => rfl)) (pbin op_shl (ok_i2c fun _ _ _ => .int _) pint (pv 9))) (gsub (pv 8) (pv 10)))))) (ssc (sasg (pbty call_tuple_of ok_tuple Z.b_tuple (pac (pv 7) pa0)) (gdsub c (pv 4) (pv 5))) (ss1 (sasg (pbty call_tuple_of ok_tuple Z.b_tuple (pac (pv 8) pa0)) (gdsub c (pv 4) (pbin op_addA ok_add pstr (pv 5)))))))))) (ssc (sasg (pbin op_mulT ok_mulT (ptup (pac (pbin op_sub (ok_i2 fun _ _ _ => .int _) (pbin op_shl (ok_i2c fun _ _ _ => .int _) pint (pv 0)) pint) pa0)) (pv 0)) (gdsub c (pv 4) pstr)) (ss1 (sret (pv 4))))))) pure_
abbrev s__pairs_of : Stmt := topS 40
theorem sc__pairs_of : FnScope N__pairs_of ["masks"] (defScope s__pairs_of) := ⟨rfl, rfl, rfl, by decide +kernel, rfl, by decide +kernel, by decide +kernel⟩
theorem w__pairs_of {P : Program} {w : World} {K : PySem.W.Frag} {mg : Str → Option Value} {base : Heap} {f : Addr} {fd : FuncData} {dvs : List V} {kws : List (Str × V)} (Z : Fc P K mg) (h_bits_of : Has P w K mg base 1 "bits_of" ["mask"] (sp_bits_of K))
    (F : FunD K "_pairs_of" "_pairs_of" (defArgs s__pairs_of) (defBody s__pairs_of) (defScope s__pairs_of) dvs kws f fd) (len : ∀ {ds M Qd Xd}, sp__pairs_of K ds M Qd Xd → ds.length = 1)
    (pure_ : ∀ {ds M Qd Xd}, sp__pairs_of K ds M Qd Xd → t__pairs_of K (outD Qd Xd) (startD N__pairs_of ds) M) : FnD P w K mg base 2 f fd ["masks"] (sp__pairs_of K) :=
  fn_data F sc__pairs_of len (fun cdv A outer s H E c => (ss1 (sret (pbty call_tuple_of ok_tuple Z.b_tuple (pac (plc2F (own := [("x", 1), ("mask", 2), ("y", 3)]) c (pien Z.b_enumerate (pac (pv 0) pa0)) ⟨blk_of N__pairs_of (defScope s__pairs_of) rfl rfl ⟨rfl, by decide +kernel, by decide +kernel, by decide +kernel, by decide +kernel⟩, by decide, by decide, by decide, fun s H C cl fp => g2 1 2 (by exact c.calm) (by exact c.nd), fun s H C cl fp c => pts0, fun s H C cl fp c => (pis (pcall c h_bits_of (pac (pv 2) pa0))), fun s H C cl fp => g1 3 (by exact c.nd), fun s H C cl fp c => pts0, fun s H C cl fp c => (ptup (pac (pv 1) (pac (pv 3) pa0)))⟩) pa0))))) pure_
abbrev s__text_of : Stmt := topS 41
theorem sc__text_of : FnScope N__text_of ["size", "steps"] (defScope s__text_of) := ⟨rfl, rfl, rfl, by decide +kernel, rfl, by decide +kernel, by decide +kernel⟩
theorem w__text_of {P : Program} {w : World} {K : PySem.W.Frag} {mg : Str → Option Value} {base : Heap} {f : Addr} {fd : FuncData} {dvs : List V} {kws : List (Str × V)} (Z : Fc P K mg) (h__pairs_of : Has P w K mg base 2 "_pairs_of" ["masks"] (sp__pairs_of K))
    (F : FunD K "_text_of" "_text_of" (defArgs s__text_of) (defBody s__text_of) (defScope s__text_of) dvs kws f fd) (len : ∀ {ds M Qd Xd}, sp__text_of K ds M Qd Xd → ds.length = 2)
    (pure_ : ∀ {ds M Qd Xd}, sp__text_of K ds M Qd Xd → t__text_of K (outD Qd Xd) (startD N__text_of ds) M) : FnD P w K mg base 3 f fd ["size", "steps"] (sp__text_of K) :=
  fn_data F sc__text_of len (fun cdv A outer s H E c => (ssc (sset (i := 2) c.nd rfl (by first | exact .inl rfl | exact .inr rfl) (plstM (pac (pjd (.cons pstr (.cons (pfm (pv 0)) .nil))) pa0))) (ssc (sfor c.hp c.calm (pis (pgl Z.g_WAYS)) (gname (i := 3) c.nd rfl (by first | exact .inl rfl | exact .inr rfl)) (ssc (sset (i := 4) c.nd rfl (by first | exact .inl rfl | exact .inr rfl) (pcall c h__pairs_of (pac (pdget c (pv 1) (pv 3) (fun _ _ => rfl)) pa0))) (ss1 (sif (ptcmp op_gt (ok_i2 fun _ _ _ => .bl _) (pblt call_len ok_len Z.b_len (pac (pv 4) pa0)) pint (by rfl)) (ss1 (sexpr (pbm PySem.F.plainAttrs_list PySem.F.slot_list_append PySem.F.type_list_append mt_append ok_app (pv 2) (pac (pbin op_addA ok_add (pbin op_addA ok_add (pv 3) pstr) (pjn pstr (plcF (own := [("x", 5), ("y", 6)]) c (pis (pv 4)) ⟨blk_of N__text_of (defScope s__text_of) rfl rfl ⟨rfl, by decide +kernel, by decide +kernel, by decide +kernel, by decide +kernel⟩, by decide, fun s H C cl fp => g2 5 6 (by exact c.calm) (by exact c.nd), fun s H C cl fp c => pts0, fun s H C cl fp c => (pjd (.cons pstr (.cons (pfm (pv 5)) (.cons pstr (.cons (pfm (pv 6)) .nil)))))⟩))) pa0)))) ss0)))) (ss1 (sret (pjn pstr (pv 2))))))) pure_
abbrev s_Frame___init__ : Stmt := inC 0 (topS 37)
theorem sc_Frame___init__ : FnScope N_Frame___init__ ["self", "size", "a", "b", "c"] (defScope s_Frame___init__) := ⟨rfl, rfl, rfl, by decide +kernel, rfl, by decide +kernel, by decide +kernel⟩
theorem w_Frame___init__ {P : Program} {w : World} {K : PySem.W.Frag} {mg : Str → Option Value} {base : Heap} {f : Addr} {fd : FuncData} {dvs : List V} {kws : List (Str × V)} (Z : Fc P K mg) (h_steps_of_frames : Has P w K mg base 1 "steps_of_frames" ["size", "a", "b", "c"] (sp_steps_of_frames K)) (h__text_of : Has P w K mg base 3 "_text_of" ["size", "steps"] (sp__text_of K))
    (F : FunD K "__init__" "Frame.__init__" (defArgs s_Frame___init__) (defBody s_Frame___init__) (defScope s_Frame___init__) dvs kws f fd) (len : ∀ {ds M Qd Xd}, sp_Frame___init__ K ds M Qd Xd → ds.length = 5)
    (pure_ : ∀ {ds M Qd Xd}, sp_Frame___init__ K ds M Qd Xd → t_Frame___init__ K (outD Qd Xd) (startD N_Frame___init__ ds) M) : FnD P w K mg base 4 f fd ["self", "size", "a", "b", "c"] (sp_Frame___init__ K) :=
  fn_data F sc_Frame___init__ len (fun cdv A outer s H E c => (ssc (sif (PW.pt (pwor (ptcmp op_lt (ok_i2 fun _ _ _ => .bl _) (pv 1) pint (by rfl)) (pwor1 (ptcmp op_gt (ok_i2 fun _ _ _ => .bl _) (pv 1) (pgl Z.g_MOST_PLACES) (by rfl))))) (ss1 snever) ss0) (ssc (sfor c.hp c.calm (pis (ptup (pac (pv 2) (pac (pv 3) (pac (pv 4) pa0))))) (gname (i := 5) c.nd rfl (by first | exact .inl rfl | exact .inr rfl)) (ss1 (sfor c.hp c.calm (pis (pv 5)) (gname (i := 6) c.nd rfl (by first | exact .inl rfl | exact .inr rfl)) (ss1 (sfor c.hp c.calm (pis (pv 6)) (gname (i := 7) c.nd rfl (by first | exact .inl rfl | exact .inr rfl)) (ss1 (sif (PW.pt (pwor (ptcmp op_lt (ok_i2 fun _ _ _ => .bl _) (pv 7) pint (by rfl)) (pwor1 (ptcmp op_ge (ok_i2 fun _ _ _ => .bl _) (pv 7) (pv 1) (by rfl))))) (ss1 snever) ss0))))))) (ssc (sfld (pv 0) (pv 1)) (ssc (sfld (pv 0) (pbin op_sub (ok_i2 fun _ _ _ => .int _) (pbin op_shl (ok_i2c fun _ _ _ => .int _) pint (pv 1)) pint)) (ssc (sfld (pv 0) (pcall c h_steps_of_frames (pac (pv 1) (pac (pv 2) (pac (pv 3) (pac (pv 4) pa0)))))) (ss1 (sfld (pv 0) (pcall c h__text_of (pac (pv 1) (pac (pfld (pv 0)) pa0))))))))))) pure_
abbrev s__law_state : Stmt := topS 47
theorem sc__law_state : FnScope N__law_state ["script"] (defScope s__law_state) := ⟨rfl, rfl, rfl, by decide +kernel, rfl, by decide +kernel, by decide +kernel⟩
theorem w__law_state {P : Program} {w : World} {K : PySem.W.Frag} {mg : Str → Option Value} {base : Heap} {f : Addr} {fd : FuncData} {dvs : List V} {kws : List (Str × V)} (Z : Fc P K mg) 
    (F : FunD K "_law_state" "_law_state" (defArgs s__law_state) (defBody s__law_state) (defScope s__law_state) dvs kws f fd) (len : ∀ {ds M Qd Xd}, sp__law_state K ds M Qd Xd → ds.length = 1)
    (pure_ : ∀ {ds M Qd Xd}, sp__law_state K ds M Qd Xd → t__law_state K (outD Qd Xd) (startD N__law_state ds) M) : FnD P w K mg base 1 f fd ["script"] (sp__law_state K) :=
  fn_data F sc__law_state len (fun cdv A outer s H E c => (ss1 (sret (plstM (pac (plcM (own := [("cell", 1)]) c (pis (psl (pv 0) po0 (po1 pint))) ⟨blk_of N__law_state (defScope s__law_state) rfl rfl ⟨rfl, by decide +kernel, by decide +kernel, by decide +kernel, by decide +kernel⟩, by decide, fun s H C cl fp => g1 1 (by exact c.nd), fun s H C cl fp c => pts0, fun s H C cl fp c => (pblt call_abs ok_abs Z.b_abs (pac (pbty call_int1 ok_int Z.b_int (pac (pv 1) pa0)) pa0))⟩) (pac pint (pac pint pa0))))))) pure_
abbrev s__law_take : Stmt := topS 48
theorem sc__law_take : FnScope N__law_take ["st", "many"] (defScope s__law_take) := ⟨rfl, rfl, rfl, by decide +kernel, rfl, by decide +kernel, by decide +kernel⟩
theorem w__law_take {P : Program} {w : World} {K : PySem.W.Frag} {mg : Str → Option Value} {base : Heap} {f : Addr} {fd : FuncData} {dvs : List V} {kws : List (Str × V)} (Z : Fc P K mg) 
    (F : FunD K "_law_take" "_law_take" (defArgs s__law_take) (defBody s__law_take) (defScope s__law_take) dvs kws f fd) (len : ∀ {ds M Qd Xd}, sp__law_take K ds M Qd Xd → ds.length = 2)
    (pure_ : ∀ {ds M Qd Xd}, sp__law_take K ds M Qd Xd → t__law_take K (outD Qd Xd) (startD N__law_take ds) M) : FnD P w K mg base 1 f fd ["st", "many"] (sp__law_take K) :=
  fn_data F sc__law_take len (fun cdv A outer s H E c => (ssc (sasg (pbin op_addA ok_add (pix ix_seq ok_ix (pv 0) pint (fun _ _ => rfl)) pint) (gsub (pv 0) pint)) (ssc (sif (ptcmp op_lt (ok_i2 fun _ _ _ => .bl _) (pv 1) pint (by rfl)) (ss1 (sret pint)) ss0) (ssc (sif (ptcmp op_lt (ok_i2 fun _ _ _ => .bl _) (pix ix_seq ok_ix (pv 0) pint (fun _ _ => rfl)) (pblt call_len ok_len Z.b_len (pac (pix ix_seq ok_ix (pv 0) pint (fun _ _ => rfl)) pa0)) (by rfl)) (ssc (sset (i := 2) c.nd rfl (by first | exact .inl rfl | exact .inr rfl) (pix ix_seq ok_ix (pix ix_seq ok_ix (pv 0) pint (fun _ _ => rfl)) (pix ix_seq ok_ix (pv 0) pint (fun _ _ => rfl)) (fun _ _ => rfl))) (ssc (sasg (pbin op_fdiv (ok_i2c fun _ _ _ => .int _) (pv 2) (pv 1)) (gsub (pix ix_seq ok_ix (pv 0) pint (fun _ _ => rfl)) (pix ix_seq ok_ix (pv 0) pint (fun _ _ => rfl)))) (ssc (sif (ptcmp op_lt (ok_i2 fun _ _ _ => .bl _) (pv 2) (pv 1) (by rfl)) (ss1 (sasg (pbin op_addA ok_add (pix ix_seq ok_ix (pv 0) pint (fun _ _ => rfl)) pint) (gsub (pv 0) pint))) ss0) (ss1 (sret (pbin op_mod (ok_i2c fun _ _ _ => .int _) (pbty call_int1 ok_int Z.b_int (pac (pv 2) pa0)) (pv 1))))))) ss0) (ss1 (sret (pbin op_mod (ok_i2c fun _ _ _ => .int _) (pbty call_int1 ok_int Z.b_int (pac (pbin op_mod (ok_i2c fun _ _ _ => .int _) (pbty call_int1 ok_int Z.b_int (pac (pbin op_mulA ok_mul (pix ix_seq ok_ix (pv 0) pint (fun _ _ => rfl)) pint) pa0)) pint) pa0)) (pv 1)))))))) pure_
abbrev s__law_way : Stmt := topS 49
theorem sc__law_way : FnScope N__law_way ["st", "size"] (defScope s__law_way) := ⟨rfl, rfl, rfl, by decide +kernel, rfl, by decide +kernel, by decide +kernel⟩
theorem w__law_way {P : Program} {w : World} {K : PySem.W.Frag} {mg : Str → Option Value} {base : Heap} {f : Addr} {fd : FuncData} {dvs : List V} {kws : List (Str × V)} (Z : Fc P K mg) (h__law_take : Has P w K mg base 1 "_law_take" ["st", "many"] (sp__law_take K))
    (F : FunD K "_law_way" "_law_way" (defArgs s__law_way) (defBody s__law_way) (defScope s__law_way) dvs kws f fd) (len : ∀ {ds M Qd Xd}, sp__law_way K ds M Qd Xd → ds.length = 2)
    (pure_ : ∀ {ds M Qd Xd}, sp__law_way K ds M Qd Xd → t__law_way K (outD Qd Xd) (startD N__law_way ds) M) : FnD P w K mg base 2 f fd ["st", "size"] (sp__law_way K) :=
  fn_data F sc__law_way len (fun cdv A outer s H E c => (ssc (sset (i := 2) c.nd rfl (by first | exact .inl rfl | exact .inr rfl) (pcall c h__law_take (pac (pv 0) (pac pint pa0)))) (ssc (sset (i := 3) c.nd rfl (by first | exact .inl rfl | exact .inr rfl) (plstM pa0)) (ssc (sif (ptcmp (op_eqA c.hu) ok_eq (pv 2) pint (by rfl)) (ss1 (sfor c.hp c.calm (pir1 rfl Z.b_range (pac (pcall c h__law_take (pac (pv 0) (pac (pbin op_addA ok_add (pv 1) pint) pa0))) pa0)) (gname (i := 4) c.nd rfl (by first | exact .inl rfl | exact .inr rfl)) (ssc (sset (i := 5) c.nd rfl (by first | exact .inl rfl | exact .inr rfl) (pcall c h__law_take (pac (pv 0) (pac (pv 1) pa0)))) (ss1 (sexpr (pbm PySem.F.plainAttrs_list PySem.F.slot_list_append PySem.F.type_list_append mt_append ok_app (pv 3) (pac (ptup (pac (pv 5) (pac (pcall c h__law_take (pac (pv 0) (pac (pv 1) pa0))) pa0))) pa0))))))) ss0) (ssc (sfor c.hp c.calm (pir1 rfl Z.b_range (pac (pv 1) pa0)) (gname (i := 5) c.nd rfl (by first | exact .inl rfl | exact .inr rfl)) (ssc (sif (ptcmp (op_eqA c.hu) ok_eq (pv 2) pint (by rfl)) (ssc (sset (i := 6) c.nd rfl (by first | exact .inl rfl | exact .inr rfl) (pcall c h__law_take (pac (pv 0) (pac (pbin op_shl (ok_i2c fun _ _ _ => .int _) pint (pv 1)) pa0)))) (ssc (ssetLc (own := [("y", 8)]) (i := 7) c rfl rfl (sw_true rfl rfl rfl (by decide +kernel)) (pir1 rfl Z.b_range (pac (pv 1) pa0)) ⟨blk_of N__law_way (defScope s__law_way) rfl rfl ⟨rfl, by decide +kernel, by decide +kernel, by decide +kernel, by decide +kernel⟩, by decide, fun s H C cl fp => g1 8 (by exact c.nd), fun s H C cl fp c => pts1 (ptcmp (op_eqA c.hu) ok_eq (pbin op_and (ok_i2 fun _ _ _ => .int _) (pbin op_shr (ok_i2c fun _ _ _ => .int _) (pv 6) (pv 8)) pint) pint (by rfl)), fun s H C cl fp c => (pv 8)⟩) (ss1 (sset (i := 3) c.nd rfl (by first | exact .inl rfl | exact .inr rfl) (pbin op_addA ok_add (pv 3) (plcF (own := [("y", 8)]) c (pis (pv 7)) ⟨blk_of N__law_way (defScope s__law_way) rfl rfl ⟨rfl, by decide +kernel, by decide +kernel, by decide +kernel, by decide +kernel⟩, by decide, fun s H C cl fp => g1 8 (by exact c.nd), fun s H C cl fp c => pts0, fun s H C cl fp c => (ptup (pac (pv 5) (pac (pv 8) pa0)))⟩)))))) ss0) (ssc (sif (ptcmp (op_eqA c.hu) ok_eq (pv 2) pint (by rfl)) (ss1 (sexpr (pbm PySem.F.plainAttrs_list PySem.F.slot_list_append PySem.F.type_list_append mt_append ok_app (pv 3) (pac (ptup (pac (pv 5) (pac (pv 5) pa0))) pa0)))) ss0) (ssc (sif (ptcmp (op_eqA c.hu) ok_eq (pv 2) pint (by rfl)) (ss1 (sexpr (pbm PySem.F.plainAttrs_list PySem.F.slot_list_append PySem.F.type_list_append mt_append ok_app (pv 3) (pac (ptup (pac (pv 5) (pac (pbin op_mod (ok_i2c fun _ _ _ => .int _) (pbty call_int1 ok_int Z.b_int (pac (pbin op_addA ok_add (pv 5) pint) pa0)) (pv 1)) pa0))) pa0)))) ss0) (ss1 (sif (ptcmp (op_eqA c.hu) ok_eq (pv 2) pint (by rfl)) (ss1 (sset (i := 3) c.nd rfl (by first | exact .inl rfl | exact .inr rfl) (pbin op_addA ok_add (pv 3) (plcF (own := [("y", 8)]) c (pir2 rfl Z.b_range (pac (pbin op_addA ok_add (pv 5) pint) (pac (pv 1) pa0))) ⟨blk_of N__law_way (defScope s__law_way) rfl rfl ⟨rfl, by decide +kernel, by decide +kernel, by decide +kernel, by decide +kernel⟩, by decide, fun s H C cl fp => g1 8 (by exact c.nd), fun s H C cl fp c => pts0, fun s H C cl fp c => (ptup (pac (pv 5) (pac (pv 8) pa0)))⟩)))) ss0)))))) (ss1 (sret (psortS c rfl Z.b_sorted rfl Z.b_set (pac (pv 3) pa0))))))))) pure_
abbrev s__law_same : Stmt := topS 50
theorem sc__law_same : FnScope N__law_same ["told", "due"] (defScope s__law_same) := ⟨rfl, rfl, rfl, by decide +kernel, rfl, by decide +kernel, by decide +kernel⟩
theorem w__law_same {P : Program} {w : World} {K : PySem.W.Frag} {mg : Str → Option Value} {base : Heap} {f : Addr} {fd : FuncData} {dvs : List V} {kws : List (Str × V)} (Z : Fc P K mg) 
    (F : FunD K "_law_same" "_law_same" (defArgs s__law_same) (defBody s__law_same) (defScope s__law_same) dvs kws f fd) (len : ∀ {ds M Qd Xd}, sp__law_same K ds M Qd Xd → ds.length = 2)
    (pure_ : ∀ {ds M Qd Xd}, sp__law_same K ds M Qd Xd → t__law_same K (outD Qd Xd) (startD N__law_same ds) M) : FnD P w K mg base 1 f fd ["told", "due"] (sp__law_same K) :=
  fn_data F sc__law_same len (fun cdv A outer s H E c => (ss1 (sret (pand (pcmp (op_eqA c.hu) ok_eq (pblt (call_reprA c.gd c.ru) ok_rp Z.b_repr (pac (pv 0) pa0)) (pblt (call_reprA c.gd c.ru) ok_rp Z.b_repr (pac (pv 1) pa0)) (by rfl)) (pone (pcmp (op_eqA c.hu) ok_eq (pv 0) (pv 1) (by rfl))))))) pure_
theorem wh__law_same {P : Program} {w : World} {K : PySem.W.Frag} {mg : Str → Option Value} {base : Heap} {f : Addr} {fd : FuncData} {dvs : List V} {kws : List (Str × V)} (Z : Fc P K mg) 
    (F : FunD K "_law_same" "_law_same" (defArgs s__law_same) (defBody s__law_same) (defScope s__law_same) dvs kws f fd) (len : ∀ {a cls d ds M Qd Xd}, spx__law_same K a cls d ds M Qd Xd → ds.length = 2)
    (pure_ : ∀ {a cls d ds M Qd Xd}, spx__law_same K a cls d ds M Qd Xd → t__law_same K  (outD Qd X0) (startD N__law_same ds) M) : FnX P w K mg base 1 f fd ["told", "due"] (spx__law_same K) :=
  fn_dataX (td := fun a cls d => t__law_same K ) F sc__law_same len (fun cdv A outer s H E p cls d c => (ss1 (sret (pand (pcmp (op_eqA c.hu) ok_eq (pblt (call_reprA c.gd c.ru) ok_rp Z.b_repr (pac (pv 0) pa0)) (pblt (call_reprA c.gd c.ru) ok_rp Z.b_repr (pac (pv 1) pa0)) (by rfl)) (pone (pcmp (op_eqA c.hu) ok_eq (pv 0) (pv 1) (by rfl))))))) pure_
abbrev s__law_table : Stmt := topS 51
theorem sc__law_table : FnScope N__law_table ["size", "steps"] (defScope s__law_table) := ⟨rfl, rfl, rfl, by decide +kernel, rfl, by decide +kernel, by decide +kernel⟩
theorem w__law_table {P : Program} {w : World} {K : PySem.W.Frag} {mg : Str → Option Value} {base : Heap} {f : Addr} {fd : FuncData} {dvs : List V} {kws : List (Str × V)} (Z : Fc P K mg) 
    (F : FunD K "_law_table" "_law_table" (defArgs s__law_table) (defBody s__law_table) (defScope s__law_table) dvs kws f fd) (len : ∀ {ds M Qd Xd}, sp__law_table K ds M Qd Xd → ds.length = 2)
    (pure_ : ∀ {ds M Qd Xd}, sp__law_table K ds M Qd Xd → t__law_table K (outD Qd Xd) (startD N__law_table ds) M) : FnD P w K mg base 1 f fd ["size", "steps"] (sp__law_table K) :=
  fn_data F sc__law_table len (fun cdv A outer s H E c => (ssc (sset (i := 2) c.nd rfl (by first | exact .inl rfl | exact .inr rfl) (pdi (.cons pstr (plcF (own := [("x", 3)]) c (pir1 rfl Z.b_range (pac (pv 0) pa0)) ⟨blk_of N__law_table (defScope s__law_table) rfl rfl ⟨rfl, by decide +kernel, by decide +kernel, by decide +kernel, by decide +kernel⟩, by decide, fun s H C cl fp => g1 3 (by exact c.nd), fun s H C cl fp c => pts0, fun s H C cl fp c => (plsrg c.calm rfl Z.b_list rfl Z.b_range (pv 0))⟩) .nil))) (ssc (sfor c.hp c.calm (pir1 rfl Z.b_range (pac pint pa0)) (gname (i := 4) c.nd rfl (by first | exact .inl rfl | exact .inr rfl)) (ssc (ssetLcM (own := [("x", 3)]) (i := 5) c rfl rfl (sw_true rfl rfl rfl (by decide +kernel)) (pir1 rfl Z.b_range (pac (pv 0) pa0)) ⟨blk_of N__law_table (defScope s__law_table) rfl rfl ⟨rfl, by decide +kernel, by decide +kernel, by decide +kernel, by decide +kernel⟩, by decide, fun s H C cl fp => g1 3 (by exact c.nd), fun s H C cl fp c => pts0, fun s H C cl fp c => (plstM pa0)⟩) (ssc (ssetLcM (own := [("x", 3)]) (i := 6) c rfl rfl (sw_true rfl rfl rfl (by decide +kernel)) (pir1 rfl Z.b_range (pac (pv 0) pa0)) ⟨blk_of N__law_table (defScope s__law_table) rfl rfl ⟨rfl, by decide +kernel, by decide +kernel, by decide +kernel, by decide +kernel⟩, by decide, fun s H C cl fp => g1 3 (by exact c.nd), fun s H C cl fp c => pts0, fun s H C cl fp c => (plstM pa0)⟩) (ssc (sfor c.hp c.calm (pis (pix ix_seq ok_ix (pv 1) (pv 4) (fun _ _ => rfl))) (gtup c.calm (gcons (W := W0) (gname (i := 3) c.nd rfl (by first | exact .inl rfl | exact .inr rfl)) (gcons (W := W0) (gname (i := 7) c.nd rfl (by first | exact .inl rfl | exact .inr rfl)) gnil))) (ssc (sexpr (pbm PySem.F.plainAttrs_list PySem.F.slot_list_append PySem.F.type_list_append mt_append ok_app (pix ix_seq ok_ix (pv 5) (pv 3) (fun _ _ => rfl)) (pac (pv 7) pa0))) (ss1 (sexpr (pbm PySem.F.plainAttrs_list PySem.F.slot_list_append PySem.F.type_list_append mt_append ok_app (pix ix_seq ok_ix (pv 6) (pv 7) (fun _ _ => rfl)) (pac (pv 3) pa0)))))) (ssc (sv (sasg (pv 5) (gdsub c (pv 2) (pix ix_seq ok_ix pstr (pv 4) (fun _ _ => rfl))))) (ss1 (sv (sasg (pv 6) (gdsub c (pv 2) (pbin op_addA ok_add pstr (pix ix_seq ok_ix pstr (pv 4) (fun _ _ => rfl)))))))))))) (ss1 (sret (pv 2)))))) pure_
abbrev s__law_words : Stmt := topS 52
theorem sc__law_words : FnScope N__law_words ["kind"] (defScope s__law_words) := ⟨rfl, rfl, rfl, by decide +kernel, rfl, by decide +kernel, by decide +kernel⟩
theorem w__law_words {P : Program} {w : World} {K : PySem.W.Frag} {mg : Str → Option Value} {base : Heap} {f : Addr} {fd : FuncData} {dvs : List V} {kws : List (Str × V)} (Z : Fc P K mg) 
    (F : FunD K "_law_words" "_law_words" (defArgs s__law_words) (defBody s__law_words) (defScope s__law_words) dvs kws f fd) (len : ∀ {ds M Qd Xd}, sp__law_words K ds M Qd Xd → ds.length = 1)
    (pure_ : ∀ {ds M Qd Xd}, sp__law_words K ds M Qd Xd → t__law_words K (outD Qd Xd) (startD N__law_words ds) M) : FnD P w K mg base 1 f fd ["kind"] (sp__law_words K) :=
  fn_data F sc__law_words len (fun cdv A outer s H E c => (ssc (sif (ptcmp op_inA ok_in (pv 0) (plst (pac pstr (pac pstr pa0))) (by rfl)) (ss1 (sret (plst (pac pstr (pac pstr (pac pstr (pac pstr (pac pstr (pac pstr pa0))))))))) ss0) (ss1 (sret (plst (pac pstr (pac pstr (pac pstr pa0)))))))) pure_
abbrev s__law_fault_at : Stmt := topS 53
theorem sc__law_fault_at : FnScope N__law_fault_at ["one", "two", "f", "kind", "e", "x"] (defScope s__law_fault_at) := ⟨rfl, rfl, rfl, by decide +kernel, rfl, by decide +kernel, by decide +kernel⟩
theorem w__law_fault_at {P : Program} {w : World} {K : PySem.W.Frag} {mg : Str → Option Value} {base : Heap} {f : Addr} {fd : FuncData} {dvs : List V} {kws : List (Str × V)} (Z : Fc P K mg) 
    (F : FunD K "_law_fault_at" "_law_fault_at" (defArgs s__law_fault_at) (defBody s__law_fault_at) (defScope s__law_fault_at) dvs kws f fd) (len : ∀ {ds M Qd Xd}, sp__law_fault_at K ds M Qd Xd → ds.length = 6)
    (pure_ : ∀ {ds M Qd Xd}, sp__law_fault_at K ds M Qd Xd → t__law_fault_at K (outD Qd Xd) (startD N__law_fault_at ds) M) : FnD P w K mg base 1 f fd ["one", "two", "f", "kind", "e", "x"] (sp__law_fault_at K) :=
  fn_data F sc__law_fault_at len (fun cdv A outer s H E c => (ssc (sfor c.hp c.calm (pis (pix ix_seq ok_ix (pdget c (pv 0) (pv 4) (fun _ _ => rfl)) (pv 5) (fun _ _ => rfl))) (gname (i := 6) c.nd rfl (by first | exact .inl rfl | exact .inr rfl)) (ss1 (sif (ptcmp op_ninA ok_nin (pix ix_seq ok_ix (pv 2) (pv 6) (fun _ _ => rfl)) (pix ix_seq ok_ix (pdget c (pv 1) (pv 4) (fun _ _ => rfl)) (pix ix_seq ok_ix (pv 2) (pv 5) (fun _ _ => rfl)) (fun _ _ => rfl)) (by rfl)) (ss1 (sret (ptup (pac pstr (pac (pv 4) (pac (pv 5) (pac (pv 6) pa0))))))) ss0))) (ssc (sfor c.hp c.calm (pis (pix ix_seq ok_ix (pdget c (pv 1) (pv 4) (fun _ _ => rfl)) (pix ix_seq ok_ix (pv 2) (pv 5) (fun _ _ => rfl)) (fun _ _ => rfl))) (gname (i := 7) c.nd rfl (by first | exact .inl rfl | exact .inr rfl)) (ssc (ssetLc (own := [("y", 6)]) (i := 8) c rfl rfl (sw_true rfl rfl rfl (by decide +kernel)) (pis (pix ix_seq ok_ix (pdget c (pv 0) (pv 4) (fun _ _ => rfl)) (pv 5) (fun _ _ => rfl))) ⟨blk_of N__law_fault_at (defScope s__law_fault_at) rfl rfl ⟨rfl, by decide +kernel, by decide +kernel, by decide +kernel, by decide +kernel⟩, by decide, fun s H C cl fp => g1 6 (by exact c.nd), fun s H C cl fp c => pts1 (ptcmp (op_eqA c.hu) ok_eq (pix ix_seq ok_ix (pv 2) (pv 6) (fun _ _ => rfl)) (pv 7) (by rfl)), fun s H C cl fp c => (pv 6)⟩) (ssc (sif (ptcmp (op_eqA c.hu) ok_eq (pv 8) (plst pa0) (by rfl)) (ss1 (sret (ptup (pac pstr (pac (pv 4) (pac (pv 5) (pac (pv 7) pa0))))))) ss0) (ss1 (sif (PW.pt (pwand (ptcmp op_gt (ok_i2 fun _ _ _ => .bl _) (pblt call_len ok_len Z.b_len (pac (pv 8) pa0)) pint (by rfl)) (pwand1 (ptcmp op_inA ok_in (pv 3) (plst (pac pstr (pac pstr pa0))) (by rfl))))) (ss1 (sret (ptup (pac pstr (pac (pv 4) (pac (pv 5) (pac (pv 7) pa0))))))) ss0))))) (ss1 (sret pnon))))) pure_
abbrev s__law_fault : Stmt := topS 54
theorem sc__law_fault : FnScope N__law_fault ["one", "two", "f", "kind"] (defScope s__law_fault) := ⟨rfl, rfl, rfl, by decide +kernel, rfl, by decide +kernel, by decide +kernel⟩
theorem w__law_fault {P : Program} {w : World} {K : PySem.W.Frag} {mg : Str → Option Value} {base : Heap} {f : Addr} {fd : FuncData} {dvs : List V} {kws : List (Str × V)} (Z : Fc P K mg) (h__law_words : Has P w K mg base 1 "_law_words" ["kind"] (sp__law_words K)) (h__law_fault_at : Has P w K mg base 1 "_law_fault_at" ["one", "two", "f", "kind", "e", "x"] (sp__law_fault_at K))
    (F : FunD K "_law_fault" "_law_fault" (defArgs s__law_fault) (defBody s__law_fault) (defScope s__law_fault) dvs kws f fd) (len : ∀ {ds M Qd Xd}, sp__law_fault K ds M Qd Xd → ds.length = 4)
    (pure_ : ∀ {ds M Qd Xd}, sp__law_fault K ds M Qd Xd → t__law_fault K (outD Qd Xd) (startD N__law_fault ds) M) : FnD P w K mg base 2 f fd ["one", "two", "f", "kind"] (sp__law_fault K) :=
  fn_data F sc__law_fault len (fun cdv A outer s H E c => (ssc (sfor c.hp c.calm (pir1 rfl Z.b_range (pac (pblt call_len ok_len Z.b_len (pac (pv 2) pa0)) pa0)) (gname (i := 4) c.nd rfl (by first | exact .inl rfl | exact .inr rfl)) (ss1 (sfor c.hp c.calm (pis (pcall c h__law_words (pac (pv 3) pa0))) (gname (i := 5) c.nd rfl (by first | exact .inl rfl | exact .inr rfl)) (ssc (sset (i := 6) c.nd rfl (by first | exact .inl rfl | exact .inr rfl) (pcall c h__law_fault_at (pac (pv 0) (pac (pv 1) (pac (pv 2) (pac (pv 3) (pac (pv 5) (pac (pv 4) pa0)))))))) (ss1 (sif (ptcmp op_isnA ok_isn (pv 6) pnon (by rfl)) (ss1 (sret (pv 6))) ss0)))))) (ssc (sfor c.hp c.calm (pir1 rfl Z.b_range (pac (pblt call_len ok_len Z.b_len (pac (pdget c (pv 1) pstr (fun _ _ => rfl)) pa0)) pa0)) (gname (i := 7) c.nd rfl (by first | exact .inl rfl | exact .inr rfl)) (ss1 (sif (PW.pt (pwand (ptcmp op_inA ok_in (pv 3) (plst (pac pstr (pac pstr pa0))) (by rfl)) (pwand1 (ptcmp op_ninA ok_nin (pv 7) (pv 2) (by rfl))))) (ss1 (sret (ptup (pac pstr (pac pstr (pac (pv 7) (pac (pv 7) pa0))))))) ss0))) (ssc (sfor c.hp c.calm (pir1 rfl Z.b_range (pac (pblt call_len ok_len Z.b_len (pac (pv 2) pa0)) pa0)) (gname (i := 4) c.nd rfl (by first | exact .inl rfl | exact .inr rfl)) (ss1 (sif (PW.pt (pwand (ptcmp (op_eqA c.hu) ok_eq (pv 3) pstr (by rfl)) (pwand1 (ptcmp op_inA ok_in (pix ix_seq ok_ix (pv 2) (pv 4) (fun _ _ => rfl)) (psl (pv 2) po0 (po1 (pv 4))) (by rfl))))) (ss1 (sret (ptup (pac pstr (pac pstr (pac (pidx (pv 2) (pix ix_seq ok_ix (pv 2) (pv 4) (fun _ _ => rfl))) (pac (pv 4) pa0))))))) ss0))) (ss1 (sret pnon)))))) pure_
abbrev s__law_copies : Stmt := topS 55
theorem sc__law_copies : FnScope N__law_copies ["st", "steps", "f", "mode"] (defScope s__law_copies) := ⟨rfl, rfl, rfl, by decide +kernel, rfl, by decide +kernel, by decide +kernel⟩
theorem w__law_copies {P : Program} {w : World} {K : PySem.W.Frag} {mg : Str → Option Value} {base : Heap} {f : Addr} {fd : FuncData} {dvs : List V} {kws : List (Str × V)} (Z : Fc P K mg) (h__law_take : Has P w K mg base 1 "_law_take" ["st", "many"] (sp__law_take K))
    (F : FunD K "_law_copies" "_law_copies" (defArgs s__law_copies) (defBody s__law_copies) (defScope s__law_copies) dvs kws f fd) (len : ∀ {ds M Qd Xd}, sp__law_copies K ds M Qd Xd → ds.length = 4)
    (pure_ : ∀ {ds M Qd Xd}, sp__law_copies K ds M Qd Xd → t__law_copies K (outD Qd Xd) (startD N__law_copies ds) M) : FnD P w K mg base 2 f fd ["st", "steps", "f", "mode"] (sp__law_copies K) :=
  fn_data F sc__law_copies len (fun cdv A outer s H E c => (ssc (sset (i := 4) c.nd rfl (by first | exact .inl rfl | exact .inr rfl) (plstM pa0)) (ssc (sfor c.hp c.calm (pis (pv 1)) (gname (i := 5) c.nd rfl (by first | exact .inl rfl | exact .inr rfl)) (ssc (sset (i := 6) c.nd rfl (by first | exact .inl rfl | exact .inr rfl) (plst pa0)) (ssc (sfor c.hp c.calm (pis (pv 5)) (gtup c.calm (gcons (W := W0) (gname (i := 7) c.nd rfl (by first | exact .inl rfl | exact .inr rfl)) (gcons (W := W0) (gname (i := 8) c.nd rfl (by first | exact .inl rfl | exact .inr rfl)) gnil))) (ssc (ssetLc (own := [("y", 10)]) (i := 9) c rfl rfl (sw_true rfl rfl rfl (by decide +kernel)) (pir1 rfl Z.b_range (pac (pblt call_len ok_len Z.b_len (pac (pv 2) pa0)) pa0)) ⟨blk_of N__law_copies (defScope s__law_copies) rfl rfl ⟨rfl, by decide +kernel, by decide +kernel, by decide +kernel, by decide +kernel⟩, by decide, fun s H C cl fp => g1 10 (by exact c.nd), fun s H C cl fp c => pts1 (ptcmp (op_eqA c.hu) ok_eq (pix ix_seq ok_ix (pv 2) (pv 10) (fun _ _ => rfl)) (pv 8) (by rfl)), fun s H C cl fp c => (pv 10)⟩) (ss1 (sfor c.hp c.calm (pis (plcF (own := [("y", 10)]) c (pir1 rfl Z.b_range (pac (pblt call_len ok_len Z.b_len (pac (pv 2) pa0)) pa0)) ⟨blk_of N__law_copies (defScope s__law_copies) rfl rfl ⟨rfl, by decide +kernel, by decide +kernel, by decide +kernel, by decide +kernel⟩, by decide, fun s H C cl fp => g1 10 (by exact c.nd), fun s H C cl fp c => pts1 (ptcmp (op_eqA c.hu) ok_eq (pix ix_seq ok_ix (pv 2) (pv 10) (fun _ _ => rfl)) (pv 7) (by rfl)), fun s H C cl fp c => (pv 10)⟩)) (gname (i := 11) c.nd rfl (by first | exact .inl rfl | exact .inr rfl)) (ssc (sset (i := 12) c.nd rfl (by first | exact .inl rfl | exact .inr rfl) (pv 9)) (ssc (sif (ptcmp (op_eqA c.hu) ok_eq (pv 3) pint (by rfl)) (ss1 (sset (i := 12) c.nd rfl (by first | exact .inl rfl | exact .inr rfl) (plst (pac (pix ix_seq ok_ix (pv 9) (pcall c h__law_take (pac (pv 0) (pac (pblt call_len ok_len Z.b_len (pac (pv 9) pa0)) pa0))) (fun _ _ => rfl)) pa0)))) ss0) (ss1 (sset (i := 6) c.nd rfl (by first | exact .inl rfl | exact .inr rfl) (pbin op_addA ok_add (pv 6) (plcF (own := [("y", 10)]) c (pis (pv 12)) ⟨blk_of N__law_copies (defScope s__law_copies) rfl rfl ⟨rfl, by decide +kernel, by decide +kernel, by decide +kernel, by decide +kernel⟩, by decide, fun s H C cl fp => g1 10 (by exact c.nd), fun s H C cl fp c => pts0, fun s H C cl fp c => (ptup (pac (pv 11) (pac (pv 10) pa0)))⟩)))))))))) (ss1 (sexpr (pbm PySem.F.plainAttrs_list PySem.F.slot_list_append PySem.F.type_list_append mt_append ok_app (pv 4) (pac (pblt (cr_sortT (by decide)) ok_sortP Z.b_sorted (pac (pv 6) pa0)) pa0))))))) (ss1 (sret (pv 4)))))) pure_
abbrev s__law_over : Stmt := topS 56
theorem sc__law_over : FnScope N__law_over ["st", "goals", "steps"] (defScope s__law_over) := ⟨rfl, rfl, rfl, by decide +kernel, rfl, by decide +kernel, by decide +kernel⟩
theorem w__law_over {P : Program} {w : World} {K : PySem.W.Frag} {mg : Str → Option Value} {base : Heap} {f : Addr} {fd : FuncData} {dvs : List V} {kws : List (Str × V)} (Z : Fc P K mg) (h__law_take : Has P w K mg base 1 "_law_take" ["st", "many"] (sp__law_take K)) (h__law_copies : Has P w K mg base 2 "_law_copies" ["st", "steps", "f", "mode"] (sp__law_copies K)) (h__law_way : Has P w K mg base 2 "_law_way" ["st", "size"] (sp__law_way K))
    (F : FunD K "_law_over" "_law_over" (defArgs s__law_over) (defBody s__law_over) (defScope s__law_over) dvs kws f fd) (len : ∀ {ds M Qd Xd}, sp__law_over K ds M Qd Xd → ds.length = 3)
    (pure_ : ∀ {ds M Qd Xd}, sp__law_over K ds M Qd Xd → t__law_over K (outD Qd Xd) (startD N__law_over ds) M) : FnD P w K mg base 3 f fd ["st", "goals", "steps"] (sp__law_over K) :=
  fn_data F sc__law_over len (fun cdv A outer s H E c => (ssc (sset (i := 3) c.nd rfl (by first | exact .inl rfl | exact .inr rfl) (pcall c h__law_take (pac (pv 0) (pac pint pa0)))) (ssc (sset (i := 4) c.nd rfl (by first | exact .inl rfl | exact .inr rfl) (pbin op_addA ok_add (pv 1) (pcall c h__law_take (pac (pv 0) (pac (pbin op_sub (ok_i2 fun _ _ _ => .int _) pint (pv 1)) pa0))))) (ssc (sset (i := 5) c.nd rfl (by first | exact .inl rfl | exact .inr rfl) (plsrg c.calm rfl Z.b_list rfl Z.b_range (pv 1))) (ssc (sfor c.hp c.calm (pir2 rfl Z.b_range (pac (pv 1) (pac (pv 4) pa0))) (gname (i := 6) c.nd rfl (by first | exact .inl rfl | exact .inr rfl)) (ss1 (sexpr (pbm PySem.F.plainAttrs_list PySem.F.slot_list_append PySem.F.type_list_append mt_append ok_app (pv 5) (pac (pcall c h__law_take (pac (pv 0) (pac (pv 1) pa0))) pa0))))) (ssc (sset (i := 7) c.nd rfl (by first | exact .inl rfl | exact .inr rfl) (pcall c h__law_take (pac (pv 0) (pac (pv 4) pa0)))) (ssc (sset (i := 5) c.nd rfl (by first | exact .inl rfl | exact .inr rfl) (pbin op_addA ok_add (psl (pv 5) (po1 (pv 7)) po0) (psl (pv 5) po0 (po1 (pv 7))))) (ssc (sset (i := 8) c.nd rfl (by first | exact .inl rfl | exact .inr rfl) (pcall c h__law_copies (pac (pv 0) (pac (pv 2) (pac (pv 5) (pac (pv 3) pa0)))))) (ssc (sif (ptcmp (op_eqA c.hu) ok_eq (pv 3) pint (by rfl)) (ssc (ssetLc (own := [("k", 9)]) (i := 8) c rfl rfl (sw_true rfl rfl rfl (by decide +kernel)) (pir1 rfl Z.b_range (pac pint pa0)) ⟨blk_of N__law_over (defScope s__law_over) rfl rfl ⟨rfl, by decide +kernel, by decide +kernel, by decide +kernel, by decide +kernel⟩, by decide, fun s H C cl fp => g1 9 (by exact c.nd), fun s H C cl fp c => pts0, fun s H C cl fp c => (pcall c h__law_way (pac (pv 0) (pac (pv 4) pa0)))⟩) (ss1 (ssetLc (own := [("x", 6)]) (i := 5) c rfl rfl (sw_true rfl rfl rfl (by decide +kernel)) (pir1 rfl Z.b_range (pac (pv 4) pa0)) ⟨blk_of N__law_over (defScope s__law_over) rfl rfl ⟨rfl, by decide +kernel, by decide +kernel, by decide +kernel, by decide +kernel⟩, by decide, fun s H C cl fp => g1 6 (by exact c.nd), fun s H C cl fp c => pts0, fun s H C cl fp c => (pcall c h__law_take (pac (pv 0) (pac (pv 1) pa0)))⟩))) ss0) (ss1 (sret (ptup (pac (pv 5) (pac (ptup (pac (pv 4) (pac (pv 8) pa0))) pa0)))))))))))))) pure_
abbrev s__law_frame : Stmt := topS 57
theorem sc__law_frame : FnScope N__law_frame ["world"] (defScope s__law_frame) := ⟨rfl, rfl, rfl, by decide +kernel, rfl, by decide +kernel, by decide +kernel⟩
theorem w__law_frame {P : Program} {w : World} {K : PySem.W.Frag} {mg : Str → Option Value} {base : Heap} {f : Addr} {fd : FuncData} {dvs : List V} {kws : List (Str × V)} (Z : Fc P K mg) (h_Frame : HasC P w K mg base 4 "Frame" (He.ga K "Frame") ["self", "size", "a", "b", "c"] (sp_Frame___init__ K))
    (F : FunD K "_law_frame" "_law_frame" (defArgs s__law_frame) (defBody s__law_frame) (defScope s__law_frame) dvs kws f fd) (len : ∀ {ds M Qd Xd}, sp__law_frame K ds M Qd Xd → ds.length = 1)
    (pure_ : ∀ {ds M Qd Xd}, sp__law_frame K ds M Qd Xd → t__law_frame K (outD Qd Xd) (startD N__law_frame ds) M) : FnD P w K mg base 6 f fd ["world"] (sp__law_frame K) :=
  fn_data F sc__law_frame len (fun cdv A outer s H E c => (ss1 (sret (pnew c h_Frame (pac (pix ix_seq ok_ix (pv 0) pint (fun _ _ => rfl)) (pac (pix ix_seq ok_ix (pix ix_seq ok_ix (pv 0) pint (fun _ _ => rfl)) pint (fun _ _ => rfl)) (pac (pix ix_seq ok_ix (pix ix_seq ok_ix (pv 0) pint (fun _ _ => rfl)) pint (fun _ _ => rfl)) (pac (pix ix_seq ok_ix (pix ix_seq ok_ix (pv 0) pint (fun _ _ => rfl)) pint (fun _ _ => rfl)) pa0)))))))) pure_
abbrev s__law_asked : Stmt := topS 58
theorem sc__law_asked : FnScope N__law_asked ["source", "target", "f"] (defScope s__law_asked) := ⟨rfl, rfl, rfl, by decide +kernel, rfl, by decide +kernel, by decide +kernel⟩
theorem w__law_asked {P : Program} {w : World} {K : PySem.W.Frag} {mg : Str → Option Value} {base : Heap} {f : Addr} {fd : FuncData} {dvs : List V} {kws : List (Str × V)} (Z : Fc P K mg) (h__law_frame : Has P w K mg base 6 "_law_frame" ["world"] (sp__law_frame K)) (h__law_table : Has P w K mg base 1 "_law_table" ["size", "steps"] (sp__law_table K)) (h__law_fault : Has P w K mg base 2 "_law_fault" ["one", "two", "f", "kind"] (sp__law_fault K)) (h__law_same : Has P w K mg base 1 "_law_same" ["told", "due"] (sp__law_same K)) (h_led_fault : Has P w K mg base 6 "led_fault" ["first", "second", "images", "kind"] (sp_led_fault K)) (h_is_led : Has P w K mg base 6 "is_led" ["first", "second", "images", "kind"] (sp_is_led K))
    (F : FunD K "_law_asked" "_law_asked" (defArgs s__law_asked) (defBody s__law_asked) (defScope s__law_asked) dvs kws f fd) (len : ∀ {ds M Qd Xd}, sp__law_asked K ds M Qd Xd → ds.length = 3)
    (pure_ : ∀ {ds M Qd Xd}, sp__law_asked K ds M Qd Xd → t__law_asked K (outD Qd Xd) (startD N__law_asked ds) M) : FnD P w K mg base 7 f fd ["source", "target", "f"] (sp__law_asked K) :=
  fn_data F sc__law_asked len (fun cdv A outer s H E c => (ssc (sset (i := 3) c.nd rfl (by first | exact .inl rfl | exact .inr rfl) (pcall c h__law_frame (pac (pv 0) pa0))) (ssc (sset (i := 4) c.nd rfl (by first | exact .inl rfl | exact .inr rfl) (pcall c h__law_frame (pac (pv 1) pa0))) (ssc (sset (i := 5) c.nd rfl (by first | exact .inl rfl | exact .inr rfl) (pcall c h__law_table (pac (pix ix_seq ok_ix (pv 0) pint (fun _ _ => rfl)) (pac (pix ix_seq ok_ix (pv 0) pint (fun _ _ => rfl)) pa0)))) (ssc (sset (i := 6) c.nd rfl (by first | exact .inl rfl | exact .inr rfl) (pcall c h__law_table (pac (pix ix_seq ok_ix (pv 1) pint (fun _ _ => rfl)) (pac (pix ix_seq ok_ix (pv 1) pint (fun _ _ => rfl)) pa0)))) (ssc (sfor c.hp c.calm (pis (plst (pac pstr (pac pstr (pac pstr (pac pstr (pac pstr pa0))))))) (gname (i := 7) c.nd rfl (by first | exact .inl rfl | exact .inr rfl)) (ssc (sset (i := 8) c.nd rfl (by first | exact .inl rfl | exact .inr rfl) (pbty call_list_of ok_listF Z.b_list (pac (pv 2) pa0))) (ssc (sset (i := 9) c.nd rfl (by first | exact .inl rfl | exact .inr rfl) (pcall c h__law_fault (pac (pv 5) (pac (pv 6) (pac (pv 2) (pac (pv 7) pa0)))))) (ssc (sif (ptnot (pttru (pcall c h__law_same (pac (pcall c h_led_fault (pac (pv 3) (pac (pv 4) (pac (pv 8) (pac (pv 7) pa0))))) (pac (pv 9) pa0))))) (ss1 (sret pbl)) ss0) (ssc (sif (ptnot (pttru (pcall c h__law_same (pac (pcall c h_is_led (pac (pv 3) (pac (pv 4) (pac (pbty call_tuple_x ok_tupleM Z.b_tuple (pac (pv 2) pa0)) (pac (pv 7) pa0))))) (pac (pcmp op_isA ok_is (pv 9) pnon (by rfl)) pa0))))) (ss1 (sret pbl)) ss0) (ss1 (sif (ptcmp (op_neA c.hu) ok_ne (pv 8) (pv 2) (by rfl)) (ss1 (sret pbl)) ss0))))))) (ss1 (sret pbl)))))))) pure_
abbrev s__law_told : Stmt := topS 59
theorem sc__law_told : FnScope N__law_told ["e", "at"] (defScope s__law_told) := ⟨rfl, rfl, rfl, by decide +kernel, rfl, by decide +kernel, by decide +kernel⟩
theorem wh__law_told {P : Program} {w : World} {K : PySem.W.Frag} {mg : Str → Option Value} {base : Heap} {f : Addr} {fd : FuncData} {dvs : List V} {kws : List (Str × V)} (Z : Fc P K mg) (hh__law_same : HasX P w K mg base 1 "_law_same" ["told", "due"] (spx__law_same K))
    (F : FunD K "_law_told" "_law_told" (defArgs s__law_told) (defBody s__law_told) (defScope s__law_told) dvs kws f fd) (len : ∀ {a cls d ds M Qd Xd}, spx__law_told K a cls d ds M Qd Xd → ds.length = 2)
    (pure_ : ∀ {a cls d ds M Qd Xd}, spx__law_told K a cls d ds M Qd Xd → t__law_told K a cls d (outD Qd X0) (startD N__law_told ds) M) : FnX P w K mg base 2 f fd ["e", "at"] (spx__law_told K) :=
  fn_dataX (td := fun a cls d => t__law_told K a cls d) F sc__law_told len (fun cdv A outer s H E p cls d c => (ssc (sif (PW.pt (pwor (ptnot (pttru (pisXX c (fun C k => Z.isx C k) Z.b_isinstance (pac (pv 0) (pac (pgl Z.g_BadMap) pa0))))) (pwor1 (ptnot (pttru (pisXX c (fun C k => Z.isx C k) Z.b_isinstance (pac (pv 0) (pac (pety Z.b_ValueError) pa0)))))))) (ss1 (sret pbl)) ss0) (ssc (sif (pttru (pisXX c (fun C k => Z.isx C k) Z.b_isinstance (pac (pv 0) (pac (ptup (pac (pgl Z.g_Apart) (pac (pgl Z.g_BadCount) (pac (pgl Z.g_BadPlace) (pac (pgl Z.g_BadSize) (pac (pgl Z.g_BadWord) (pac (pgl Z.g_TooLarge) (pac (pgl Z.g_TooWide) pa0)))))))) pa0)))) (ss1 (sret pbl)) ss0) (ss1 (sret (pcallX c hh__law_same (pac (pxf c (fun C k => Z.xf_at C k) (pv 0)) (pac (pv 1) pa0)))))))) pure_
abbrev s__law_refused : Stmt := topS 60
theorem sc__law_refused : FnScope N__law_refused ["first", "second", "f", "kind", "at"] (defScope s__law_refused) := ⟨rfl, rfl, rfl, by decide +kernel, rfl, by decide +kernel, by decide +kernel⟩
theorem w__law_refused {P : Program} {w : World} {K : PySem.W.Frag} {mg : Str → Option Value} {base : Heap} {f : Addr} {fd : FuncData} {dvs : List V} {kws : List (Str × V)} (Z : Fc P K mg) (h_led_fault : Has P w K mg base 6 "led_fault" ["first", "second", "images", "kind"] (sp_led_fault K)) (hh__law_told : HasX P w K mg base 2 "_law_told" ["e", "at"] (spx__law_told K)) (h_is_led : Has P w K mg base 6 "is_led" ["first", "second", "images", "kind"] (sp_is_led K))
    (F : FunD K "_law_refused" "_law_refused" (defArgs s__law_refused) (defBody s__law_refused) (defScope s__law_refused) dvs kws f fd) (len : ∀ {ds M Qd Xd}, sp__law_refused K ds M Qd Xd → ds.length = 5)
    (pure_ : ∀ {ds M Qd Xd}, sp__law_refused K ds M Qd Xd → t__law_refused K (outD Qd Xd) (startD N__law_refused ds) M) : FnD P w K mg base 7 f fd ["first", "second", "f", "kind", "at"] (sp__law_refused K) :=
  fn_data F sc__law_refused len (fun cdv A outer s H E c => (ssc (sset (i := 5) c.nd rfl (by first | exact .inl rfl | exact .inr rfl) (pbty call_list_of ok_listF Z.b_list (pac (pv 2) pa0))) (ssc (sset (i := 6) c.nd rfl (by first | exact .inl rfl | exact .inr rfl) pint) (ssc (stry c rfl rfl (fun W' pn xe c => (ss1 (sexpr (pcall c h_led_fault (pac (pv 0) (pac (pv 1) (pac (pv 5) (pac (pv 3) pa0)))))))) (.named (by exact ⟨rfl, by decide, .inl Z.n_SayError⟩) (i := 7) rfl rfl (fun a oe cls d pn hz hf hot => (have c := hotx_suite (pn := pn) c hz hf; (ss1 (sset (i := 6) c.nd rfl (by first | exact .inl rfl | exact .inr rfl) (pbin op_addA ok_add (pv 6) (pbty call_int1 ok_int Z.b_int (pac (pcallX c hh__law_told (pac (pv 7) (pac (pv 4) pa0))) pa0))))))) ClasD.nil)) (ssc (stry c rfl rfl (fun W' pn xe c => (ss1 (sexpr (pcall c h_is_led (pac (pv 0) (pac (pv 1) (pac (pv 5) (pac (pv 3) pa0)))))))) (.named (by exact ⟨rfl, by decide, .inl Z.n_SayError⟩) (i := 7) rfl rfl (fun a oe cls d pn hz hf hot => (have c := hotx_suite (pn := pn) c hz hf; (ss1 (sset (i := 6) c.nd rfl (by first | exact .inl rfl | exact .inr rfl) (pbin op_addA ok_add (pv 6) (pbty call_int1 ok_int Z.b_int (pac (pcallX c hh__law_told (pac (pv 7) (pac (pv 4) pa0))) pa0))))))) ClasD.nil)) (ss1 (sret (pand (pcmp (op_eqA c.hu) ok_eq (pv 6) pint (by rfl)) (pone (pcmp (op_eqA c.hu) ok_eq (pv 5) (pv 2) (by rfl))))))))))) pure_
abbrev s__law_wrong_maps : Stmt := topS 61
theorem sc__law_wrong_maps : FnScope N__law_wrong_maps ["st", "source", "target", "f"] (defScope s__law_wrong_maps) := ⟨rfl, rfl, rfl, by decide +kernel, rfl, by decide +kernel, by decide +kernel⟩
theorem w__law_wrong_maps {P : Program} {w : World} {K : PySem.W.Frag} {mg : Str → Option Value} {base : Heap} {f : Addr} {fd : FuncData} {dvs : List V} {kws : List (Str × V)} (Z : Fc P K mg) (h__law_take : Has P w K mg base 1 "_law_take" ["st", "many"] (sp__law_take K)) (h__law_refused : Has P w K mg base 7 "_law_refused" ["first", "second", "f", "kind", "at"] (sp__law_refused K)) (h__law_frame : Has P w K mg base 6 "_law_frame" ["world"] (sp__law_frame K))
    (F : FunD K "_law_wrong_maps" "_law_wrong_maps" (defArgs s__law_wrong_maps) (defBody s__law_wrong_maps) (defScope s__law_wrong_maps) dvs kws f fd) (len : ∀ {ds M Qd Xd}, sp__law_wrong_maps K ds M Qd Xd → ds.length = 4)
    (pure_ : ∀ {ds M Qd Xd}, sp__law_wrong_maps K ds M Qd Xd → t__law_wrong_maps K (outD Qd Xd) (startD N__law_wrong_maps ds) M) : FnD P w K mg base 8 f fd ["st", "source", "target", "f"] (sp__law_wrong_maps K) :=
  fn_data F sc__law_wrong_maps len (fun cdv A outer s H E c => (ssc (sset (i := 4) c.nd rfl (by first | exact .inl rfl | exact .inr rfl) (pix ix_seq ok_ix (pv 1) pint (fun _ _ => rfl))) (ssc (sset (i := 5) c.nd rfl (by first | exact .inl rfl | exact .inr rfl) (pix ix_seq ok_ix (pv 2) pint (fun _ _ => rfl))) (ssc (sset (i := 6) c.nd rfl (by first | exact .inl rfl | exact .inr rfl) (pix ix_seq ok_ix (plst (pac pstr (pac pstr (pac pstr (pac pstr (pac pstr pa0)))))) (pcall c h__law_take (pac (pv 0) (pac pint pa0))) (fun _ _ => rfl))) (ssc (sset (i := 7) c.nd rfl (by first | exact .inl rfl | exact .inr rfl) (pcall c h__law_take (pac (pv 0) (pac (pv 4) pa0)))) (ssc (ssetLc (own := [("x", 9)]) (i := 8) c rfl rfl (sw_true rfl rfl rfl (by decide +kernel)) (pir1 rfl Z.b_range (pac (pbin op_sub (ok_i2 fun _ _ _ => .int _) (pv 4) (pv 7)) pa0)) ⟨blk_of N__law_wrong_maps (defScope s__law_wrong_maps) rfl rfl ⟨rfl, by decide +kernel, by decide +kernel, by decide +kernel, by decide +kernel⟩, by decide, fun s H C cl fp => g1 9 (by exact c.nd), fun s H C cl fp c => pts0, fun s H C cl fp c => (pix ix_seq ok_ix (plst (pac (pv 5) (pac (punop un_neg ok_neg pint) pa0))) (pcall c h__law_take (pac (pv 0) (pac pint pa0))) (fun _ _ => rfl))⟩) (ssc (sset (i := 10) c.nd rfl (by first | exact .inl rfl | exact .inr rfl) (plstM (pac (ptup (pac (pbin op_addA ok_add (pv 3) (plst (pac pint pa0))) (pac (pbin op_addA ok_add (pv 4) pint) pa0))) (pac (ptup (pac (pbin op_addA ok_add (pv 3) (plst (pac (pv 5) pa0))) (pac (pbin op_addA ok_add (pv 4) pint) pa0))) pa0)))) (ssc (sexpr (pbm PySem.F.plainAttrs_list PySem.F.slot_list_append PySem.F.type_list_append mt_append ok_app (pv 10) (pac (ptup (pac (psl (pv 3) po0 (po1 (punop un_neg ok_neg pint))) (pac (pbin op_sub (ok_i2 fun _ _ _ => .int _) (pv 4) pint) pa0))) pa0))) (ssc (sexpr (pbm PySem.F.plainAttrs_list PySem.F.slot_list_append PySem.F.type_list_append mt_append ok_app (pv 10) (pac (ptup (pac (pbin op_addA ok_add (psl (pv 3) po0 (po1 (pv 7))) (pv 8)) (pac (pv 7) pa0))) pa0))) (ssc (sexpr (pbm PySem.F.plainAttrs_list PySem.F.slot_list_append PySem.F.type_list_append mt_append ok_app (pv 10) (pac (ptup (pac (pbin op_addA ok_add (pbin op_addA ok_add (psl (pv 3) po0 (po1 (pv 7))) (plst (pac (pv 5) pa0))) (psl (pv 3) (po1 (pbin op_addA ok_add (pv 7) pint)) po0)) (pac (pv 7) pa0))) pa0))) (ssc (sexpr (pbm PySem.F.plainAttrs_list PySem.F.slot_list_append PySem.F.type_list_append mt_append ok_app (pv 10) (pac (ptup (pac (pbin op_addA ok_add (pbin op_addA ok_add (psl (pv 3) po0 (po1 (pv 7))) (plst (pac (punop un_neg ok_neg pint) pa0))) (psl (pv 3) (po1 (pbin op_addA ok_add (pv 7) pint)) po0)) (pac (pv 7) pa0))) pa0))) (ssc (sfor c.hp c.calm (pis (pv 10)) (gtup c.calm (gcons (W := W0) (gname (i := 11) c.nd rfl (by first | exact .inl rfl | exact .inr rfl)) (gcons (W := W0) (gname (i := 12) c.nd rfl (by first | exact .inl rfl | exact .inr rfl)) gnil))) (ss1 (sif (ptnot (pttru (pcall c h__law_refused (pac (pcall c h__law_frame (pac (pv 1) pa0)) (pac (pcall c h__law_frame (pac (pv 2) pa0)) (pac (pv 11) (pac (pv 6) (pac (pv 12) pa0)))))))) (ss1 (sret pbl)) ss0))) (ss1 (sret pbl)))))))))))))) pure_
abbrev s__law_told_pairs : Stmt := topS 62
theorem sc__law_told_pairs : FnScope N__law_told_pairs [] (defScope s__law_told_pairs) := ⟨rfl, rfl, rfl, by decide +kernel, rfl, by decide +kernel, by decide +kernel⟩
theorem w__law_told_pairs {P : Program} {w : World} {K : PySem.W.Frag} {mg : Str → Option Value} {base : Heap} {f : Addr} {fd : FuncData} {dvs : List V} {kws : List (Str × V)} (Z : Fc P K mg) (h__law_asked : Has P w K mg base 7 "_law_asked" ["source", "target", "f"] (sp__law_asked K))
    (F : FunD K "_law_told_pairs" "_law_told_pairs" (defArgs s__law_told_pairs) (defBody s__law_told_pairs) (defScope s__law_told_pairs) dvs kws f fd) (len : ∀ {ds M Qd Xd}, sp__law_told_pairs K ds M Qd Xd → ds.length = 0)
    (pure_ : ∀ {ds M Qd Xd}, sp__law_told_pairs K ds M Qd Xd → t__law_told_pairs K (outD Qd Xd) (startD N__law_told_pairs ds) M) : FnD P w K mg base 8 f fd [] (sp__law_told_pairs K) :=
  fn_data F sc__law_told_pairs len (fun cdv A outer s H E c => (ssc (sset (i := 0) c.nd rfl (by first | exact .inl rfl | exact .inr rfl) (plst (pac (plst pa0) (pac (plst pa0) (pac (plst pa0) pa0))))) (ssc (sif (ptnot (pttru (pcall c h__law_asked (pac (ptup (pac pint (pac (pv 0) pa0))) (pac (ptup (pac pint (pac (pv 0) pa0))) (pac (plst (pac pint pa0)) pa0)))))) (ss1 (sret pbl)) ss0) (ssc (sif (ptnot (pttru (pcall c h__law_asked (pac (ptup (pac pint (pac (pv 0) pa0))) (pac (ptup (pac pint (pac (pv 0) pa0))) (pac (plst (pac pint (pac pint pa0))) pa0)))))) (ss1 (sret pbl)) ss0) (ssc (sset (i := 1) c.nd rfl (by first | exact .inl rfl | exact .inr rfl) (plst (pac (plst (pac (ptup (pac pint (pac pint pa0))) (pac (ptup (pac pint (pac pint pa0))) pa0))) (pac (plst pa0) (pac (plst pa0) pa0))))) (ss1 (sret (pcall c h__law_asked (pac (ptup (pac pint (pac (pv 1) pa0))) (pac (ptup (pac pint (pac (plst (pac (plst (pac (ptup (pac pint (pac pint pa0))) pa0)) (pac (plst pa0) (pac (plst pa0) pa0)))) pa0))) (pac (plst (pac pint (pac pint (pac pint pa0)))) pa0))))))))))) pure_
abbrev s__law_rings : Stmt := topS 63
theorem sc__law_rings : FnScope N__law_rings ["st"] (defScope s__law_rings) := ⟨rfl, rfl, rfl, by decide +kernel, rfl, by decide +kernel, by decide +kernel⟩
theorem w__law_rings {P : Program} {w : World} {K : PySem.W.Frag} {mg : Str → Option Value} {base : Heap} {f : Addr} {fd : FuncData} {dvs : List V} {kws : List (Str × V)} (Z : Fc P K mg) (h__law_take : Has P w K mg base 1 "_law_take" ["st", "many"] (sp__law_take K)) (h__law_asked : Has P w K mg base 7 "_law_asked" ["source", "target", "f"] (sp__law_asked K))
    (F : FunD K "_law_rings" "_law_rings" (defArgs s__law_rings) (defBody s__law_rings) (defScope s__law_rings) dvs kws f fd) (len : ∀ {ds M Qd Xd}, sp__law_rings K ds M Qd Xd → ds.length = 1)
    (pure_ : ∀ {ds M Qd Xd}, sp__law_rings K ds M Qd Xd → t__law_rings K (outD Qd Xd) (startD N__law_rings ds) M) : FnD P w K mg base 8 f fd ["st"] (sp__law_rings K) :=
  fn_data F sc__law_rings len (fun cdv A outer s H E c => (ssc (sset (i := 1) c.nd rfl (by first | exact .inl rfl | exact .inr rfl) (pbin op_addA ok_add pint (pcall c h__law_take (pac (pv 0) (pac pint pa0))))) (ssc (sset (i := 2) c.nd rfl (by first | exact .inl rfl | exact .inr rfl) (pbin op_mulA ok_mul (pv 1) (pbin op_addA ok_add pint (pcall c h__law_take (pac (pv 0) (pac (pbin op_fdiv (ok_i2c fun _ _ _ => .int _) pint (pv 1)) pa0)))))) (ssc (sset (i := 3) c.nd rfl (by first | exact .inl rfl | exact .inr rfl) (plst (pac (plcF (own := [("x", 4)]) c (pir1 rfl Z.b_range (pac (pv 1) pa0)) ⟨blk_of N__law_rings (defScope s__law_rings) rfl rfl ⟨rfl, by decide +kernel, by decide +kernel, by decide +kernel, by decide +kernel⟩, by decide, fun s H C cl fp => g1 4 (by exact c.nd), fun s H C cl fp c => pts0, fun s H C cl fp c => (ptup (pac (pv 4) (pac (pbin op_mod (ok_i2c fun _ _ _ => .int _) (pbty call_int1 ok_int Z.b_int (pac (pbin op_addA ok_add (pv 4) pint) pa0)) (pv 1)) pa0)))⟩) (pac (plst pa0) (pac (plst pa0) pa0))))) (ssc (sset (i := 5) c.nd rfl (by first | exact .inl rfl | exact .inr rfl) (plst (pac (plcF (own := [("x", 4)]) c (pir1 rfl Z.b_range (pac (pv 2) pa0)) ⟨blk_of N__law_rings (defScope s__law_rings) rfl rfl ⟨rfl, by decide +kernel, by decide +kernel, by decide +kernel, by decide +kernel⟩, by decide, fun s H C cl fp => g1 4 (by exact c.nd), fun s H C cl fp c => pts0, fun s H C cl fp c => (ptup (pac (pv 4) (pac (pbin op_mod (ok_i2c fun _ _ _ => .int _) (pbty call_int1 ok_int Z.b_int (pac (pbin op_addA ok_add (pv 4) pint) pa0)) (pv 2)) pa0)))⟩) (pac (plst pa0) (pac (plst pa0) pa0))))) (ssc (ssetLcM (own := [("x", 4)]) (i := 6) c rfl rfl (sw_true rfl rfl rfl (by decide +kernel)) (pir1 rfl Z.b_range (pac (pv 2) pa0)) ⟨blk_of N__law_rings (defScope s__law_rings) rfl rfl ⟨rfl, by decide +kernel, by decide +kernel, by decide +kernel, by decide +kernel⟩, by decide, fun s H C cl fp => g1 4 (by exact c.nd), fun s H C cl fp c => pts0, fun s H C cl fp c => (pbin op_mod (ok_i2c fun _ _ _ => .int _) (pbty call_int1 ok_int Z.b_int (pac (pv 4) pa0)) (pv 1))⟩) (ssc (sif (ptnot (pttru (pcall c h__law_asked (pac (ptup (pac (pv 2) (pac (pv 5) pa0))) (pac (ptup (pac (pv 1) (pac (pv 3) pa0))) (pac (pv 6) pa0)))))) (ss1 (sret pbl)) ss0) (ssc (sset (i := 7) c.nd rfl (by first | exact .inl rfl | exact .inr rfl) (pcall c h__law_take (pac (pv 0) (pac (pv 2) pa0)))) (ssc (sasg (pcall c h__law_take (pac (pv 0) (pac (pv 1) pa0))) (gsub (pv 6) (pv 7))) (ss1 (sret (pcall c h__law_asked (pac (ptup (pac (pv 2) (pac (pv 5) pa0))) (pac (ptup (pac (pv 1) (pac (pv 3) pa0))) (pac (pv 6) pa0))))))))))))))) pure_
abbrev s__law_renumbered : Stmt := topS 64
theorem sc__law_renumbered : FnScope N__law_renumbered ["st", "source"] (defScope s__law_renumbered) := ⟨rfl, rfl, rfl, by decide +kernel, rfl, by decide +kernel, by decide +kernel⟩
theorem w__law_renumbered {P : Program} {w : World} {K : PySem.W.Frag} {mg : Str → Option Value} {base : Heap} {f : Addr} {fd : FuncData} {dvs : List V} {kws : List (Str × V)} (Z : Fc P K mg) (h__law_take : Has P w K mg base 1 "_law_take" ["st", "many"] (sp__law_take K))
    (F : FunD K "_law_renumbered" "_law_renumbered" (defArgs s__law_renumbered) (defBody s__law_renumbered) (defScope s__law_renumbered) dvs kws f fd) (len : ∀ {ds M Qd Xd}, sp__law_renumbered K ds M Qd Xd → ds.length = 2)
    (pure_ : ∀ {ds M Qd Xd}, sp__law_renumbered K ds M Qd Xd → t__law_renumbered K (outD Qd Xd) (startD N__law_renumbered ds) M) : FnD P w K mg base 2 f fd ["st", "source"] (sp__law_renumbered K) :=
  fn_data F sc__law_renumbered len (fun cdv A outer s H E c => (ssc (sset (i := 2) c.nd rfl (by first | exact .inl rfl | exact .inr rfl) (plstM pa0)) (ssc (sfor c.hp c.calm (pir1 rfl Z.b_range (pac (pix ix_seq ok_ix (pv 1) pint (fun _ _ => rfl)) pa0)) (gname (i := 3) c.nd rfl (by first | exact .inl rfl | exact .inr rfl)) (ss1 (sexpr (pbm PySem.F.plainAttrs_list PySem.F.slot_list_insert PySem.F.type_list_insert mt_insert ok_ins (pv 2) (pac (pcall c h__law_take (pac (pv 0) (pac (pbin op_addA ok_add (pv 3) pint) pa0))) (pac (pv 3) pa0)))))) (ssc (sset (i := 4) c.nd rfl (by first | exact .inl rfl | exact .inr rfl) (plstM pa0)) (ssc (sfor c.hp c.calm (pis (pix ix_seq ok_ix (pv 1) pint (fun _ _ => rfl))) (gname (i := 5) c.nd rfl (by first | exact .inl rfl | exact .inr rfl)) (ssc (ssetLc (own := [("x", 3), ("y", 7)]) (i := 6) c rfl rfl (sw_true rfl rfl rfl (by decide +kernel)) (pis (pv 5)) ⟨blk_of N__law_renumbered (defScope s__law_renumbered) rfl rfl ⟨rfl, by decide +kernel, by decide +kernel, by decide +kernel, by decide +kernel⟩, by decide, fun s H C cl fp => g2 3 7 (by exact c.calm) (by exact c.nd), fun s H C cl fp c => pts0, fun s H C cl fp c => (ptup (pac (pidx (pv 2) (pv 3)) (pac (pidx (pv 2) (pv 7)) pa0)))⟩) (ss1 (sexpr (pbm PySem.F.plainAttrs_list PySem.F.slot_list_append PySem.F.type_list_append mt_append ok_app (pv 4) (pac (pblt (cr_sortT (by decide)) ok_sortP Z.b_sorted (pac (pv 6) pa0)) pa0)))))) (ssc (ssetLc (own := [("x", 3)]) (i := 8) c rfl rfl (sw_true rfl rfl rfl (by decide +kernel)) (pir1 rfl Z.b_range (pac (pix ix_seq ok_ix (pv 1) pint (fun _ _ => rfl)) pa0)) ⟨blk_of N__law_renumbered (defScope s__law_renumbered) rfl rfl ⟨rfl, by decide +kernel, by decide +kernel, by decide +kernel, by decide +kernel⟩, by decide, fun s H C cl fp => g1 3 (by exact c.nd), fun s H C cl fp c => pts0, fun s H C cl fp c => (pidx (pv 2) (pv 3))⟩) (ss1 (sret (ptup (pac (pv 8) (pac (ptup (pac (pix ix_seq ok_ix (pv 1) pint (fun _ _ => rfl)) (pac (pv 4) pa0))) pa0))))))))))) pure_
abbrev s_law : Stmt := topS 65
theorem sc_law : FnScope N_law ["script"] (defScope s_law) := ⟨rfl, rfl, rfl, by decide +kernel, rfl, by decide +kernel, by decide +kernel⟩
theorem w_law {P : Program} {w : World} {K : PySem.W.Frag} {mg : Str → Option Value} {base : Heap} {f : Addr} {fd : FuncData} {dvs : List V} {kws : List (Str × V)} (Z : Fc P K mg) (h__law_state : Has P w K mg base 1 "_law_state" ["script"] (sp__law_state K)) (h__law_take : Has P w K mg base 1 "_law_take" ["st", "many"] (sp__law_take K)) (h__law_way : Has P w K mg base 2 "_law_way" ["st", "size"] (sp__law_way K)) (h__law_over : Has P w K mg base 3 "_law_over" ["st", "goals", "steps"] (sp__law_over K)) (h__law_renumbered : Has P w K mg base 2 "_law_renumbered" ["st", "source"] (sp__law_renumbered K)) (h__law_asked : Has P w K mg base 7 "_law_asked" ["source", "target", "f"] (sp__law_asked K)) (h__law_told_pairs : Has P w K mg base 8 "_law_told_pairs" [] (sp__law_told_pairs K)) (h__law_wrong_maps : Has P w K mg base 8 "_law_wrong_maps" ["st", "source", "target", "f"] (sp__law_wrong_maps K)) (h__law_rings : Has P w K mg base 8 "_law_rings" ["st"] (sp__law_rings K))
    (F : FunD K "law" "law" (defArgs s_law) (defBody s_law) (defScope s_law) dvs kws f fd) (len : ∀ {ds M Qd Xd}, sp_law K ds M Qd Xd → ds.length = 1)
    (pure_ : ∀ {ds M Qd Xd}, sp_law K ds M Qd Xd → t_law K (outD Qd Xd) (startD N_law ds) M) : FnD P w K mg base 9 f fd ["script"] (sp_law K) :=
  fn_data F sc_law len (fun cdv A outer s H E c => (ssc (sset (i := 1) c.nd rfl (by first | exact .inl rfl | exact .inr rfl) (pcall c h__law_state (pac (pv 0) pa0))) (ssc (sset (i := 2) c.nd rfl (by first | exact .inl rfl | exact .inr rfl) (pbin op_addA ok_add pint (pcall c h__law_take (pac (pv 1) (pac pint pa0))))) (ssc (sset (i := 3) c.nd rfl (by first | exact .inl rfl | exact .inr rfl) (pcall c h__law_take (pac (pv 1) (pac pint pa0)))) (ssc (sset (i := 4) c.nd rfl (by first | exact .inl rfl | exact .inr rfl) (ptup (pac (pv 2) (pac (plcF (own := [("k", 5)]) c (pir1 rfl Z.b_range (pac pint pa0)) ⟨blk_of N_law (defScope s_law) rfl rfl ⟨rfl, by decide +kernel, by decide +kernel, by decide +kernel, by decide +kernel⟩, by decide, fun s H C cl fp => g1 5 (by exact c.nd), fun s H C cl fp c => pts0, fun s H C cl fp c => (pcall c h__law_way (pac (pv 1) (pac (pv 2) pa0)))⟩) pa0)))) (ssc (sasg (pcall c h__law_over (pac (pv 1) (pac (pv 2) (pac (pix ix_seq ok_ix (pv 4) pint (fun _ _ => rfl)) pa0)))) (gtup c.calm (gcons (W := W0) (gname (i := 6) c.nd rfl (by first | exact .inl rfl | exact .inr rfl)) (gcons (W := W0) (gname (i := 7) c.nd rfl (by first | exact .inl rfl | exact .inr rfl)) gnil)))) (ssc (sasg (pcall c h__law_renumbered (pac (pv 1) (pac (pv 7) pa0))) (gtup c.calm (gcons (W := W0) (gname (i := 8) c.nd rfl (by first | exact .inl rfl | exact .inr rfl)) (gcons (W := W0) (gname (i := 9) c.nd rfl (by first | exact .inl rfl | exact .inr rfl)) gnil)))) (ssc (sif (PW.pt (pwor (ptnot (pttru (pcall c h__law_asked (pac (pv 7) (pac (pv 4) (pac (pv 6) pa0)))))) (pwor1 (ptnot (pttru (pcall c h__law_asked (pac (pv 7) (pac (pv 9) (pac (pv 8) pa0))))))))) (ss1 (sret pbl)) ss0) (ssc (sset (i := 10) c.nd rfl (by first | exact .inl rfl | exact .inr rfl) (pcall c h__law_take (pac (pv 1) (pac (pix ix_seq ok_ix (pv 7) pint (fun _ _ => rfl)) pa0)))) (ssc (sset (i := 11) c.nd rfl (by first | exact .inl rfl | exact .inr rfl) (pbin op_addA ok_add (pbin op_addA ok_add (psl (pv 6) po0 (po1 (pv 10))) (plst (pac (pcall c h__law_take (pac (pv 1) (pac (pv 2) pa0))) pa0))) (psl (pv 6) (po1 (pbin op_addA ok_add (pv 10) pint)) po0))) (ssc (sset (i := 12) c.nd rfl (by first | exact .inl rfl | exact .inr rfl) (pbin op_addA ok_add (pbin op_addA ok_add (psl (pv 8) po0 (po1 (pv 10))) (plst (pac (pcall c h__law_take (pac (pv 1) (pac (pix ix_seq ok_ix (pv 7) pint (fun _ _ => rfl)) pa0))) pa0))) (psl (pv 8) (po1 (pbin op_addA ok_add (pv 10) pint)) po0))) (ssc (sif (PW.pt (pwor (ptnot (pttru (pcall c h__law_asked (pac (pv 7) (pac (pv 4) (pac (pv 11) pa0)))))) (pwor1 (ptnot (pttru (pcall c h__law_asked (pac (pv 7) (pac (pv 9) (pac (pv 12) pa0))))))))) (ss1 (sret pbl)) ss0) (ssc (sif (PW.pt (pwor (ptnot (pttru (pcall c h__law_wrong_maps (pac (pv 1) (pac (pv 7) (pac (pv 4) (pac (pv 6) pa0))))))) (pwor1 (ptnot (pttru (pcall0 c h__law_told_pairs)))))) (ss1 (sret pbl)) ss0) (ssc (sif (PW.pt (pwand (ptcmp (op_eqA c.hu) ok_eq (pv 3) pint (by rfl)) (pwand1 (ptnot (pttru (pcall c h__law_rings (pac (pv 1) pa0))))))) (ss1 (sret pbl)) ss0) (ss1 (sret (pcall c h__law_asked (pac (pv 7) (pac (pv 4) (pac (pv 6) pa0)))))))))))))))))))) pure_
end K15
set_option maxHeartbeats 0
namespace K15
open PySem PySem.Spec PyProof.Rows L2 DL
namespace Hd
def d_is_kind : He.DefD := ⟨("is_kind", none), "is_kind", "is_kind", defArgs (topS 18), defBody (topS 18), defScope (topS 18), [], []⟩
def d_directions_of : He.DefD := ⟨("directions_of", none), "directions_of", "directions_of", defArgs (topS 19), defBody (topS 19), defScope (topS 19), [], []⟩
def d_check_kind : He.DefD := ⟨("check_kind", none), "check_kind", "check_kind", defArgs (topS 22), defBody (topS 22), defScope (topS 22), [], []⟩
def d_bits_of : He.DefD := ⟨("bits_of", none), "bits_of", "bits_of", defArgs (topS 25), defBody (topS 25), defScope (topS 25), [], []⟩
def d_Frame_mask_to : He.DefD := ⟨("Frame", some "mask_to"), "mask_to", "Frame.mask_to", defArgs (inC 5 (topS 37)), defBody (inC 5 (topS 37)), defScope (inC 5 (topS 37)), [], []⟩
def d_steps_of_led : He.DefD := ⟨("steps_of_led", none), "_steps_of", "_steps_of", defArgs (topS 31), defBody (topS 31), defScope (topS 31), [], []⟩
def d__fault_at : He.DefD := ⟨("_fault_at", none), "_fault_at", "_fault_at", defArgs (topS 33), defBody (topS 33), defScope (topS 33), [], []⟩
def d_check_map : He.DefD := ⟨("check_map", none), "check_map", "check_map", defArgs (topS 29), defBody (topS 29), defScope (topS 29), [], []⟩
def d_map_fault : He.DefD := ⟨("map_fault", none), "map_fault", "map_fault", defArgs (topS 30), defBody (topS 30), defScope (topS 30), [], []⟩
def d_led_fault : He.DefD := ⟨("led_fault", none), "led_fault", "led_fault", defArgs (topS 27), defBody (topS 27), defScope (topS 27), [], []⟩
def d_is_led : He.DefD := ⟨("is_led", none), "is_led", "is_led", defArgs (topS 28), defBody (topS 28), defScope (topS 28), [], []⟩
def d_steps_of_frames : He.DefD := ⟨("steps_of_frames", none), "_steps_of", "_steps_of", defArgs (topS 38), defBody (topS 38), defScope (topS 38), [], []⟩
def d__pairs_of : He.DefD := ⟨("_pairs_of", none), "_pairs_of", "_pairs_of", defArgs (topS 40), defBody (topS 40), defScope (topS 40), [], []⟩
def d__text_of : He.DefD := ⟨("_text_of", none), "_text_of", "_text_of", defArgs (topS 41), defBody (topS 41), defScope (topS 41), [], []⟩
def d_Frame___init__ : He.DefD := ⟨("Frame", some "__init__"), "__init__", "Frame.__init__", defArgs (inC 0 (topS 37)), defBody (inC 0 (topS 37)), defScope (inC 0 (topS 37)), [.adr (He.dflAt ("Frame", some "__init__") 0), .adr (He.dflAt ("Frame", some "__init__") 1), .adr (He.dflAt ("Frame", some "__init__") 2)], []⟩
def d__law_state : He.DefD := ⟨("_law_state", none), "_law_state", "_law_state", defArgs (topS 47), defBody (topS 47), defScope (topS 47), [], []⟩
def d__law_take : He.DefD := ⟨("_law_take", none), "_law_take", "_law_take", defArgs (topS 48), defBody (topS 48), defScope (topS 48), [], []⟩
def d__law_way : He.DefD := ⟨("_law_way", none), "_law_way", "_law_way", defArgs (topS 49), defBody (topS 49), defScope (topS 49), [], []⟩
def d__law_same : He.DefD := ⟨("_law_same", none), "_law_same", "_law_same", defArgs (topS 50), defBody (topS 50), defScope (topS 50), [], []⟩
def d__law_table : He.DefD := ⟨("_law_table", none), "_law_table", "_law_table", defArgs (topS 51), defBody (topS 51), defScope (topS 51), [], []⟩
def d__law_words : He.DefD := ⟨("_law_words", none), "_law_words", "_law_words", defArgs (topS 52), defBody (topS 52), defScope (topS 52), [], []⟩
def d__law_fault_at : He.DefD := ⟨("_law_fault_at", none), "_law_fault_at", "_law_fault_at", defArgs (topS 53), defBody (topS 53), defScope (topS 53), [], []⟩
def d__law_fault : He.DefD := ⟨("_law_fault", none), "_law_fault", "_law_fault", defArgs (topS 54), defBody (topS 54), defScope (topS 54), [], []⟩
def d__law_copies : He.DefD := ⟨("_law_copies", none), "_law_copies", "_law_copies", defArgs (topS 55), defBody (topS 55), defScope (topS 55), [], []⟩
def d__law_over : He.DefD := ⟨("_law_over", none), "_law_over", "_law_over", defArgs (topS 56), defBody (topS 56), defScope (topS 56), [], []⟩
def d__law_frame : He.DefD := ⟨("_law_frame", none), "_law_frame", "_law_frame", defArgs (topS 57), defBody (topS 57), defScope (topS 57), [], []⟩
def d__law_asked : He.DefD := ⟨("_law_asked", none), "_law_asked", "_law_asked", defArgs (topS 58), defBody (topS 58), defScope (topS 58), [], []⟩
def d__law_told : He.DefD := ⟨("_law_told", none), "_law_told", "_law_told", defArgs (topS 59), defBody (topS 59), defScope (topS 59), [], []⟩
def d__law_refused : He.DefD := ⟨("_law_refused", none), "_law_refused", "_law_refused", defArgs (topS 60), defBody (topS 60), defScope (topS 60), [], []⟩
def d__law_wrong_maps : He.DefD := ⟨("_law_wrong_maps", none), "_law_wrong_maps", "_law_wrong_maps", defArgs (topS 61), defBody (topS 61), defScope (topS 61), [], []⟩
def d__law_told_pairs : He.DefD := ⟨("_law_told_pairs", none), "_law_told_pairs", "_law_told_pairs", defArgs (topS 62), defBody (topS 62), defScope (topS 62), [], []⟩
def d__law_rings : He.DefD := ⟨("_law_rings", none), "_law_rings", "_law_rings", defArgs (topS 63), defBody (topS 63), defScope (topS 63), [], []⟩
def d__law_renumbered : He.DefD := ⟨("_law_renumbered", none), "_law_renumbered", "_law_renumbered", defArgs (topS 64), defBody (topS 64), defScope (topS 64), [], []⟩
def d_law : He.DefD := ⟨("law", none), "law", "law", defArgs (topS 65), defBody (topS 65), defScope (topS 65), [], []⟩
def e_BadMap : DLH.ErrS := ⟨"BadMap", "BadMap.__init__", defArgs (inC 0 (topS 10)), defBody (inC 0 (topS 10)), defScope (inC 0 (topS 10))⟩
def fn_0 : List He.DefD := [d_is_kind, d_directions_of, d_check_kind, d_bits_of, d_Frame_mask_to, d_steps_of_led, d__fault_at, d_check_map, d_map_fault, d_led_fault, d_is_led, d_steps_of_frames, d__pairs_of, d__text_of, d_Frame___init__, d__law_state, d__law_take, d__law_way, d__law_same, d__law_table, d__law_words, d__law_fault_at, d__law_fault, d__law_copies, d__law_over, d__law_frame, d__law_asked, d__law_told, d__law_refused, d__law_wrong_maps]
def fn_1 : List He.DefD := [d__law_told_pairs, d__law_rings, d__law_renumbered, d_law]
def fn : List He.DefD := fn_0 ++ fn_1
def fa_0 : List He.Fa := [.glo "is_kind", .glo "directions_of", .glo "check_kind", .glo "bits_of", .glo "steps_of_led", .glo "_fault_at", .glo "check_map", .glo "map_fault", .glo "led_fault", .glo "is_led", .glo "steps_of_frames", .glo "_pairs_of", .glo "_text_of", .glo "_law_state", .glo "_law_take", .glo "_law_way", .glo "_law_same", .glo "_law_table", .glo "_law_words", .glo "_law_fault_at", .glo "_law_fault", .glo "_law_copies", .glo "_law_over", .glo "_law_frame", .glo "_law_asked", .glo "_law_told", .glo "_law_refused", .glo "_law_wrong_maps", .glo "_law_told_pairs", .glo "_law_rings"]
def fa_1 : List He.Fa := [.glo "_law_renumbered", .glo "law", .glo "SayError", .glo "BadMap", .glo "Apart", .glo "BadCount", .glo "BadPlace", .glo "BadSize", .glo "BadWord", .glo "TooLarge", .glo "TooWide", .glo "Frame", .glo "WAYS", .glo "DIRECTIONS", .glo "KINDS", .free "ValueError", .free "len", .free "range", .free "int", .free "str", .free "tuple", .free "list", .free "isinstance", .free "abs", .free "repr", .free "super", .free "sorted", .free "set", .free "enumerate", .free "zip"]
def fa_2 : List He.Fa := [.int "MOST_PLACES" 130, .cls "Frame", .mkr "Frame", .noat "Frame" "size", .noat "Frame" "full_mask", .noat "Frame" "_steps", .noat "Frame" "text", .meth "Frame" "mask_to", .noat "BadMap" "at", .exm "BadMap" "SayError" true]
def fa : List He.Fa := fa_0 ++ fa_1 ++ fa_2
def es_0 : List DLH.ErrS := [e_BadMap]
def es : List DLH.ErrS := es_0
def loose_0 : List Str := ["_wall", "SayError", "BadRow", "BadWord", "BadCount", "BadSize", "BadPlace", "TooLarge", "TooWide", "BadMap", "Apart", "WAYS", "DIRECTIONS", "KINDS", "is_way", "is_direction", "is_kind", "directions_of", "check_place", "check_kind", "check_direction", "check_way", "bits_of", "led_fault", "is_led", "check_map", "map_fault", "_steps_of", "steps_of_led", "_fault_at"]
def loose_1 : List Str := ["MOST_PLACES", "DIGITS", "Frame", "steps_of_frames", "_pairs_of", "_text_of", "_read_rows", "_size_in", "_steps_in", "_number_in", "_law_state", "_law_take", "_law_way", "_law_same", "_law_table", "_law_words", "_law_fault_at", "_law_fault", "_law_copies", "_law_over", "_law_frame", "_law_asked", "_law_told", "_law_refused", "_law_wrong_maps", "_law_told_pairs", "_law_rings", "_law_renumbered"]
def loose : List Str := loose_0 ++ loose_1
def kitB (K : PySem.W.Frag) (x : Str) (c : Value) (b : Bool) : Bool := DLH.eqB (PySem.W.kitOne K (.ref (He.ga K x)) c) (some b)
def excB (K : PySem.W.Frag) (C : Addr) : Bool := xfB K C && (He.eqO (PySem.W.findIn K (.ref C) "__class__") (some (some (.builtin "object.__class__"))) && (He.eqO (PySem.W.specialIn K (.builtin "object.__class__") "__get__") (some (some (.builtin "getset_descriptor.__get__"))) && (DLH.eqB (PySem.W.takesIn K (.builtin "object.__class__")) (some true) && DLH.eqB (PySem.W.mroIn K C (.type "object")) (some true))))
def isoB (K : PySem.W.Frag) (C : Addr) : Bool := He.eqO (PySem.W.findIn K (.ref C) "__class__") (some (some (.builtin "object.__class__"))) && (He.eqO (PySem.W.specialIn K (.builtin "object.__class__") "__get__") (some (some (.builtin "getset_descriptor.__get__"))) && (DLH.eqB (PySem.W.takesIn K (.builtin "object.__class__")) (some true) && DLH.eqB (PySem.W.mroIn K C (.type "object")) (some true)))
def exL (K : PySem.W.Frag) : List Bool := [He.tupB K "WAYS" [.str "a", .str "b", .str "c"], He.tupB K "DIRECTIONS" [.str "a", .str "~a", .str "b", .str "~b", .str "c", .str "~c", .str "all"], He.tupB K "KINDS" [.str "plain", .str "turned", .str "counted", .str "all", .str "full"], excB K (He.ga K "BadMap"), isoB K (He.ga K "Frame"), kitB K "BadMap" (.type "ValueError") true, kitB K "BadMap" (.ref (He.ga K "Apart")) false, kitB K "BadMap" (.ref (He.ga K "BadCount")) false, kitB K "BadMap" (.ref (He.ga K "BadPlace")) false, kitB K "BadMap" (.ref (He.ga K "BadSize")) false, kitB K "BadMap" (.ref (He.ga K "BadWord")) false, kitB K "BadMap" (.ref (He.ga K "TooLarge")) false, kitB K "BadMap" (.ref (He.ga K "TooWide")) false]
def ex (K : PySem.W.Frag) : Bool := (exL K).all id
def S : DLH.Spec := ⟨fa, fn, es, "/claim/cut.py", ex⟩
abbrev R : PySem.W.OpenRow := PySem.W.OpenLaw.row PySem.Challenge.rw_framesays_k15_led_faults
abbrev hk : PySem.W.Hook := DLH.hook S 4
def ob (s : PySem.W.SharedT) : DLH.Al := DLH.obsG S 4 (HandSHeadRun.getT s)
theorem ob_eq (s : PySem.W.SharedT) : ob s = hk.obs s.abs := DLH.obsG_eq (HandSHeadRun.getT_eq s)
theorem run (w : World) : HandSHeadRun.RunEq R (PySem.W.view R.prog [65]) hk ob 6000 loose w := by
  intro os
  kernel_rfl
end Hd
end K15
namespace K15
open PySem PySem.Spec PyProof.Rows L2 DL
variable [B : Obs]
theorem ex_at {K : PySem.W.Frag} (c : DLH.obsK Hd.S K = DLH.valK Hd.S) (i : Nat) {b : Bool} (h : (Hd.exL K)[i]? = some b) : b = true := List.all_eq_true.mp (DLH.more c) b (List.mem_of_getElem? h)
theorem excB_ok {K : PySem.W.Frag} {C : Addr} (h : Hd.excB K C = true) : XfC K C ∧ ExcC K C := by
  obtain ⟨h1, h⟩ := He.ba h
  obtain ⟨h2, h⟩ := He.ba h
  obtain ⟨h3, h⟩ := He.ba h
  obtain ⟨h4, h5⟩ := He.ba h
  have x := xfB_ok h1
  exact ⟨x, x.ga, x.gg, x.exC, x.hdC, of_decide_eq_true h2, of_decide_eq_true h3, of_decide_eq_true h4, of_decide_eq_true h5⟩
theorem isoB_ok {K : PySem.W.Frag} {C : Addr} (cl : Cls K C) (h : Hd.isoB K C = true) : IsC K C := by
  obtain ⟨h2, h⟩ := He.ba h
  obtain ⟨h3, h⟩ := He.ba h
  obtain ⟨h4, h5⟩ := He.ba h
  exact ⟨cl, of_decide_eq_true h2, of_decide_eq_true h3, of_decide_eq_true h4, of_decide_eq_true h5⟩
/-- an own error by its place among the head's -/
theorem err_has {P : Program} {w : World} {K : PySem.W.Frag} {mg : Str → Option Value} {base : Heap} {e : DLH.ErrS} {x : Str} (E : DLH.ErrOk P K e) (hm : mg e.x = some (.ref (He.ga K e.x))) (hno : PySem.W.findIn K (.ref (He.ga K e.x)) x = some none)
    (hx1 : (x == ("__debug__" : Str)) = false) (hx2 : (x == ("__classdict__" : Str)) = false) (S : NdefX.NScope ["self", x, "__class__"] ["self", x] ["__class__"] e.scope) (hks : e.scope.names.lookup ("super" : Str) = some .globalImplicit)
    (hB : ∀ us : List Value, us.length = 2 → ∀ (F : NdefX.NF) (doc pm ct : Value), F.params = e.params → bindArgs (F.fd doc pm ct) ⟨us, []⟩ = pure ((["self", x] : List Str).zip us))
    {m0 : Str} {p0 p1 p2 p3 p4 q0 q1 q2 q3 q4 q5 q6 c0 : Pos} {j0 : Nat} (h0 : m0.length ≤ 1000)
    (hbody : e.body = [.Expr (.Call (.Attribute (.Call (.Name "super" p0) [] [] p1) "__init__" p2) [.JoinedStr [.Constant (.str m0) j0 c0, .FormattedValue (.Name x q0) (-1) none q1] q2] [] p3) p4, .Assign [.Attribute (.Name "self" q3) x q4] (.Name x q5) q6])
    (hcall : ∀ env, ∃ pl, eval (.Call (.Attribute (.Call (.Name "super" p0) [] [] p1) "__init__" p2) [.JoinedStr [.Constant (.str m0) j0 c0, .FormattedValue (.Name x q0) (-1) none q1] q2] [] p3) env = (do let o ← attributeBase (.Call (.Name "super" p0) [] [] p1) "__init__" env (eval (.Call (.Name "super" p0) [] [] p1) env); standAt p2.atName; let (f, first) ← holding [o] (getMethod o "__init__" pl); callWith p3 f first (backTo p3 (starEach [.JoinedStr [.Constant (.str m0) j0 c0, .FormattedValue (.Name x q0) (-1) none q1] q2] env)) [])) :
    HasE P w K mg base e.x (He.ga K e.x) x := by
  obtain ⟨F, cc, oc, doc, pm, ct, od, osl, T, lk, hp, hb, hs⟩ := E.ex
  refine ⟨hm, fun X e1 e2 e3 e4 e5 => ⟨He.ma K (He.ga K e.x) "__init__", F.fd doc pm ct, ?_⟩⟩
  subst e1 e2 e3 e4 e5
  refine ⟨E.oex, E.iC, E.tI, DX.exc_init (ms := []) (tl := []) T lk (by rw [hs]; exact S) (by rw [hs]; exact hks) hno hx1 hx2 (by rw [hb]; exact hbody) (.inl ⟨rfl, rfl⟩) h0 (hcall := hcall), Binds.all fun us hl => hB us hl F doc pm ct hp⟩

theorem has_BadMap {w : World} {K : PySem.W.Frag} {mg : Str → Option Value} {base : Heap} (c : DLH.obsK Hd.S K = DLH.valK Hd.S) (hm : mg "BadMap" = some (.ref (He.ga K "BadMap"))) : HasE (PySem.W.OpenLaw.prog PySem.Challenge.rw_framesays_k15_led_faults) w K mg base "BadMap" (He.ga K "BadMap") "at" :=
  err_has (DLH.err_ (e := Hd.e_BadMap) c 0 rfl rfl rfl ⟨_, rfl, rfl⟩) hm (He.noat_ok (DLH.fact c 68 (f := .noat "BadMap" "at") rfl)) (by decide) (by decide) (NdefX.nscope_by (by decide +kernel)) (by rfl) (fun us hl F doc pm ct e => by
    match us, hl with
    | [_, _], _ =>
      obtain ⟨a1, a2, a3, a4, a5, a6, a7⟩ := F
      dsimp only at e
      subst e
      rfl) (by decide +kernel) rfl (by intro; exact ⟨_, rfl⟩)
theorem facts {h : Heap} {K : PySem.W.Frag} {mg : Str → Option Value} (X : K.In h) (G : h.Ns mainGlobals mg) (c : DLH.obsK Hd.S K = DLH.valK Hd.S) : Fc (PySem.W.OpenLaw.prog PySem.Challenge.rw_framesays_k15_led_faults) K mg where
  b_ValueError := He.free_ok X G (DLH.fact c 45 (f := .free "ValueError") rfl)
  b_len := He.free_ok X G (DLH.fact c 46 (f := .free "len") rfl)
  b_range := He.free_ok X G (DLH.fact c 47 (f := .free "range") rfl)
  b_int := He.free_ok X G (DLH.fact c 48 (f := .free "int") rfl)
  b_str := He.free_ok X G (DLH.fact c 49 (f := .free "str") rfl)
  b_tuple := He.free_ok X G (DLH.fact c 50 (f := .free "tuple") rfl)
  b_list := He.free_ok X G (DLH.fact c 51 (f := .free "list") rfl)
  b_isinstance := He.free_ok X G (DLH.fact c 52 (f := .free "isinstance") rfl)
  b_abs := He.free_ok X G (DLH.fact c 53 (f := .free "abs") rfl)
  b_repr := He.free_ok X G (DLH.fact c 54 (f := .free "repr") rfl)
  b_super := He.free_ok X G (DLH.fact c 55 (f := .free "super") rfl)
  b_sorted := He.free_ok X G (DLH.fact c 56 (f := .free "sorted") rfl)
  b_set := He.free_ok X G (DLH.fact c 57 (f := .free "set") rfl)
  b_enumerate := He.free_ok X G (DLH.fact c 58 (f := .free "enumerate") rfl)
  b_zip := He.free_ok X G (DLH.fact c 59 (f := .free "zip") rfl)
  g_WAYS := ⟨.ref (He.ga K "WAYS"), .ref (He.ga K "WAYS"), He.glo_ok X G (DLH.fact c 42 (f := .glo "WAYS") rfl), rfl, fun F => .tup (He.tupB_ok (ex_at c 0 rfl) F) (.cons (.str _) (.cons (.str _) (.cons (.str _) .nil)))⟩
  g_DIRECTIONS := ⟨.ref (He.ga K "DIRECTIONS"), .ref (He.ga K "DIRECTIONS"), He.glo_ok X G (DLH.fact c 43 (f := .glo "DIRECTIONS") rfl), rfl, fun F => .tup (He.tupB_ok (ex_at c 1 rfl) F) (.cons (.str _) (.cons (.str _) (.cons (.str _) (.cons (.str _) (.cons (.str _) (.cons (.str _) (.cons (.str _) .nil)))))))⟩
  g_KINDS := ⟨.ref (He.ga K "KINDS"), .ref (He.ga K "KINDS"), He.glo_ok X G (DLH.fact c 44 (f := .glo "KINDS") rfl), rfl, fun F => .tup (He.tupB_ok (ex_at c 2 rfl) F) (.cons (.str _) (.cons (.str _) (.cons (.str _) (.cons (.str _) (.cons (.str _) .nil)))))⟩
  g_MOST_PLACES := by
    obtain ⟨t, ht⟩ := He.int_ok X G (DLH.fact c 60 (f := .int "MOST_PLACES" 130) rfl)
    exact ⟨.int 130, .int 130 t, ht, ⟨t, rfl⟩, fun F => .int 130⟩
  g_SayError := ⟨.ref (He.ga K "SayError"), .ref (He.ga K "SayError"), He.glo_ok X G (DLH.fact c 32 (f := .glo "SayError") rfl), rfl, fun F => .ref _⟩
  n_SayError := He.glo_ok X G (DLH.fact c 32 (f := .glo "SayError") rfl)
  g_BadMap := ⟨.ref (He.ga K "BadMap"), .ref (He.ga K "BadMap"), He.glo_ok X G (DLH.fact c 33 (f := .glo "BadMap") rfl), rfl, fun F => .ref _⟩
  n_BadMap := He.glo_ok X G (DLH.fact c 33 (f := .glo "BadMap") rfl)
  g_Apart := ⟨.ref (He.ga K "Apart"), .ref (He.ga K "Apart"), He.glo_ok X G (DLH.fact c 34 (f := .glo "Apart") rfl), rfl, fun F => .ref _⟩
  n_Apart := He.glo_ok X G (DLH.fact c 34 (f := .glo "Apart") rfl)
  g_BadCount := ⟨.ref (He.ga K "BadCount"), .ref (He.ga K "BadCount"), He.glo_ok X G (DLH.fact c 35 (f := .glo "BadCount") rfl), rfl, fun F => .ref _⟩
  n_BadCount := He.glo_ok X G (DLH.fact c 35 (f := .glo "BadCount") rfl)
  g_BadPlace := ⟨.ref (He.ga K "BadPlace"), .ref (He.ga K "BadPlace"), He.glo_ok X G (DLH.fact c 36 (f := .glo "BadPlace") rfl), rfl, fun F => .ref _⟩
  n_BadPlace := He.glo_ok X G (DLH.fact c 36 (f := .glo "BadPlace") rfl)
  g_BadSize := ⟨.ref (He.ga K "BadSize"), .ref (He.ga K "BadSize"), He.glo_ok X G (DLH.fact c 37 (f := .glo "BadSize") rfl), rfl, fun F => .ref _⟩
  n_BadSize := He.glo_ok X G (DLH.fact c 37 (f := .glo "BadSize") rfl)
  g_BadWord := ⟨.ref (He.ga K "BadWord"), .ref (He.ga K "BadWord"), He.glo_ok X G (DLH.fact c 38 (f := .glo "BadWord") rfl), rfl, fun F => .ref _⟩
  n_BadWord := He.glo_ok X G (DLH.fact c 38 (f := .glo "BadWord") rfl)
  g_TooLarge := ⟨.ref (He.ga K "TooLarge"), .ref (He.ga K "TooLarge"), He.glo_ok X G (DLH.fact c 39 (f := .glo "TooLarge") rfl), rfl, fun F => .ref _⟩
  n_TooLarge := He.glo_ok X G (DLH.fact c 39 (f := .glo "TooLarge") rfl)
  g_TooWide := ⟨.ref (He.ga K "TooWide"), .ref (He.ga K "TooWide"), He.glo_ok X G (DLH.fact c 40 (f := .glo "TooWide") rfl), rfl, fun F => .ref _⟩
  n_TooWide := He.glo_ok X G (DLH.fact c 40 (f := .glo "TooWide") rfl)
  g_Frame := ⟨.ref (He.ga K "Frame"), .ref (He.ga K "Frame"), He.glo_ok X G (DLH.fact c 41 (f := .glo "Frame") rfl), rfl, fun F => .ref _⟩
  n_Frame := He.glo_ok X G (DLH.fact c 41 (f := .glo "Frame") rfl)
  e_BadMap := has_BadMap c (He.glo_ok X G (DLH.fact c 33 (f := .glo "BadMap") rfl))
  xf_at := fun C hC => by
    rcases hC with rfl
    · exact ⟨(excB_ok (ex_at c 3 rfl)).1, He.noat_ok (DLH.fact c 68 (f := .noat "BadMap" "at") rfl)⟩
  isx := fun C hC => by
    rcases hC with rfl
    · exact (excB_ok (ex_at c 3 rfl)).2
  x_BadMap_SayError := He.exm_ok (DLH.fact c 69 (f := .exm "BadMap" "SayError" true) rfl)
  k_BadMap_ValueError := of_decide_eq_true (ex_at c 5 rfl)
  k_BadMap_Apart := of_decide_eq_true (ex_at c 6 rfl)
  k_BadMap_BadCount := of_decide_eq_true (ex_at c 7 rfl)
  k_BadMap_BadPlace := of_decide_eq_true (ex_at c 8 rfl)
  k_BadMap_BadSize := of_decide_eq_true (ex_at c 9 rfl)
  k_BadMap_BadWord := of_decide_eq_true (ex_at c 10 rfl)
  k_BadMap_TooLarge := of_decide_eq_true (ex_at c 11 rfl)
  k_BadMap_TooWide := of_decide_eq_true (ex_at c 12 rfl)
  is_Frame := isoB_ok (He.cls_ok (DLH.fact c 61 (f := .cls "Frame") rfl)) (ex_at c 4 rfl)
  f_Frame_size := ⟨He.cls_ok (DLH.fact c 61 (f := .cls "Frame") rfl), He.noat_ok (DLH.fact c 63 (f := .noat "Frame" "size") rfl)⟩
  f_Frame_full_mask := ⟨He.cls_ok (DLH.fact c 61 (f := .cls "Frame") rfl), He.noat_ok (DLH.fact c 64 (f := .noat "Frame" "full_mask") rfl)⟩
  f_Frame__steps := ⟨He.cls_ok (DLH.fact c 61 (f := .cls "Frame") rfl), He.noat_ok (DLH.fact c 65 (f := .noat "Frame" "_steps") rfl)⟩
  f_Frame_text := ⟨He.cls_ok (DLH.fact c 61 (f := .cls "Frame") rfl), He.noat_ok (DLH.fact c 66 (f := .noat "Frame" "text") rfl)⟩
end K15
namespace K15
open PySem PySem.Spec PyProof.Rows L2 DL
variable [B : Obs] {K : PySem.W.Frag} {mg : Str → Option Value} {P : Program} {ds : List D} {M : Md} {Q : VD} {X : XD}
theorem kind_cases {w : Str} (h : w ∈ kindsL) : w = "plain" ∨ w = "turned" ∨ w = "counted" ∨ w = "all" ∨ w = "full" := by
  simpa [kindsL] using h
theorem rIn_tup {neg : Bool} {x : D} {xs : List D} {b : Bool} (h1 : flatD x = true) (h2 : xs.all flatD = true) (h3 : inF x xs = b) (q : Q (.bl (if neg then !b else b)) M) : rInD neg x (.tup xs) M Q := ⟨xs, rfl, h1, h2, by rw [h3]; exact q⟩
theorem rIn_lst {neg : Bool} {x : D} {xs : List D} {b : Bool} (h1 : flatD x = true) (h2 : xs.all flatD = true) (h3 : inF x xs = b) (q : Q (.bl (if neg then !b else b)) M) : rInD neg x (.lst xs) M Q := ⟨xs, rfl, h1, h2, by rw [h3]; exact q⟩
theorem inF_strs {w : Str} {l : List Str} : inF (.str w) (l.map .str) = decide (w ∈ l) := by
  induction l with
  | nil => rfl
  | cons x l ih =>
    have e : inF (.str w) ((x :: l).map .str) = (decide (x = w) || inF (.str w) (l.map .str)) := rfl
    rw [e, ih]
    by_cases h : x = w
    · simp [h]
    · have h' : ¬ w = x := fun z => h z.symm
      simp [h, h']
theorem flat_strs {l : List Str} : (l.map D.str).all flatD = true := by
  rw [List.all_map]
  exact List.all_eq_true.mpr fun _ _ => rfl
theorem p_is_kind (h : sp_is_kind K ds M Q X) : t_is_kind K (outD Q X) (startD N_is_kind ds) M := by
  obtain ⟨w, rfl, hw, h⟩ := h
  simp only [t_is_kind, N_is_kind, wipeD, items_tup, items_lst, items_rng, tupleD, seqA_tup, seqA_lst, tSq, tIf', tTs, tO, tV, tK, tTr, truD, tNo, tAn, tOr', tAnV, tOrV', tNoV, tIfE, tN0, tCo, tTu, tLs, tCl, tFn, tMh, tRt, tRt0, tNx, tEx, tSe, tAs, gN, gS, gT, gsc, gs0, tU, i2_ii, i2c_ii, rNegD, intC, absD, minD, isD, eqi, eqs, eqb, nei, nes, neb, DL.rIsD, DL.rIsnD, addi, muli, tMe, tMe0, tBk, tCt, outD, EndsD.xk, startD, optP_some, List.map_cons, List.map_nil, List.length_cons, List.length_nil, List.cons_append, List.nil_append, List.append_nil, List.set_cons_zero, List.set_cons_succ, List.set_nil, List.getElem?_cons_zero, List.getElem?_cons_succ, List.replicate_succ, List.replicate_zero, Nat.zero_add, Nat.reduceAdd, Nat.reduceSub, decide_eq_true_eq, Bool.not_eq_true', decide_eq_false_iff_not]
  refine rIn_tup (b := true) rfl rfl ?_ (out_ret h)
  have e := inF_strs (w := w) (l := kindsL)
  rw [decide_eq_true hw] at e
  exact e
theorem p_directions_of (h : sp_directions_of K ds M Q X) : t_directions_of K (outD Q X) (startD N_directions_of ds) M := by
  obtain ⟨w, rfl, hw, h⟩ := h
  simp only [t_directions_of, N_directions_of, wipeD, items_tup, items_lst, items_rng, tupleD, seqA_tup, seqA_lst, tSq, tIf', tTs, tO, tV, tK, tTr, truD, tNo, tAn, tOr', tAnV, tOrV', tNoV, tIfE, tN0, tCo, tTu, tLs, tCl, tFn, tMh, tRt, tRt0, tNx, tEx, tSe, tAs, gN, gS, gT, gsc, gs0, tU, i2_ii, i2c_ii, rNegD, intC, absD, minD, isD, eqi, eqs, eqb, nei, nes, neb, DL.rIsD, DL.rIsnD, addi, muli, tMe, tMe0, tBk, tCt, outD, EndsD.xk, startD, optP_some, List.map_cons, List.map_nil, List.length_cons, List.length_nil, List.cons_append, List.nil_append, List.append_nil, List.set_cons_zero, List.set_cons_succ, List.set_nil, List.getElem?_cons_zero, List.getElem?_cons_succ, List.replicate_succ, List.replicate_zero, Nat.zero_add, Nat.reduceAdd, Nat.reduceSub, decide_eq_true_eq, Bool.not_eq_true', decide_eq_false_iff_not]
  refine ⟨w, rfl, hw, ?_⟩
  simp only [wipeD, items_tup, items_lst, items_rng, tupleD, seqA_tup, seqA_lst, tSq, tIf', tTs, tO, tV, tK, tTr, truD, tNo, tAn, tOr', tAnV, tOrV', tNoV, tIfE, tN0, tCo, tTu, tLs, tCl, tFn, tMh, tRt, tRt0, tNx, tEx, tSe, tAs, gN, gS, gT, gsc, gs0, tU, i2_ii, i2c_ii, rNegD, intC, absD, minD, isD, eqi, eqs, eqb, nei, nes, neb, DL.rIsD, DL.rIsnD, addi, muli, tMe, tMe0, tBk, tCt, outD, EndsD.xk, startD, optP_some, List.map_cons, List.map_nil, List.length_cons, List.length_nil, List.cons_append, List.nil_append, List.append_nil, List.set_cons_zero, List.set_cons_succ, List.set_nil, List.getElem?_cons_zero, List.getElem?_cons_succ, List.replicate_succ, List.replicate_zero, Nat.zero_add, Nat.reduceAdd, Nat.reduceSub, decide_eq_true_eq, Bool.not_eq_true', decide_eq_false_iff_not, Bool.not_true, Bool.false_eq_true, if_false]
  refine ⟨by rw [sizeLine_eq]; decide, ?_⟩
  refine rIn_tup (b := decide (w ∈ (["turned", "full"] : List Str))) rfl rfl (inF_strs (w := w) (l := ["turned", "full"])) ?_
  unfold dirs at h
  have e : decide (w ∈ (["turned", "full"] : List Str)) = decide (w = "turned" ∨ w = "full") := by simp
  rw [e]
  by_cases c : w = "turned" ∨ w = "full"
  · rw [if_pos c] at h
    rw [decide_eq_true c]
    exact out_ret h
  · rw [if_neg c] at h
    rw [decide_eq_false c]
    exact out_ret h
theorem p_check_kind (h : sp_check_kind K ds M Q X) : t_check_kind K (outD Q X) (startD N_check_kind ds) M := by
  obtain ⟨w, rfl, hw, h⟩ := h
  simp only [t_check_kind, N_check_kind, wipeD, items_tup, items_lst, items_rng, tupleD, seqA_tup, seqA_lst, tSq, tIf', tTs, tO, tV, tK, tTr, truD, tNo, tAn, tOr', tAnV, tOrV', tNoV, tIfE, tN0, tCo, tTu, tLs, tCl, tFn, tMh, tRt, tRt0, tNx, tEx, tSe, tAs, gN, gS, gT, gsc, gs0, tU, i2_ii, i2c_ii, rNegD, intC, absD, minD, isD, eqi, eqs, eqb, nei, nes, neb, DL.rIsD, DL.rIsnD, addi, muli, tMe, tMe0, tBk, tCt, outD, EndsD.xk, startD, optP_some, List.map_cons, List.map_nil, List.length_cons, List.length_nil, List.cons_append, List.nil_append, List.append_nil, List.set_cons_zero, List.set_cons_succ, List.set_nil, List.getElem?_cons_zero, List.getElem?_cons_succ, List.replicate_succ, List.replicate_zero, Nat.zero_add, Nat.reduceAdd, Nat.reduceSub, decide_eq_true_eq, Bool.not_eq_true', decide_eq_false_iff_not]
  refine ⟨w, rfl, hw, ?_⟩
  simp only [wipeD, items_tup, items_lst, items_rng, tupleD, seqA_tup, seqA_lst, tSq, tIf', tTs, tO, tV, tK, tTr, truD, tNo, tAn, tOr', tAnV, tOrV', tNoV, tIfE, tN0, tCo, tTu, tLs, tCl, tFn, tMh, tRt, tRt0, tNx, tEx, tSe, tAs, gN, gS, gT, gsc, gs0, tU, i2_ii, i2c_ii, rNegD, intC, absD, minD, isD, eqi, eqs, eqb, nei, nes, neb, DL.rIsD, DL.rIsnD, addi, muli, tMe, tMe0, tBk, tCt, outD, EndsD.xk, startD, optP_some, List.map_cons, List.map_nil, List.length_cons, List.length_nil, List.cons_append, List.nil_append, List.append_nil, List.set_cons_zero, List.set_cons_succ, List.set_nil, List.getElem?_cons_zero, List.getElem?_cons_succ, List.replicate_succ, List.replicate_zero, Nat.zero_add, Nat.reduceAdd, Nat.reduceSub, decide_eq_true_eq, Bool.not_eq_true', decide_eq_false_iff_not, Bool.not_true, Bool.false_eq_true, if_false]
  exact out_nx h
end K15
namespace K15
open PySem PySem.Spec PyProof.Rows L2 DL
variable [B : Obs] {K : PySem.W.Frag} {mg : Str → Option Value} {P : Program} {ds : List D} {M : Md} {Q : VD} {X : XD}
theorem Asc.tail {y : Int} {l : List Int} (h : Asc (y :: l)) : Asc l ∧ ∀ z ∈ l, y < z := ⟨(List.pairwise_cons.mp h).2, (List.pairwise_cons.mp h).1⟩
theorem mask_ne {l : List Int} (h : Asc l) (h0 : ∀ y ∈ l, 0 ≤ y) : (maskN l : Int) = 0 ↔ l = [] := by
  cases l with
  | nil => simp [maskN]
  | cons y l =>
    obtain ⟨k, _, e⟩ := mask_low (h0 y List.mem_cons_self) h.tail.2
    have := Nat.two_pow_pos y.toNat
    rw [e]
    constructor
    · intro z
      omega
    · intro z
      cases z
theorem less_put {p : Addr} {c : MC} (hp : M p = none) : ∀ a e, M a = some e → put M p c a = some e := fun a e h => by
  rw [put_ne (fun z => by subst z; rw [hp] at h; cases h)]
  exact h
theorem p_bits_of (h : sp_bits_of K ds M Q X) : t_bits_of K (outD Q X) (startD N_bits_of ds) M := by
  obtain ⟨l, rfl, ha, hb, hl, h⟩ := h
  simp only [t_bits_of, N_bits_of, maskD, tLsM, wipeD, items_tup, items_lst, items_rng, tupleD, seqA_tup, seqA_lst, tSq, tIf', tTs, tO, tV, tK, tTr, truD, tNo, tAn, tOr', tAnV, tOrV', tNoV, tIfE, tN0, tCo, tTu, tLs, tCl, tFn, tMh, tRt, tRt0, tNx, tEx, tSe, tAs, gN, gS, gT, gsc, gs0, tU, i2_ii, i2c_ii, rNegD, intC, absD, minD, isD, eqi, eqs, eqb, nei, nes, neb, DL.rIsD, DL.rIsnD, addi, muli, tMe, tMe0, tBk, tCt, outD, EndsD.xk, startD, optP_some, List.map_cons, List.map_nil, List.length_cons, List.length_nil, List.cons_append, List.nil_append, List.append_nil, List.set_cons_zero, List.set_cons_succ, List.set_nil, List.getElem?_cons_zero, List.getElem?_cons_succ, List.replicate_succ, List.replicate_zero, Nat.zero_add, Nat.reduceAdd, Nat.reduceSub, decide_eq_true_eq, Bool.not_eq_true', decide_eq_false_iff_not]
  refine ⟨by omega, fun p hp => ?_⟩
  simp only [tWh, wipeD, items_tup, items_lst, items_rng, tupleD, seqA_tup, seqA_lst, tSq, tIf', tTs, tO, tV, tK, tTr, truD, tNo, tAn, tOr', tAnV, tOrV', tNoV, tIfE, tN0, tCo, tTu, tLs, tCl, tFn, tMh, tRt, tRt0, tNx, tEx, tSe, tAs, gN, gS, gT, gsc, gs0, tU, i2_ii, i2c_ii, rNegD, intC, absD, minD, isD, eqi, eqs, eqb, nei, nes, neb, DL.rIsD, DL.rIsnD, addi, muli, tMe, tMe0, tBk, tCt, outD, EndsD.xk, startD, optP_some, List.map_cons, List.map_nil, List.length_cons, List.length_nil, List.cons_append, List.nil_append, List.append_nil, List.set_cons_zero, List.set_cons_succ, List.set_nil, List.getElem?_cons_zero, List.getElem?_cons_succ, List.replicate_succ, List.replicate_zero, Nat.zero_add, Nat.reduceAdd, Nat.reduceSub, decide_eq_true_eq, Bool.not_eq_true', decide_eq_false_iff_not]
  refine ⟨fun m δ N => ∃ (don rest : List Int) (g : Option D), l = don ++ rest ∧ m = rest.length ∧ δ = [some (.int (maskN l : Nat)), some (.ref p), some (.int (maskN rest : Nat)), g] ∧ N = put M p (.lst (iL don)), ⟨_, [], l, none, rfl, rfl, rfl, rfl⟩, ?_⟩
  rintro m δ N ⟨don, rest, g, e1, rfl, rfl, rfl⟩
  have ar : Asc rest := by
    rw [e1] at ha
    exact (List.pairwise_append.mp ha).2.1
  have br : ∀ y ∈ rest, 0 ≤ y ∧ y < 1000 := fun y hy => hb y (by rw [e1]; exact List.mem_append_right _ hy)
  simp only [wipeD, items_tup, items_lst, items_rng, tupleD, seqA_tup, seqA_lst, tSq, tIf', tTs, tO, tV, tK, tTr, truD, tNo, tAn, tOr', tAnV, tOrV', tNoV, tIfE, tN0, tCo, tTu, tLs, tCl, tFn, tMh, tRt, tRt0, tNx, tEx, tSe, tAs, gN, gS, gT, gsc, gs0, tU, i2_ii, i2c_ii, rNegD, intC, absD, minD, isD, eqi, eqs, eqb, nei, nes, neb, DL.rIsD, DL.rIsnD, addi, muli, tMe, tMe0, tBk, tCt, outD, EndsD.xk, startD, optP_some, List.map_cons, List.map_nil, List.length_cons, List.length_nil, List.cons_append, List.nil_append, List.append_nil, List.set_cons_zero, List.set_cons_succ, List.set_nil, List.getElem?_cons_zero, List.getElem?_cons_succ, List.replicate_succ, List.replicate_zero, Nat.zero_add, Nat.reduceAdd, Nat.reduceSub, decide_eq_true_eq, Bool.not_eq_true', decide_eq_false_iff_not]
  cases rest with
  | nil =>
    have z : (maskN ([] : List Int) : Int) = 0 := rfl
    rw [z, if_neg (by simp)]
    have e : don = l := by rw [e1, List.append_nil]
    subst e
    have q : seqB (put M p (.lst (iL don))) (.ref p) = some (iL don) := by
      show seqL (put M p (.lst (iL don))) (.ref p) = _
      unfold seqL
      simp only [put_same]
    rw [q]
    exact ⟨M, _, .less (less_put hp), h⟩
  | cons y rest =>
    have nz : ¬ (maskN (y :: rest) : Int) = 0 := fun z => nomatch (mask_ne ar fun y hy => (br y hy).1).mp z
    rw [if_pos nz]
    obtain ⟨y0, y1⟩ := br y List.mem_cons_self
    obtain ⟨k, e3, e4⟩ := mask_low (l := rest) y0 ar.tail.2
    have h0 := Nat.two_pow_pos y.toNat
    have low : Builtin.bitAnd ((maskN (y :: rest) : Nat) : Int) (-((maskN (y :: rest) : Nat) : Int)) = ((2 ^ y.toNat : Nat) : Int) := by
      rw [bitAnd_neg _ (by rw [e4]; omega), e4, low_bit]
    have xr : Builtin.bitXor ((maskN (y :: rest) : Nat) : Int) ((2 ^ y.toNat : Nat) : Int) = ((maskN rest : Nat) : Int) := by
      rw [bitXor_nat, e4, DL.or_low, and_low, e3]
      omega
    simp only [tBt, wipeD, items_tup, items_lst, items_rng, tupleD, seqA_tup, seqA_lst, tSq, tIf', tTs, tO, tV, tK, tTr, truD, tNo, tAn, tOr', tAnV, tOrV', tNoV, tIfE, tN0, tCo, tTu, tLs, tCl, tFn, tMh, tRt, tRt0, tNx, tEx, tSe, tAs, gN, gS, gT, gsc, gs0, tU, i2_ii, i2c_ii, rNegD, intC, absD, minD, isD, eqi, eqs, eqb, nei, nes, neb, DL.rIsD, DL.rIsnD, addi, muli, tMe, tMe0, tBk, tCt, outD, EndsD.xk, startD, optP_some, List.map_cons, List.map_nil, List.length_cons, List.length_nil, List.cons_append, List.nil_append, List.append_nil, List.set_cons_zero, List.set_cons_succ, List.set_nil, List.getElem?_cons_zero, List.getElem?_cons_succ, List.replicate_succ, List.replicate_zero, Nat.zero_add, Nat.reduceAdd, Nat.reduceSub, decide_eq_true_eq, Bool.not_eq_true', decide_eq_false_iff_not, low, intBits_pow, xr]
    refine ⟨isLs_ref put_same, ?_⟩
    rw [app_eq put_same]
    have ll : don.length + (rest.length + 1) = l.length := by rw [e1, List.length_append, List.length_cons]
    refine ⟨by rw [iL_len, sizeLine_eq]; omega, rest.length, by omega, don ++ [y], rest, some (.int ((2 ^ y.toNat : Nat) : Int)), ?_, rfl, rfl, ?_⟩
    · rw [e1, List.append_assoc] <;> rfl
    · rw [put_put]
      have e : ((y.toNat + 1 : Nat) : Int) - 1 = y := by omega
      rw [e]
      congr 2
      unfold iL
      rw [List.map_append]
      rfl
end K15
/-! Plain laws of loops over lists of anything; frozen and unfrozen rows. -/
namespace DL
open PySem PySem.Spec PyProof.Rows L2
variable [B : Obs] {M : Md} {δ : SD} {Q : VD} {ok : Md → Prop} {E : EndsD} {g : TGd} {tb : TSd}
/-- a loop that goes on or leaves: at the first element at which f tells something -/
theorem forGo_ex {α β : Type} {e : α → D} {inv : SD → Prop} {f : α → Option β} {Z : β → Prop} (hok : ok M) : ∀ {l : List α},
    (∀ x ∈ l, ∀ δ, inv δ → ∀ R : SD → Md → Prop, (f x = none → ∀ δ', inv δ' → R δ' M) → (∀ r, f x = some r → Z r) → g (E.xk δ) (e x) δ M fun δ1 M1 => tb { E with nx := R, ct := R, bk := E.nx } δ1 M1) →
    (l.findSome? f = none → ∀ δ, inv δ → E.nx δ M) → (∀ r, l.findSome? f = some r → Z r) → ∀ {δ : SD}, inv δ → forGo g tb ok E (l.map e) δ M
  | [], _, fin, _, _, h0 => ⟨hok, fin rfl _ h0⟩
  | x :: l, hs, fin, ret, δ, h0 => by
    refine ⟨hok, hs x List.mem_cons_self δ h0 _ (fun hn δ' h' => ?_) fun r hr => ret r (by rw [List.findSome?_cons, hr])⟩
    refine forGo_ex hok (fun y hy => hs y (List.mem_cons_of_mem _ hy)) (fun hl => fin (by rw [List.findSome?_cons, hn]; exact hl)) (fun r hr => ret r (by rw [List.findSome?_cons, hn]; exact hr)) h'
/-- a loop by what holds behind each part of the list -/
theorem forGo_pre {α : Type} {e : α → D} {P : List α → SD → Md → Prop} {l : List α} (hd : ∀ δ M, P l δ M → ok M ∧ E.nx δ M)
    (hs : ∀ pre x post, l = pre ++ x :: post → ∀ δ M, P pre δ M → ∀ R : SD → Md → Prop, (∀ δ M, P (pre ++ [x]) δ M → R δ M) → ok M ∧ g (E.xk δ) (e x) δ M fun δ1 M1 => tb { E with nx := R, ct := R, bk := E.nx } δ1 M1) {δ : SD} {M : Md} (h0 : P [] δ M) : forGo g tb ok E (l.map e) δ M := by
  have go : ∀ (post pre : List α), l = pre ++ post → ∀ δ M, P pre δ M → forGo g tb ok E (post.map e) δ M := by
    intro post
    induction post with
    | nil =>
      intro pre hl δ M h
      rw [List.append_nil] at hl
      subst hl
      exact hd δ M h
    | cons x post ih =>
      intro pre hl δ M h
      exact hs pre x post hl δ M h _ fun δ' M' h' => ih (pre ++ [x]) (by rw [hl, List.append_assoc]; rfl) δ' M' h'
  exact go l [] rfl δ M h0
theorem enL_map {α : Type} {e : α → D} {l : List α} : enL (l.map e) = l.zipIdx.map fun p => .tup [.int (p.2 : Nat), e p.1] := by
  unfold enL
  rw [List.zipIdx_map, List.map_map]
  rfl
theorem find_zipIdx {α β : Type} {f : α → Option β} : ∀ (l : List α) (n : Nat), (l.zipIdx n).findSome? (fun p => f p.1) = l.findSome? f
  | [], _ => rfl
  | x :: l, n => by
    rw [List.zipIdx_cons, List.findSome?_cons, List.findSome?_cons, find_zipIdx l (n + 1)]
theorem mem_zipIdx0 {α : Type} {l : List α} {p : α × Nat} (h : p ∈ l.zipIdx) : l[p.2]? = some p.1 := List.mem_zipIdx_iff_getElem?.mp h
theorem atI_map {α : Type} {e : α → D} {l : List α} {i : Nat} {x : α} (h : l[i]? = some x) : atI (l.map e) ((i : Nat) : Int) = some (e x) := by
  have hl := (List.getElem?_eq_some_iff.mp h).1
  rw [atI_in (Int.natCast_nonneg i) (by rw [List.length_map]; omega), Int.toNat_natCast, List.getElem?_map, h]
  rfl
theorem rIx_tup {xs : List D} {i : Int} : rIxD (.tup xs) (.int i) M Q = optP (atI xs i) fun v => Q v M := rfl
theorem rIx_lst {xs : List D} {i : Int} : rIxD (.lst xs) (.int i) M Q = optP (atI xs i) fun v => Q v M := rfl
theorem rgI_get {n : Int} {i : Nat} (h : i < n.toNat) : (rgI n)[i]? = some ((i : Nat) : Int) := by
  unfold rgI
  rw [List.getElem?_map, List.getElem?_range h]
  rfl
theorem rg_set {n x : Int} {f : Int → D} {v : D} (h0 : 0 ≤ x) : ((rgI n).map f).set x.toNat v = (rgI n).map fun z => if z = x then v else f z := by
  apply List.ext_getElem?
  intro i
  rw [List.getElem?_set]
  by_cases hi : i < n.toNat
  · rw [List.getElem?_map, List.getElem?_map, rgI_get hi, List.length_map, rgI_len]
    by_cases e : x.toNat = i
    · rw [if_pos e, if_pos (by omega)]
      show some v = some (if ((i : Nat) : Int) = x then v else f _)
      rw [if_pos (by omega)]
    · rw [if_neg e]
      show some (f _) = some (if ((i : Nat) : Int) = x then v else f _)
      rw [if_neg (by omega)]
  · rw [List.getElem?_eq_none (by rw [List.length_map, rgI_len]; omega), List.getElem?_eq_none (by rw [List.length_map, rgI_len]; omega), List.length_map, rgI_len]
    split
    · rw [if_neg (by omega)]
    · rfl
theorem rg_const {n : Int} {c : D} : ((rgI n).map fun _ => c) = List.replicate n.toNat c := by
  rw [List.map_const', rgI_len]
/-- [f x for x in l if b x], l a list of anything -/
theorem lcF_anyT {α : Type} {te : TEd} {tt : TTd} {i : Nat} {e : α → D} {f : α → D} {b : α → Bool} {l : List α} (hz : l.length ≤ sizeLine) (hok : ∀ p c, M p = none → ok (put M p c))
    (ht : ∀ x ∈ l, ∀ p c, M p = none → ∀ R : Bool → Md → Prop, R (b x) (put M p c) → tt X0 (δ.set i (some (e x))) (put M p c) R)
    (he : ∀ x ∈ l, b x = true → ∀ p c, M p = none → ∀ Q' : VD, Q' (f x) (put M p c) → te X0 (δ.set i (some (e x))) (put M p c) Q') (h : Q (.lst ((l.filter b).map f)) M) (p : Addr) (hp : M p = none) :
    lcGo (.one i) tt te ok δ p (fun N => ∃ acc, N p = some (.lst acc) ∧ Q (.lst acc) (cut N p)) (l.map e) (put M p (.lst [])) := by
  have go : ∀ (l' : List α), (∀ x ∈ l', x ∈ l) → ∀ (acc : List D), acc.length + l'.length ≤ l.length → Q (.lst (acc ++ (l'.filter b).map f)) M →
      lcGo (.one i) tt te ok δ p (fun N => ∃ acc, N p = some (.lst acc) ∧ Q (.lst acc) (cut N p)) (l'.map e) (put M p (.lst acc)) := by
    intro l'
    induction l' with
    | nil =>
      intro _ acc _ q
      rw [List.filter_nil, List.map_nil, List.append_nil] at q
      refine ⟨hok p _ hp, ⟨acc, put_same⟩, acc, put_same, ?_⟩
      rw [cut_put hp]
      exact q
    | cons x l' ih =>
      intro hm acc hl q
      rw [List.length_cons] at hl
      refine ⟨hok p _ hp, _, rfl, ht x (hm x List.mem_cons_self) p _ hp _ ?_⟩
      cases hb : b x with
      | true =>
        rw [List.filter_cons_of_pos hb, List.map_cons] at q
        refine he x (hm x List.mem_cons_self) hb p _ hp _ ⟨acc, put_same, by omega, ?_⟩
        rw [put_put]
        refine ih (fun y hy => hm y (List.mem_cons_of_mem _ hy)) (acc ++ [f x]) (by rw [List.length_append]; simp only [List.length_nil, List.length_cons]; omega) ?_
        rw [List.append_assoc]
        exact q
      | false =>
        rw [List.filter_cons_of_neg (by rw [hb]; decide)] at q
        rw [if_neg (by decide)]
        exact ih (fun y hy => hm y (List.mem_cons_of_mem _ hy)) acc (by omega) q
  exact go l (fun _ h => h) [] (by simp) h
theorem filt_yes {α : Type} {l : List α} : (l.filter fun _ => true) = l := List.filter_eq_self.mpr fun _ _ => rfl
theorem tLcF_anyT {α : Type} {Xd : XD} {tsrc te : TEd} {tt : TTd} {i : Nat} {vs : List Nat} {e : α → D} {f : α → D} {b : α → Bool} {d0 : D} {l : List α} (h0 : ∀ Q' : VD, Q' d0 M → tsrc Xd δ M Q') (hq : seqA M d0 = some (l.map e)) (hz : l.length ≤ sizeLine)
    (ht : ∀ x ∈ l, ∀ p c, M p = none → ∀ R : Bool → Md → Prop, R (b x) (put M p c) → tt X0 ((wipeD δ vs).set i (some (e x))) (put M p c) R)
    (he : ∀ x ∈ l, b x = true → ∀ p c, M p = none → ∀ Q' : VD, Q' (f x) (put M p c) → te X0 ((wipeD δ vs).set i (some (e x))) (put M p c) Q') (h : Q (.lst ((l.filter b).map f)) M) : tLcF (.one i) (tIS tsrc) tt te vs Xd δ M Q := by
  refine h0 _ ?_
  rw [items_eq hq]
  exact fun p hp => lcF_anyT hz (fun p c hp => seqS_put hq hp) ht he h p hp
theorem tLcF_any {α : Type} {Xd : XD} {tsrc te : TEd} {i : Nat} {vs : List Nat} {e : α → D} {f : α → D} {d0 : D} {l : List α} (h0 : ∀ Q' : VD, Q' d0 M → tsrc Xd δ M Q') (hq : seqA M d0 = some (l.map e)) (hz : l.length ≤ sizeLine)
    (he : ∀ x ∈ l, ∀ p c, M p = none → ∀ Q' : VD, Q' (f x) (put M p c) → te X0 ((wipeD δ vs).set i (some (e x))) (put M p c) Q') (h : Q (.lst (l.map f)) M) : tLcF (.one i) (tIS tsrc) tYs te vs Xd δ M Q :=
  tLcF_anyT (b := fun _ => true) h0 hq hz (fun _ _ _ _ _ _ h => h) (fun x hx _ => he x hx) (by rw [filt_yes]; exact h)
/-- [f x for x in range(n) if b x] -/
theorem tLcF_rngT {Xd : XD} {ta : TAd} {te : TEd} {tt : TTd} {i : Nat} {vs : List Nat} {f : Int → D} {b : Int → Bool} {n : Int} (h0 : ∀ R : List D → Md → Prop, R [.int n] M → ta Xd δ M R) (hb : -(2 ^ 62) ≤ n) (hz : n ≤ 16777216)
    (ht : ∀ x, 0 ≤ x → x < n → ∀ p c, M p = none → ∀ R : Bool → Md → Prop, R (b x) (put M p c) → tt X0 ((wipeD δ vs).set i (some (.int x))) (put M p c) R)
    (he : ∀ x, 0 ≤ x → x < n → b x = true → ∀ p c, M p = none → ∀ Q' : VD, Q' (f x) (put M p c) → te X0 ((wipeD δ vs).set i (some (.int x))) (put M p c) Q') (h : Q (.lst (((rgI n).filter b).map f)) M) : tLcF (.one i) (tIR1 ta) tt te vs Xd δ M Q := by
  refine h0 _ ⟨⟨hb, by omega⟩, fun p hp => ?_⟩
  have e : ((List.range n.toNat).map fun i => D.int ((i : Nat) : Int)) = (rgI n).map .int := by
    unfold rgI
    rw [List.map_map]
    rfl
  show lcGo (.one i) tt te (fun _ => True) _ p _ ((List.range n.toNat).map fun i => D.int ((i : Nat) : Int)) _
  rw [e]
  exact lcF_anyT (by rw [rgI_len, sizeLine_eq]; omega) (fun _ _ _ => trivial) (fun x hx => ht x (rgI_mem hx).1 (rgI_mem hx).2) (fun x hx => he x (rgI_mem hx).1 (rgI_mem hx).2) h p hp
theorem tLcF_rng1 {Xd : XD} {ta : TAd} {te : TEd} {i : Nat} {vs : List Nat} {f : Int → D} {n : Int} (h0 : ∀ R : List D → Md → Prop, R [.int n] M → ta Xd δ M R) (hb : -(2 ^ 62) ≤ n) (hz : n ≤ 16777216)
    (he : ∀ x, 0 ≤ x → x < n → ∀ p c, M p = none → ∀ Q' : VD, Q' (f x) (put M p c) → te X0 ((wipeD δ vs).set i (some (.int x))) (put M p c) Q') (h : Q (.lst ((rgI n).map f)) M) : tLcF (.one i) (tIR1 ta) tYs te vs Xd δ M Q :=
  tLcF_rngT (b := fun _ => true) h0 hb hz (fun _ _ _ _ _ _ _ h => h) (fun x x0 x1 _ => he x x0 x1) (by rw [filt_yes]; exact h)
/-- [f x y for x in l for y in L x] -/
theorem lc1_run {β : Type} {t1 : Tg} {te : TEd} {ok1 : Md → Prop} {δx : SD} {p : Addr} {R : Md → Prop} {e2 : β → D} {fx : β → D} {δ2 : β → SD} (hok : ∀ c, ok1 (put M p c)) : ∀ {m : List β} {acc : List D},
    (∀ y ∈ m, t1.put (e2 y) δx = some (δ2 y)) → (∀ y ∈ m, ∀ c, ∀ Q' : VD, Q' (fx y) (put M p c) → te X0 (δ2 y) (put M p c) Q') → acc.length + m.length ≤ sizeLine → R (put M p (.lst (acc ++ m.map fx))) →
    lcGo t1 tYs te ok1 δx p R (m.map e2) (put M p (.lst acc))
  | [], acc, _, _, _, h => by
    rw [List.map_nil, List.append_nil] at h
    exact ⟨hok _, ⟨acc, put_same⟩, h⟩
  | y :: m, acc, hp, he, hl, h => by
    rw [List.length_cons] at hl
    refine ⟨hok _, _, hp y List.mem_cons_self, he y List.mem_cons_self _ _ ⟨acc, put_same, by omega, ?_⟩⟩
    rw [put_put]
    refine lc1_run hok (fun z hz => hp z (List.mem_cons_of_mem _ hz)) (fun z hz => he z (List.mem_cons_of_mem _ hz)) (by rw [List.length_append]; simp only [List.length_nil, List.length_cons]; omega) ?_
    rw [List.append_assoc]
    exact h
theorem lc2_any {α β : Type} {t t1 : Tg} {ti1 : TId} {te : TEd} {vs1 : List Nat} {l : List α} {e : α → D} {L : α → List β} {e2 : β → D} {f : α → β → D} {δ1 : α → SD} {δ2 : α → β → SD} {p : Addr} (hok : ∀ c, ok (put M p c)) (h1 : ∀ x ∈ l, t.put (e x) δ = some (δ1 x))
    (hi : ∀ x ∈ l, ∀ c, ∀ R : Src → Md → Prop, (∀ ok1 : Md → Prop, (∀ c, ok1 (put M p c)) → R ⟨(L x).map e2, ok1⟩ (put M p c)) → ti1 X0 (δ1 x) (put M p c) R) (h2 : ∀ x ∈ l, ∀ y ∈ L x, t1.put (e2 y) (wipeD (δ1 x) vs1) = some (δ2 x y))
    (he : ∀ x ∈ l, ∀ y ∈ L x, ∀ c, ∀ Q' : VD, Q' (f x y) (put M p c) → te X0 (δ2 x y) (put M p c) Q') (hl : (l.map fun x => (L x).length).sum ≤ sizeLine) (h : Q (.lst (l.flatMap fun x => (L x).map (f x))) M) (hp : M p = none) :
    lcGo2 t tYs ti1 t1 tYs te vs1 ok δ p (fun N => ∃ acc, N p = some (.lst acc) ∧ Q (.lst acc) (cut N p)) (l.map e) (put M p (.lst [])) := by
  have go : ∀ (l' : List α), (∀ x ∈ l', x ∈ l) → ∀ (acc : List D), acc.length + (l'.map fun x => (L x).length).sum ≤ sizeLine → Q (.lst (acc ++ l'.flatMap fun x => (L x).map (f x))) M →
      lcGo2 t tYs ti1 t1 tYs te vs1 ok δ p (fun N => ∃ acc, N p = some (.lst acc) ∧ Q (.lst acc) (cut N p)) (l'.map e) (put M p (.lst acc)) := by
    intro l'
    induction l' with
    | nil =>
      intro _ acc _ q
      rw [List.flatMap_nil, List.append_nil] at q
      refine ⟨hok _, ⟨acc, put_same⟩, acc, put_same, ?_⟩
      rw [cut_put hp]
      exact q
    | cons x l' ih =>
      intro hm acc hz q
      rw [List.map_cons, List.sum_cons] at hz
      refine ⟨hok _, _, h1 x (hm x List.mem_cons_self), ?_⟩
      show ti1 X0 _ _ _
      refine hi x (hm x List.mem_cons_self) _ _ fun ok1 hok1 => ?_
      refine lc1_run hok1 (h2 x (hm x List.mem_cons_self)) (he x (hm x List.mem_cons_self)) (by omega) ?_
      refine ih (fun y hy => hm y (List.mem_cons_of_mem _ hy)) _ (by rw [List.length_append, List.length_map]; omega) ?_
      rw [List.append_assoc]
      exact q
  exact go l (fun _ h => h) [] (by rw [List.length_nil, Nat.zero_add]; exact hl) h
theorem tLcF_put {α : Type} {t : Tg} {Xd : XD} {tsrc te : TEd} {vs : List Nat} {e : α → D} {f : α → D} {δ2 : α → SD} {d0 : D} {l : List α} (h0 : ∀ Q' : VD, Q' d0 M → tsrc Xd δ M Q') (hq : seqA M d0 = some (l.map e)) (hz : l.length ≤ sizeLine)
    (h1 : ∀ x ∈ l, t.put (e x) (wipeD δ vs) = some (δ2 x)) (he : ∀ x ∈ l, ∀ p c, M p = none → ∀ Q' : VD, Q' (f x) (put M p c) → te X0 (δ2 x) (put M p c) Q') (h : Q (.lst (l.map f)) M) : tLcF t (tIS tsrc) tYs te vs Xd δ M Q := by
  refine h0 _ ?_
  rw [items_eq hq]
  intro p hp
  refine lc1_run (δ2 := δ2) (fx := f) (fun c => seqS_put hq hp) h1 (fun x hx c Q' hQ => he x hx p c hp Q' hQ) (by rw [List.length_nil, Nat.zero_add]; exact hz) ⟨_, put_same, ?_⟩
  rw [cut_put hp]
  exact h
end DL
namespace K15
open PySem PySem.Spec PyProof.Rows L2 DL
variable [B : Obs] {K : PySem.W.Frag} {mg : Str → Option Value} {P : Program} {ds : List D} {M : Md} {Q : VD} {X : XD}
theorem fl_frame {F : Fr} {t : Str} : fldsD M (frameD K F t) = some (CF K, nsF.zip (dsF F t)) := rfl
theorem lk_size {F : Fr} {t : Str} : (nsF.zip (dsF F t)).lookup ("size" : Str) = some (.int F.n) := by
  simp [nsF, dsF, List.lookup_cons]
theorem lk_steps {F : Fr} {t : Str} : (nsF.zip (dsF F t)).lookup ("_steps" : Str) = some (stepsDic F) := rfl
theorem dirs_cases {w : Str} (h : w ∈ dirs6) : w = "a" ∨ w = "~a" ∨ w = "b" ∨ w = "~b" ∨ w = "c" ∨ w = "~c" := by simpa [dirs6] using h
theorem dirs_sub {k w : Str} (h : w ∈ dirs k) : w ∈ dirs6 := by
  unfold dirs at h
  split at h
  · exact h
  · rcases List.mem_cons.mp h with e | h
    · rw [e]; decide
    · rcases List.mem_cons.mp h with e | h
      · rw [e]; decide
      · rcases List.mem_cons.mp h with e | h
        · rw [e]; decide
        · cases h
theorem dic_at {F : Fr} {w : Str} (h : w ∈ dirs6) : ∃ kvs, dicD M (stepsDic F) = some kvs ∧ lkD kvs (.inr w) = some (mT F w) := by
  refine ⟨_, rfl, ?_⟩
  rcases dirs_cases h with rfl | rfl | rfl | rfl | rfl | rfl <;> rfl
theorem p_Frame_mask_to (Z : Fc P K mg) (h : sp_Frame_mask_to K ds M Q X) : t_Frame_mask_to K (outD Q X) (startD N_Frame_mask_to ds) M := by
  obtain ⟨F, t, w, x, rfl, hw, x0, x1, h⟩ := h
  obtain ⟨kvs, e1, e2⟩ := dic_at (M := M) (F := F) hw
  simp only [t_Frame_mask_to, N_Frame_mask_to, wipeD, items_tup, items_lst, items_rng, tupleD, seqA_tup, seqA_lst, tSq, tIf', tTs, tO, tV, tK, tTr, truD, tNo, tAn, tOr', tAnV, tOrV', tNoV, tIfE, tN0, tCo, tTu, tLs, tCl, tFn, tMh, tRt, tRt0, tNx, tEx, tSe, tAs, gN, gS, gT, gsc, gs0, tU, i2_ii, i2c_ii, rNegD, intC, absD, minD, isD, eqi, eqs, eqb, nei, nes, neb, DL.rIsD, DL.rIsnD, addi, muli, tMe, tMe0, tBk, tCt, outD, EndsD.xk, startD, optP_some, List.map_cons, List.map_nil, List.length_cons, List.length_nil, List.cons_append, List.nil_append, List.append_nil, List.set_cons_zero, List.set_cons_succ, List.set_nil, List.getElem?_cons_zero, List.getElem?_cons_succ, List.replicate_succ, List.replicate_zero, Nat.zero_add, Nat.reduceAdd, Nat.reduceSub, decide_eq_true_eq, Bool.not_eq_true', decide_eq_false_iff_not, tDg, tFd, fl_frame, lk_steps, Z.f_Frame__steps, true_and, e1, keyD, e2, mT, rIx_tup, atI_rg x0 x1]
  exact out_ret h
theorem pw_filter {α : Type} {R : α → α → Prop} {l : List α} {p : α → Bool} (h : l.Pairwise R) : (l.filter p).Pairwise R := h.sublist List.filter_sublist
theorem asc_forth {n : Int} {ps : Prs} (h : WfP n ps) (x : Int) : Asc (forthL ps x) := by
  unfold forthL Asc
  refine List.pairwise_map.mpr ((pw_filter h.srt).imp_of_mem fun {p q} hp hq r => ?_)
  have e1 := of_decide_eq_true (List.mem_filter.mp hp).2
  have e2 := of_decide_eq_true (List.mem_filter.mp hq).2
  unfold ltI at r
  omega
theorem asc_back {n : Int} {ps : Prs} (h : WfP n ps) (x : Int) : Asc (backL ps x) := by
  unfold backL Asc
  refine List.pairwise_map.mpr ((pw_filter h.srt).imp_of_mem fun {p q} hp hq r => ?_)
  have e1 := of_decide_eq_true (List.mem_filter.mp hp).2
  have e2 := of_decide_eq_true (List.mem_filter.mp hq).2
  unfold ltI at r
  omega
theorem rg_forth {n : Int} {ps : Prs} (h : WfP n ps) {x y : Int} (hy : y ∈ forthL ps x) : 0 ≤ y ∧ y < n := by
  obtain ⟨p, hp, rfl⟩ := List.mem_map.mp hy
  exact (h.rg p (List.mem_filter.mp hp).1).2
theorem rg_back {n : Int} {ps : Prs} (h : WfP n ps) {x y : Int} (hy : y ∈ backL ps x) : 0 ≤ y ∧ y < n := by
  obtain ⟨p, hp, rfl⟩ := List.mem_map.mp hy
  exact (h.rg p (List.mem_filter.mp hp).1).1
theorem sz_forth {n : Int} {ps : Prs} (h : WfP n ps) (x : Int) : (forthL ps x).length ≤ 1000 := by
  unfold forthL
  rw [List.length_map]
  exact Nat.le_trans (List.length_filter_le ..) h.sz
theorem sz_back {n : Int} {ps : Prs} (h : WfP n ps) (x : Int) : (backL ps x).length ≤ 1000 := by
  unfold backL
  rw [List.length_map]
  exact Nat.le_trans (List.length_filter_le ..) h.sz
structure LeadOk (n : Int) (l : List Int) : Prop where
  asc : Asc l
  rg : ∀ y ∈ l, 0 ≤ y ∧ y < n
  sz : l.length ≤ 1000
theorem ok_forth {n : Int} {ps : Prs} (h : WfP n ps) (x : Int) : LeadOk n (forthL ps x) := ⟨asc_forth h x, fun y hy => rg_forth h hy, sz_forth h x⟩
theorem ok_back {n : Int} {ps : Prs} (h : WfP n ps) (x : Int) : LeadOk n (backL ps x) := ⟨asc_back h x, fun y hy => rg_back h hy, sz_back h x⟩
theorem ok_leads {F : Fr} (h : WfF F) (w : Str) (x : Int) : LeadOk F.n (leadsL F w x) := by
  unfold leadsL
  split
  · exact ok_forth h.a x
  split
  · exact ok_back h.a x
  split
  · exact ok_forth h.b x
  split
  · exact ok_back h.b x
  split
  · exact ok_forth h.c x
  · exact ok_back h.c x
theorem dirs_len (k : Str) : (dirs k).length ≤ 6 := by
  unfold dirs
  split <;> decide
theorem p_steps_of_led (Z : Fc P K mg) (h : sp_steps_of_led K ds M Q X) : t_steps_of_led K (outD Q X) (startD N_steps_of_led ds) M := by
  obtain ⟨F, t, k, rfl, wf, hk, h⟩ := h
  have lo := wf.lo
  have hi := wf.hi
  simp only [t_steps_of_led, N_steps_of_led, wipeD, items_tup, items_lst, items_rng, tupleD, seqA_tup, seqA_lst, tSq, tIf', tTs, tO, tV, tK, tTr, truD, tNo, tAn, tOr', tAnV, tOrV', tNoV, tIfE, tN0, tCo, tTu, tLs, tCl, tFn, tMh, tRt, tRt0, tNx, tEx, tSe, tAs, gN, gS, gT, gsc, gs0, tU, i2_ii, i2c_ii, rNegD, intC, absD, minD, isD, eqi, eqs, eqb, nei, nes, neb, DL.rIsD, DL.rIsnD, addi, muli, tMe, tMe0, tBk, tCt, outD, EndsD.xk, startD, optP_some, List.map_cons, List.map_nil, List.length_cons, List.length_nil, List.cons_append, List.nil_append, List.append_nil, List.set_cons_zero, List.set_cons_succ, List.set_nil, List.getElem?_cons_zero, List.getElem?_cons_succ, List.replicate_succ, List.replicate_zero, Nat.zero_add, Nat.reduceAdd, Nat.reduceSub, decide_eq_true_eq, Bool.not_eq_true', decide_eq_false_iff_not]
  refine ⟨k, rfl, hk, ?_⟩
  simp only [wipeD, items_tup, items_lst, items_rng, tupleD, seqA_tup, seqA_lst, tSq, tIf', tTs, tO, tV, tK, tTr, truD, tNo, tAn, tOr', tAnV, tOrV', tNoV, tIfE, tN0, tCo, tTu, tLs, tCl, tFn, tMh, tRt, tRt0, tNx, tEx, tSe, tAs, gN, gS, gT, gsc, gs0, tU, i2_ii, i2c_ii, rNegD, intC, absD, minD, isD, eqi, eqs, eqb, nei, nes, neb, DL.rIsD, DL.rIsnD, addi, muli, tMe, tMe0, tBk, tCt, outD, EndsD.xk, startD, optP_some, List.map_cons, List.map_nil, List.length_cons, List.length_nil, List.cons_append, List.nil_append, List.append_nil, List.set_cons_zero, List.set_cons_succ, List.set_nil, List.getElem?_cons_zero, List.getElem?_cons_succ, List.replicate_succ, List.replicate_zero, Nat.zero_add, Nat.reduceAdd, Nat.reduceSub, decide_eq_true_eq, Bool.not_eq_true', decide_eq_false_iff_not]
  refine tLcF_rng1 (n := F.n) (f := fun x => .lst ((dirs k).map fun w => .tup (iL (leadsL F w x)))) (Q := fun d M => ∃ M' d', DL.Fin M d M' d' ∧ Q d' M') (fun R hR => ?_) (by omega) (by omega) (fun x x0 x1 p c hp Q' hQ => ?_) (out_ret h)
  · simp only [wipeD, items_tup, items_lst, items_rng, tupleD, seqA_tup, seqA_lst, tSq, tIf', tTs, tO, tV, tK, tTr, truD, tNo, tAn, tOr', tAnV, tOrV', tNoV, tIfE, tN0, tCo, tTu, tLs, tCl, tFn, tMh, tRt, tRt0, tNx, tEx, tSe, tAs, gN, gS, gT, gsc, gs0, tU, i2_ii, i2c_ii, rNegD, intC, absD, minD, isD, eqi, eqs, eqb, nei, nes, neb, DL.rIsD, DL.rIsnD, addi, muli, tMe, tMe0, tBk, tCt, outD, EndsD.xk, startD, optP_some, List.map_cons, List.map_nil, List.length_cons, List.length_nil, List.cons_append, List.nil_append, List.append_nil, List.set_cons_zero, List.set_cons_succ, List.set_nil, List.getElem?_cons_zero, List.getElem?_cons_succ, List.replicate_succ, List.replicate_zero, Nat.zero_add, Nat.reduceAdd, Nat.reduceSub, decide_eq_true_eq, Bool.not_eq_true', decide_eq_false_iff_not, tFd, fl_frame, lk_size, Z.f_Frame_size, true_and]
    exact hR
  · refine tLcF_any (l := dirs k) (e := .str) (f := fun w => .tup (iL (leadsL F w x))) (fun _ h => h) rfl (by have := dirs_len k; rw [sizeLine_eq]; omega) (fun w hw p' c' hp' Q'' hQ' => ?_) hQ
    have ol := ok_leads wf w x
    simp only [wipeD, items_tup, items_lst, items_rng, tupleD, seqA_tup, seqA_lst, tSq, tIf', tTs, tO, tV, tK, tTr, truD, tNo, tAn, tOr', tAnV, tOrV', tNoV, tIfE, tN0, tCo, tTu, tLs, tCl, tFn, tMh, tRt, tRt0, tNx, tEx, tSe, tAs, gN, gS, gT, gsc, gs0, tU, i2_ii, i2c_ii, rNegD, intC, absD, minD, isD, eqi, eqs, eqb, nei, nes, neb, DL.rIsD, DL.rIsnD, addi, muli, tMe, tMe0, tBk, tCt, outD, EndsD.xk, startD, optP_some, List.map_cons, List.map_nil, List.length_cons, List.length_nil, List.cons_append, List.nil_append, List.append_nil, List.set_cons_zero, List.set_cons_succ, List.set_nil, List.getElem?_cons_zero, List.getElem?_cons_succ, List.replicate_succ, List.replicate_zero, Nat.zero_add, Nat.reduceAdd, Nat.reduceSub, decide_eq_true_eq, Bool.not_eq_true', decide_eq_false_iff_not, objD]
    refine ⟨⟨_, fl_frame, rfl⟩, F, t, w, x, rfl, dirs_sub hw, x0, x1, ?_⟩
    exact ⟨_, rfl, ol.asc, fun y hy => ⟨(ol.rg y hy).1, by have := (ol.rg y hy).2; omega⟩, ol.sz, hQ'⟩
end K15
namespace K15
open PySem PySem.Spec PyProof.Rows L2 DL
variable [B : Obs] {K : PySem.W.Frag} {mg : Str → Option Value} {P : Program} {ds : List D} {M : Md} {Q : VD} {X : XD}
theorem seqS_tup {xs : List D} : seqS M (.tup xs) = some (true, xs) := rfl
theorem seqS_lst' {xs : List D} : seqS M (.lst xs) = some (false, xs) := rfl
theorem inF_ints {i : Int} {l : List Int} : inF (.int i) (iL l) = decide (i ∈ l) := by
  induction l with
  | nil => rfl
  | cons x l ih =>
    have e : inF (.int i) (iL (x :: l)) = (decide (x = i) || inF (.int i) (iL l)) := rfl
    rw [e, ih]
    by_cases h : x = i
    · simp [h]
    · have h' : ¬ i = x := fun z => h z.symm
      simp [h, h']
theorem flat_ints' {l : List Int} : (iL l).all flatD = true := by
  unfold iL
  rw [List.all_map]
  exact List.all_eq_true.mpr fun _ _ => rfl
theorem rIn_at {neg : Bool} {d : D} {i : Int} {l : List Int} (h : NumsAt M d l) : (Q (.bl (if neg then !(decide (i ∈ l)) else decide (i ∈ l))) M) → rInD neg (.int i) d M Q := fun q => by
  have z : ∃ xs, seqA M d = some xs ∧ flatD (.int i) = true ∧ xs.all flatD = true ∧ Q (.bl (if neg then !inF (.int i) xs else inF (.int i) xs)) M := ⟨iL l, h, rfl, flat_ints', by rw [inF_ints]; exact q⟩
  cases d with
  | str s => cases h
  | _ => exact z
theorem isMany_iff {k : Str} : (k ∈ (["counted", "full"] : List Str)) ↔ isMany k := by simp [isMany]
theorem four : 4 ≤ sizeLine := by rw [sizeLine_eq]; decide
theorem two : 2 ≤ sizeLine := by rw [sizeLine_eq]; decide
theorem p__fault_at (h : sp__fault_at K ds M Q X) : t__fault_at K (outD Q X) (startD N__fault_at ds) M := by
  obtain ⟨x, A, Bl, di, f, k, rfl, hk, hn, hr, hz, h⟩ := h
  simp only [t__fault_at, N__fault_at, tFo, tIEn, tIS, wipeD, items_tup, items_lst, items_rng, tupleD, seqA_tup, seqA_lst, tSq, tIf', tTs, tO, tV, tK, tTr, truD, tNo, tAn, tOr', tAnV, tOrV', tNoV, tIfE, tN0, tCo, tTu, tLs, tCl, tFn, tMh, tRt, tRt0, tNx, tEx, tSe, tAs, gN, gS, gT, gsc, gs0, tU, i2_ii, i2c_ii, rNegD, intC, absD, minD, isD, eqi, eqs, eqb, nei, nes, neb, DL.rIsD, DL.rIsnD, addi, muli, tMe, tMe0, tBk, tCt, outD, EndsD.xk, startD, optP_some, List.map_cons, List.map_nil, List.length_cons, List.length_nil, List.cons_append, List.nil_append, List.append_nil, List.set_cons_zero, List.set_cons_succ, List.set_nil, List.getElem?_cons_zero, List.getElem?_cons_succ, List.replicate_succ, List.replicate_zero, Nat.zero_add, Nat.reduceAdd, Nat.reduceSub, decide_eq_true_eq, Bool.not_eq_true', decide_eq_false_iff_not]
  refine ⟨k, rfl, hk, ?_⟩
  simp only [seqS_tup, wipeD, items_tup, items_lst, items_rng, tupleD, seqA_tup, seqA_lst, tSq, tIf', tTs, tO, tV, tK, tTr, truD, tNo, tAn, tOr', tAnV, tOrV', tNoV, tIfE, tN0, tCo, tTu, tLs, tCl, tFn, tMh, tRt, tRt0, tNx, tEx, tSe, tAs, gN, gS, gT, gsc, gs0, tU, i2_ii, i2c_ii, rNegD, intC, absD, minD, isD, eqi, eqs, eqb, nei, nes, neb, DL.rIsD, DL.rIsnD, addi, muli, tMe, tMe0, tBk, tCt, outD, EndsD.xk, startD, optP_some, List.map_cons, List.map_nil, List.length_cons, List.length_nil, List.cons_append, List.nil_append, List.append_nil, List.set_cons_zero, List.set_cons_succ, List.set_nil, List.getElem?_cons_zero, List.getElem?_cons_succ, List.replicate_succ, List.replicate_zero, Nat.zero_add, Nat.reduceAdd, Nat.reduceSub, decide_eq_true_eq, Bool.not_eq_true', decide_eq_false_iff_not]
  rw [enL_map]
  refine forGo_ex (α := Str × Nat) (β := D) (e := fun p => .tup [.int (p.2 : Nat), .str p.1]) (inv := fun δ => ∃ a b c d e g, δ = [some (.int x), some (.lst ((dirs k).map fun w => .tup (iL (A w)))), some (.lst ((dirs k).map fun w => .tup (iL (Bl w)))), some di, some (.str k), a, b, c, d, e, g])
    (f := fun p => faultW f k p.1 x (A p.1) (Bl p.1)) (Z := fun r => ∃ M' d', DL.Fin M r M' d' ∧ Q d' M') (by first | trivial | rfl) (fun p hp δ hi R hN hR => ?_) (fun hN δ hi => ?_) (fun r hr => ?_) ⟨_, _, _, _, _, _, rfl⟩
  · obtain ⟨a, b, c, d, e, g, rfl⟩ := hi
    obtain ⟨w, i⟩ := p
    have hw : (dirs k)[i]? = some w := mem_zipIdx0 hp
    have e1 := atI_map (e := fun w => D.tup (iL (A w))) hw
    have e2 := atI_map (e := fun w => D.tup (iL (Bl w))) hw
    simp only [tFo, tIS, wipeD, items_tup, items_lst, items_rng, tupleD, seqA_tup, seqA_lst, tSq, tIf', tTs, tO, tV, tK, tTr, truD, tNo, tAn, tOr', tAnV, tOrV', tNoV, tIfE, tN0, tCo, tTu, tLs, tCl, tFn, tMh, tRt, tRt0, tNx, tEx, tSe, tAs, gN, gS, gT, gsc, gs0, tU, i2_ii, i2c_ii, rNegD, intC, absD, minD, isD, eqi, eqs, eqb, nei, nes, neb, DL.rIsD, DL.rIsnD, addi, muli, tMe, tMe0, tBk, tCt, outD, EndsD.xk, startD, optP_some, List.map_cons, List.map_nil, List.length_cons, List.length_nil, List.cons_append, List.nil_append, List.append_nil, List.set_cons_zero, List.set_cons_succ, List.set_nil, List.getElem?_cons_zero, List.getElem?_cons_succ, List.replicate_succ, List.replicate_zero, Nat.zero_add, Nat.reduceAdd, Nat.reduceSub, decide_eq_true_eq, Bool.not_eq_true', decide_eq_false_iff_not, rIx_lst, e1, e2, true_and]
    refine tLcF_any (d0 := .tup (iL (A w))) (l := A w) (e := .int) (f := fun y => .int (gi f y)) (fun Q' hQ => ?_) rfl (by have := hz w; rw [sizeLine_eq]; omega) (fun y hy p c hp Q' hQ => ?_) ?_
    · simp only [wipeD, items_tup, items_lst, items_rng, tupleD, seqA_tup, seqA_lst, tSq, tIf', tTs, tO, tV, tK, tTr, truD, tNo, tAn, tOr', tAnV, tOrV', tNoV, tIfE, tN0, tCo, tTu, tLs, tCl, tFn, tMh, tRt, tRt0, tNx, tEx, tSe, tAs, gN, gS, gT, gsc, gs0, tU, i2_ii, i2c_ii, rNegD, intC, absD, minD, isD, eqi, eqs, eqb, nei, nes, neb, DL.rIsD, DL.rIsnD, addi, muli, tMe, tMe0, tBk, tCt, outD, EndsD.xk, startD, optP_some, List.map_cons, List.map_nil, List.length_cons, List.length_nil, List.cons_append, List.nil_append, List.append_nil, List.set_cons_zero, List.set_cons_succ, List.set_nil, List.getElem?_cons_zero, List.getElem?_cons_succ, List.replicate_succ, List.replicate_zero, Nat.zero_add, Nat.reduceAdd, Nat.reduceSub, decide_eq_true_eq, Bool.not_eq_true', decide_eq_false_iff_not, rIx_lst, e1]
      exact hQ
    · obtain ⟨y0, y1⟩ := hr w y hy
      simp only [wipeD, items_tup, items_lst, items_rng, tupleD, seqA_tup, seqA_lst, tSq, tIf', tTs, tO, tV, tK, tTr, truD, tNo, tAn, tOr', tAnV, tOrV', tNoV, tIfE, tN0, tCo, tTu, tLs, tCl, tFn, tMh, tRt, tRt0, tNx, tEx, tSe, tAs, gN, gS, gT, gsc, gs0, tU, i2_ii, i2c_ii, rNegD, intC, absD, minD, isD, eqi, eqs, eqb, nei, nes, neb, DL.rIsD, DL.rIsnD, addi, muli, tMe, tMe0, tBk, tCt, outD, EndsD.xk, startD, optP_some, List.map_cons, List.map_nil, List.length_cons, List.length_nil, List.cons_append, List.nil_append, List.append_nil, List.set_cons_zero, List.set_cons_succ, List.set_nil, List.getElem?_cons_zero, List.getElem?_cons_succ, List.replicate_succ, List.replicate_zero, Nat.zero_add, Nat.reduceAdd, Nat.reduceSub, decide_eq_true_eq, Bool.not_eq_true', decide_eq_false_iff_not]
      rw [ix_eq (seqA_put hn hp) (atI_iL y0 y1)]
      exact hQ
    · refine forGo_ex (α := Int) (β := D) (e := .int) (l := A w) (inv := fun δ => ∃ d e g, δ = [some (.int x), some (.lst ((dirs k).map fun w => .tup (iL (A w)))), some (.lst ((dirs k).map fun w => .tup (iL (Bl w)))), some di, some (.str k), some (.int (i : Nat)), some (.str w), some (.lst ((A w).map fun y => .int (gi f y))), d, e, g])
        (f := fun y => if gi f y ∈ Bl w then none else some (.tup [.str "forth", .str w, .int x, .int y])) (Z := fun r => ∃ M' d', DL.Fin M r M' d' ∧ Q d' M') (by first | trivial | rfl) (fun y hy δ hi R' hN' hR' => ?_) (fun hN' δ hi => ?_) (fun r hr => ?_) ⟨_, _, _, rfl⟩
      · obtain ⟨d, e, g, rfl⟩ := hi
        obtain ⟨y0, y1⟩ := hr w y hy
        simp only [wipeD, items_tup, items_lst, items_rng, tupleD, seqA_tup, seqA_lst, tSq, tIf', tTs, tO, tV, tK, tTr, truD, tNo, tAn, tOr', tAnV, tOrV', tNoV, tIfE, tN0, tCo, tTu, tLs, tCl, tFn, tMh, tRt, tRt0, tNx, tEx, tSe, tAs, gN, gS, gT, gsc, gs0, tU, i2_ii, i2c_ii, rNegD, intC, absD, minD, isD, eqi, eqs, eqb, nei, nes, neb, DL.rIsD, DL.rIsnD, addi, muli, tMe, tMe0, tBk, tCt, outD, EndsD.xk, startD, optP_some, List.map_cons, List.map_nil, List.length_cons, List.length_nil, List.cons_append, List.nil_append, List.append_nil, List.set_cons_zero, List.set_cons_succ, List.set_nil, List.getElem?_cons_zero, List.getElem?_cons_succ, List.replicate_succ, List.replicate_zero, Nat.zero_add, Nat.reduceAdd, Nat.reduceSub, decide_eq_true_eq, Bool.not_eq_true', decide_eq_false_iff_not, rIx_lst, e2, ix_eq hn (atI_iL y0 y1)]
        refine rIn_at (l := Bl w) rfl ?_
        simp only [if_true, Bool.not_eq_true', decide_eq_false_iff_not]
        by_cases q : gi f y ∈ Bl w
        · rw [if_neg (by simp [q])]
          exact hN' (if_pos q) _ ⟨_, _, _, rfl⟩
        · rw [if_pos q]
          exact ⟨four, hR' _ (if_neg q)⟩
      · obtain ⟨d, e, g, rfl⟩ := hi
        have hN' : faultF f w x (A w) (Bl w) = none := hN'
        simp only [tFo, tIS, wipeD, items_tup, items_lst, items_rng, tupleD, seqA_tup, seqA_lst, tSq, tIf', tTs, tO, tV, tK, tTr, truD, tNo, tAn, tOr', tAnV, tOrV', tNoV, tIfE, tN0, tCo, tTu, tLs, tCl, tFn, tMh, tRt, tRt0, tNx, tEx, tSe, tAs, gN, gS, gT, gsc, gs0, tU, i2_ii, i2c_ii, rNegD, intC, absD, minD, isD, eqi, eqs, eqb, nei, nes, neb, DL.rIsD, DL.rIsnD, addi, muli, tMe, tMe0, tBk, tCt, outD, EndsD.xk, startD, optP_some, List.map_cons, List.map_nil, List.length_cons, List.length_nil, List.cons_append, List.nil_append, List.append_nil, List.set_cons_zero, List.set_cons_succ, List.set_nil, List.getElem?_cons_zero, List.getElem?_cons_succ, List.replicate_succ, List.replicate_zero, Nat.zero_add, Nat.reduceAdd, Nat.reduceSub, decide_eq_true_eq, Bool.not_eq_true', decide_eq_false_iff_not, rIx_lst, e2]
        refine forGo_ex (α := Int) (β := D) (e := .int) (l := Bl w) (inv := fun δ => ∃ d e g, δ = [some (.int x), some (.lst ((dirs k).map fun w => .tup (iL (A w)))), some (.lst ((dirs k).map fun w => .tup (iL (Bl w)))), some di, some (.str k), some (.int (i : Nat)), some (.str w), some (.lst ((A w).map fun y => .int (gi f y))), d, e, g])
          (f := fun v => if (((A w).map (gi f)).count v) = 0 then some (.tup [.str "back", .str w, .int x, .int v]) else if 1 < ((A w).map (gi f)).count v ∧ isMany k then some (.tup [.str "many", .str w, .int x, .int v]) else none) (Z := fun r => ∃ M' d', DL.Fin M r M' d' ∧ Q d' M') (by first | trivial | rfl) (fun v hv δ hi R' hN2 hR2 => ?_) (fun hN2 δ hi => ?_) (fun r hr => ?_) ⟨_, _, _, rfl⟩
        · obtain ⟨d, e, g, rfl⟩ := hi
          simp only [wipeD, items_tup, items_lst, items_rng, tupleD, seqA_tup, seqA_lst, tSq, tIf', tTs, tO, tV, tK, tTr, truD, tNo, tAn, tOr', tAnV, tOrV', tNoV, tIfE, tN0, tCo, tTu, tLs, tCl, tFn, tMh, tRt, tRt0, tNx, tEx, tSe, tAs, gN, gS, gT, gsc, gs0, tU, i2_ii, i2c_ii, rNegD, intC, absD, minD, isD, eqi, eqs, eqb, nei, nes, neb, DL.rIsD, DL.rIsnD, addi, muli, tMe, tMe0, tBk, tCt, outD, EndsD.xk, startD, optP_some, List.map_cons, List.map_nil, List.length_cons, List.length_nil, List.cons_append, List.nil_append, List.append_nil, List.set_cons_zero, List.set_cons_succ, List.set_nil, List.getElem?_cons_zero, List.getElem?_cons_succ, List.replicate_succ, List.replicate_zero, Nat.zero_add, Nat.reduceAdd, Nat.reduceSub, decide_eq_true_eq, Bool.not_eq_true', decide_eq_false_iff_not]
          have em : ((A w).map fun y => D.int (gi f y)) = iL ((A w).map (gi f)) := by simp [iL]
          refine ⟨rfl, (A w).map (gi f), congrArg some em, ?_⟩
          simp only [wipeD, items_tup, items_lst, items_rng, tupleD, seqA_tup, seqA_lst, tSq, tIf', tTs, tO, tV, tK, tTr, truD, tNo, tAn, tOr', tAnV, tOrV', tNoV, tIfE, tN0, tCo, tTu, tLs, tCl, tFn, tMh, tRt, tRt0, tNx, tEx, tSe, tAs, gN, gS, gT, gsc, gs0, tU, i2_ii, i2c_ii, rNegD, intC, absD, minD, isD, eqi, eqs, eqb, nei, nes, neb, DL.rIsD, DL.rIsnD, addi, muli, tMe, tMe0, tBk, tCt, outD, EndsD.xk, startD, optP_some, List.map_cons, List.map_nil, List.length_cons, List.length_nil, List.cons_append, List.nil_append, List.append_nil, List.set_cons_zero, List.set_cons_succ, List.set_nil, List.getElem?_cons_zero, List.getElem?_cons_succ, List.replicate_succ, List.replicate_zero, Nat.zero_add, Nat.reduceAdd, Nat.reduceSub, decide_eq_true_eq, Bool.not_eq_true', decide_eq_false_iff_not]
          by_cases q : ((A w).map (gi f)).count v = 0
          · rw [if_pos (by omega)]
            exact ⟨four, hR2 _ (if_pos q)⟩
          · rw [if_neg (by omega)]
            by_cases q2 : 1 < ((A w).map (gi f)).count v
            · rw [if_pos (by omega)]
              refine ⟨two, rIn_tup (b := decide (k ∈ (["counted", "full"] : List Str))) rfl rfl (inF_strs (w := k) (l := ["counted", "full"])) ?_⟩
              simp only [Bool.false_eq_true, if_false, decide_eq_true_eq, isMany_iff]
              by_cases q3 : isMany k
              · rw [if_pos q3]
                exact ⟨four, hR2 _ (by rw [if_neg q, if_pos ⟨q2, q3⟩])⟩
              · rw [if_neg q3]
                exact hN2 (by rw [if_neg q, if_neg fun z => q3 z.2]) _ ⟨_, _, _, rfl⟩
            · rw [if_neg (by omega)]
              simp only [Bool.false_eq_true, if_false]
              exact hN2 (by rw [if_neg q, if_neg fun z => q2 z.1]) _ ⟨_, _, _, rfl⟩
        · obtain ⟨d, e, g, rfl⟩ := hi
          have hN2 : faultB f k w x (A w) (Bl w) = none := hN2
          exact hN (by show (faultF f w x (A w) (Bl w)).or _ = none; rw [hN', hN2]; rfl) _ ⟨_, _, _, _, _, _, rfl⟩
        · have hr : faultB f k w x (A w) (Bl w) = some r := hr
          exact hR _ (by show (faultF f w x (A w) (Bl w)).or _ = some r; rw [hN', hr]; rfl)
      · have hr : faultF f w x (A w) (Bl w) = some r := hr
        exact hR _ (by show (faultF f w x (A w) (Bl w)).or _ = some r; rw [hr]; rfl)
  · obtain ⟨a, b, c, d, e, g, rfl⟩ := hi
    have e : faultA f k x A Bl = none := (find_zipIdx (f := fun w => faultW f k w x (A w) (Bl w)) (dirs k) 0).symm.trans hN
    rw [e] at h
    exact out_ret h
  · have e : faultA f k x A Bl = some r := (find_zipIdx (f := fun w => faultW f k w x (A w) (Bl w)) (dirs k) 0).symm.trans hr
    rw [e] at h
    exact out_ret h
end K15
namespace K15
open PySem PySem.Spec PyProof.Rows L2 DL
variable [B : Obs] {K : PySem.W.Frag} {mg : Str → Option Value} {P : Program} {ds : List D} {M : Md} {Q : VD} {X : XD}
theorem small_log {i : Int} (h : i.natAbs ≤ 1000000) : i.natAbs.log2 < 1920 := by
  by_cases z : i.natAbs = 0
  · rw [z]
    decide
  · rw [Nat.log2_lt z]
    exact Nat.lt_of_le_of_lt h (by decide)
theorem p_check_map (h : sp_check_map K ds M Q X) : t_check_map K (outD Q X) (startD N_check_map ds) M := by
  obtain ⟨di, f, n, g, rfl, hn, hl, h⟩ := h
  obtain ⟨b, hb⟩ := seqS_of hn
  simp only [t_check_map, N_check_map, tFo, tIEn, DX.tRs, DX.OkD, wipeD, items_tup, items_lst, items_rng, tupleD, seqA_tup, seqA_lst, tSq, tIf', tTs, tO, tV, tK, tTr, truD, tNo, tAn, tOr', tAnV, tOrV', tNoV, tIfE, tN0, tCo, tTu, tLs, tCl, tFn, tMh, tRt, tRt0, tNx, tEx, tSe, tAs, gN, gS, gT, gsc, gs0, tU, i2_ii, i2c_ii, rNegD, intC, absD, minD, isD, eqi, eqs, eqb, nei, nes, neb, DL.rIsD, DL.rIsnD, addi, muli, tMe, tMe0, tBk, tCt, outD, EndsD.xk, startD, optP_some, List.map_cons, List.map_nil, List.length_cons, List.length_nil, List.cons_append, List.nil_append, List.append_nil, List.set_cons_zero, List.set_cons_succ, List.set_nil, List.getElem?_cons_zero, List.getElem?_cons_succ, List.replicate_succ, List.replicate_zero, Nat.zero_add, Nat.reduceAdd, Nat.reduceSub, decide_eq_true_eq, Bool.not_eq_true', decide_eq_false_iff_not, len_eq hn, iL_len, nei, hb]
  unfold badAt at h
  by_cases e : (f.length : Int) = n
  · rw [if_neg (by simp [e])]
    rw [if_neg (by simp [e])] at h
    have e2 : enL (iL f) = f.zipIdx.map fun p => .tup [.int (p.2 : Nat), .int p.1] := enL_map (e := D.int) (l := f)
    rw [e2]
    refine forGo_ex (α := Int × Nat) (β := Int) (e := fun p => .tup [.int (p.2 : Nat), .int p.1]) (inv := fun δ => ∃ a b, δ = [some di, some (.int n), some (.int g), a, b])
      (f := fun p => if p.1 < 0 ∨ g ≤ p.1 then some ((p.2 : Nat) : Int) else none) (Z := fun i => X (He.ga K "BadMap") [("at", .int i)] M ∧ i.natAbs ≤ 1000000) hb (fun p hp δ hi R hN hR => ?_) (fun hN δ hi => ?_) (fun r hr => ?_) ⟨_, _, rfl⟩
    · obtain ⟨a, c, rfl⟩ := hi
      obtain ⟨y, i⟩ := p
      simp only [DX.tRs, DX.OkD, wipeD, items_tup, items_lst, items_rng, tupleD, seqA_tup, seqA_lst, tSq, tIf', tTs, tO, tV, tK, tTr, truD, tNo, tAn, tOr', tAnV, tOrV', tNoV, tIfE, tN0, tCo, tTu, tLs, tCl, tFn, tMh, tRt, tRt0, tNx, tEx, tSe, tAs, gN, gS, gT, gsc, gs0, tU, i2_ii, i2c_ii, rNegD, intC, absD, minD, isD, eqi, eqs, eqb, nei, nes, neb, DL.rIsD, DL.rIsnD, addi, muli, tMe, tMe0, tBk, tCt, outD, EndsD.xk, startD, optP_some, List.map_cons, List.map_nil, List.length_cons, List.length_nil, List.cons_append, List.nil_append, List.append_nil, List.set_cons_zero, List.set_cons_succ, List.set_nil, List.getElem?_cons_zero, List.getElem?_cons_succ, List.replicate_succ, List.replicate_zero, Nat.zero_add, Nat.reduceAdd, Nat.reduceSub, decide_eq_true_eq, Bool.not_eq_true', decide_eq_false_iff_not, true_and]
      by_cases q1 : y < 0
      · rw [if_pos q1, if_pos trivial]
        obtain ⟨z1, z2⟩ := hR _ (if_pos (.inl q1))
        exact ⟨small_log z2, out_xx z1⟩
      · rw [if_neg q1]
        by_cases q2 : g ≤ y
        · rw [if_pos q2]
          obtain ⟨z1, z2⟩ := hR _ (if_pos (.inr q2))
          exact ⟨small_log z2, out_xx z1⟩
        · rw [if_neg q2]
          exact hN (if_neg fun z => z.elim q1 q2) _ ⟨_, _, rfl⟩
    · rw [hN] at h
      exact out_nx h
    · rw [hr] at h
      refine ⟨h, ?_⟩
      obtain ⟨p, hp, hpe⟩ := List.exists_of_findSome?_eq_some hr
      split at hpe
      · cases hpe
        have := (List.getElem?_eq_some_iff.mp (mem_zipIdx0 hp)).1
        omega
      · cases hpe
  · rw [if_pos e]
    rw [if_pos e] at h
    exact ⟨small_log (by omega), out_xx h⟩
end K15
namespace K15
open PySem PySem.Spec PyProof.Rows L2 DL
variable [B : Obs] {K : PySem.W.Frag} {mg : Str → Option Value} {P : Program} {ds : List D} {M : Md} {Q : VD} {X : XD}
theorem rg_map {n : Int} : ((List.range n.toNat).map fun i => D.int ((i : Nat) : Int)) = (rgI n).map .int := by
  unfold rgI
  rw [List.map_map]
  rfl
theorem gi_mem {f : List Int} {x : Int} (h0 : 0 ≤ x) (h1 : x < f.length) : gi f x ∈ f := by
  unfold gi
  rw [List.getD_eq_getElem?_getD, List.getElem?_eq_getElem (by omega)]
  exact List.getElem_mem _
theorem MapOk.at {f : List Int} {n g x : Int} (h : MapOk f n g) (h0 : 0 ≤ x) (h1 : x < n) : 0 ≤ gi f x ∧ gi f x < g := h.rg _ (gi_mem h0 (by rw [h.len]; exact h1))
theorem faultF_tup {f : List Int} {w : Str} {x : Int} {A Bl : List Int} {r : D} (h : faultF f w x A Bl = some r) : ∃ l, r = .tup l := by
  obtain ⟨y, _, e⟩ := List.exists_of_findSome?_eq_some h
  split at e
  · cases e
  · exact ⟨_, (Option.some.inj e).symm⟩
theorem faultB_tup {f : List Int} {k w : Str} {x : Int} {A Bl : List Int} {r : D} (h : faultB f k w x A Bl = some r) : ∃ l, r = .tup l := by
  obtain ⟨y, _, e⟩ := List.exists_of_findSome?_eq_some h
  split at e
  · exact ⟨_, (Option.some.inj e).symm⟩
  · split at e
    · exact ⟨_, (Option.some.inj e).symm⟩
    · cases e
theorem faultW_tup {f : List Int} {k w : Str} {x : Int} {A Bl : List Int} {r : D} (h : faultW f k w x A Bl = some r) : ∃ l, r = .tup l := by
  unfold faultW at h
  cases e : faultF f w x A Bl with
  | none =>
    rw [e] at h
    exact faultB_tup h
  | some z =>
    rw [e] at h
    cases h
    exact faultF_tup e
theorem faultA_tup {f : List Int} {k : Str} {x : Int} {A Bl : Str → List Int} {r : D} (h : faultA f k x A Bl = some r) : ∃ l, r = .tup l := by
  obtain ⟨y, _, e⟩ := List.exists_of_findSome?_eq_some h
  exact faultW_tup e
theorem p_map_fault (Z : Fc P K mg) (h : sp_map_fault K ds M Q X) : t_map_fault K (outD Q X) (startD N_map_fault ds) M := by
  obtain ⟨F, G, t, u, di, f, k, rfl, wf, wg, hk, hi, hm, h⟩ := h
  have lo := wf.lo
  have hh := wf.hi
  have lg := wg.lo
  have hg := wg.hi
  have hfl := hm.len
  simp only [t_map_fault, N_map_fault, wipeD, items_tup, items_lst, items_rng, tupleD, seqA_tup, seqA_lst, tSq, tIf', tTs, tO, tV, tK, tTr, truD, tNo, tAn, tOr', tAnV, tOrV', tNoV, tIfE, tN0, tCo, tTu, tLs, tCl, tFn, tMh, tRt, tRt0, tNx, tEx, tSe, tAs, gN, gS, gT, gsc, gs0, tU, i2_ii, i2c_ii, rNegD, intC, absD, minD, isD, eqi, eqs, eqb, nei, nes, neb, DL.rIsD, DL.rIsnD, addi, muli, tMe, tMe0, tBk, tCt, outD, EndsD.xk, startD, optP_some, List.map_cons, List.map_nil, List.length_cons, List.length_nil, List.cons_append, List.nil_append, List.append_nil, List.set_cons_zero, List.set_cons_succ, List.set_nil, List.getElem?_cons_zero, List.getElem?_cons_succ, List.replicate_succ, List.replicate_zero, Nat.zero_add, Nat.reduceAdd, Nat.reduceSub, decide_eq_true_eq, Bool.not_eq_true', decide_eq_false_iff_not]
  refine ⟨F, t, k, rfl, wf, hk, ?_⟩
  simp only [wipeD, items_tup, items_lst, items_rng, tupleD, seqA_tup, seqA_lst, tSq, tIf', tTs, tO, tV, tK, tTr, truD, tNo, tAn, tOr', tAnV, tOrV', tNoV, tIfE, tN0, tCo, tTu, tLs, tCl, tFn, tMh, tRt, tRt0, tNx, tEx, tSe, tAs, gN, gS, gT, gsc, gs0, tU, i2_ii, i2c_ii, rNegD, intC, absD, minD, isD, eqi, eqs, eqb, nei, nes, neb, DL.rIsD, DL.rIsnD, addi, muli, tMe, tMe0, tBk, tCt, outD, EndsD.xk, startD, optP_some, List.map_cons, List.map_nil, List.length_cons, List.length_nil, List.cons_append, List.nil_append, List.append_nil, List.set_cons_zero, List.set_cons_succ, List.set_nil, List.getElem?_cons_zero, List.getElem?_cons_succ, List.replicate_succ, List.replicate_zero, Nat.zero_add, Nat.reduceAdd, Nat.reduceSub, decide_eq_true_eq, Bool.not_eq_true', decide_eq_false_iff_not]
  refine ⟨G, u, k, rfl, wg, hk, ?_⟩
  simp only [tFo, tIR1, tFd, fl_frame, lk_size, Z.f_Frame_size, true_and, wipeD, items_tup, items_lst, items_rng, tupleD, seqA_tup, seqA_lst, tSq, tIf', tTs, tO, tV, tK, tTr, truD, tNo, tAn, tOr', tAnV, tOrV', tNoV, tIfE, tN0, tCo, tTu, tLs, tCl, tFn, tMh, tRt, tRt0, tNx, tEx, tSe, tAs, gN, gS, gT, gsc, gs0, tU, i2_ii, i2c_ii, rNegD, intC, absD, minD, isD, eqi, eqs, eqb, nei, nes, neb, DL.rIsD, DL.rIsnD, addi, muli, tMe, tMe0, tBk, tCt, outD, EndsD.xk, startD, optP_some, List.map_cons, List.map_nil, List.length_cons, List.length_nil, List.cons_append, List.nil_append, List.append_nil, List.set_cons_zero, List.set_cons_succ, List.set_nil, List.getElem?_cons_zero, List.getElem?_cons_succ, List.replicate_succ, List.replicate_zero, Nat.zero_add, Nat.reduceAdd, Nat.reduceSub, decide_eq_true_eq, Bool.not_eq_true', decide_eq_false_iff_not, rg_map]
  refine ⟨⟨by omega, by omega⟩, ?_⟩
  refine forGo_ex (α := Int) (β := D) (e := .int) (l := rgI F.n) (inv := fun δ => ∃ a b c d, δ = [some (frameD K F t), some (frameD K G u), some di, some (.str k), some (stepsD F k), some (stepsD G k), a, b, c, d])
    (f := fun x => faultA f k x (fun w => leadsL F w x) (fun w => leadsL G w (gi f x))) (Z := fun r => ∃ M' d', DL.Fin M r M' d' ∧ Q d' M') (by first | trivial | rfl) (fun x hx δ hi' R hN hR => ?_) (fun hN δ hi' => ?_) (fun r hr => ?_) ⟨_, _, _, _, rfl⟩
  · obtain ⟨a, b, c, d, rfl⟩ := hi'
    obtain ⟨x0, x1⟩ := rgI_mem hx
    have y := hm.at x0 x1
    simp only [wipeD, items_tup, items_lst, items_rng, tupleD, seqA_tup, seqA_lst, tSq, tIf', tTs, tO, tV, tK, tTr, truD, tNo, tAn, tOr', tAnV, tOrV', tNoV, tIfE, tN0, tCo, tTu, tLs, tCl, tFn, tMh, tRt, tRt0, tNx, tEx, tSe, tAs, gN, gS, gT, gsc, gs0, tU, i2_ii, i2c_ii, rNegD, intC, absD, minD, isD, eqi, eqs, eqb, nei, nes, neb, DL.rIsD, DL.rIsnD, addi, muli, tMe, tMe0, tBk, tCt, outD, EndsD.xk, startD, optP_some, List.map_cons, List.map_nil, List.length_cons, List.length_nil, List.cons_append, List.nil_append, List.append_nil, List.set_cons_zero, List.set_cons_succ, List.set_nil, List.getElem?_cons_zero, List.getElem?_cons_succ, List.replicate_succ, List.replicate_zero, Nat.zero_add, Nat.reduceAdd, Nat.reduceSub, decide_eq_true_eq, Bool.not_eq_true', decide_eq_false_iff_not, stepsD, rIx_lst, atI_rg x0 x1, ix_eq hi.n (atI_iL x0 (by omega)), atI_rg y.1 y.2]
    refine ⟨x, fun w => leadsL F w x, fun w => leadsL G w (gi f x), di, f, k, rfl, hk, hi.n, fun w y hy => by rw [hfl]; exact (ok_leads wf w x).rg y hy, fun w => (ok_leads wf w x).sz, ?_⟩
    cases e : faultA f k x (fun w => leadsL F w x) (fun w => leadsL G w (gi f x)) with
    | none =>
      simp only [wipeD, items_tup, items_lst, items_rng, tupleD, seqA_tup, seqA_lst, tSq, tIf', tTs, tO, tV, tK, tTr, truD, tNo, tAn, tOr', tAnV, tOrV', tNoV, tIfE, tN0, tCo, tTu, tLs, tCl, tFn, tMh, tRt, tRt0, tNx, tEx, tSe, tAs, gN, gS, gT, gsc, gs0, tU, i2_ii, i2c_ii, rNegD, intC, absD, minD, isD, eqi, eqs, eqb, nei, nes, neb, DL.rIsD, DL.rIsnD, addi, muli, tMe, tMe0, tBk, tCt, outD, EndsD.xk, startD, optP_some, List.map_cons, List.map_nil, List.length_cons, List.length_nil, List.cons_append, List.nil_append, List.append_nil, List.set_cons_zero, List.set_cons_succ, List.set_nil, List.getElem?_cons_zero, List.getElem?_cons_succ, List.replicate_succ, List.replicate_zero, Nat.zero_add, Nat.reduceAdd, Nat.reduceSub, decide_eq_true_eq, Bool.not_eq_true', decide_eq_false_iff_not, orN, DL.isNon, Bool.not_true, Bool.false_eq_true, if_false]
      exact hN e _ ⟨_, _, _, _, rfl⟩
    | some r =>
      obtain ⟨l, rfl⟩ := faultA_tup e
      simp only [wipeD, items_tup, items_lst, items_rng, tupleD, seqA_tup, seqA_lst, tSq, tIf', tTs, tO, tV, tK, tTr, truD, tNo, tAn, tOr', tAnV, tOrV', tNoV, tIfE, tN0, tCo, tTu, tLs, tCl, tFn, tMh, tRt, tRt0, tNx, tEx, tSe, tAs, gN, gS, gT, gsc, gs0, tU, i2_ii, i2c_ii, rNegD, intC, absD, minD, isD, eqi, eqs, eqb, nei, nes, neb, DL.rIsD, DL.rIsnD, addi, muli, tMe, tMe0, tBk, tCt, outD, EndsD.xk, startD, optP_some, List.map_cons, List.map_nil, List.length_cons, List.length_nil, List.cons_append, List.nil_append, List.append_nil, List.set_cons_zero, List.set_cons_succ, List.set_nil, List.getElem?_cons_zero, List.getElem?_cons_succ, List.replicate_succ, List.replicate_zero, Nat.zero_add, Nat.reduceAdd, Nat.reduceSub, decide_eq_true_eq, Bool.not_eq_true', decide_eq_false_iff_not, orN, DL.isNon, Bool.not_false, if_true]
      exact hR _ e
  · obtain ⟨a, b, c, d, rfl⟩ := hi'
    have hN : placeF F G f k = none := hN
    unfold mapF at h
    rw [hN, Option.none_or] at h
    simp only [tFo, tIR1, tFd, fl_frame, lk_size, Z.f_Frame_size, true_and, wipeD, items_tup, items_lst, items_rng, tupleD, seqA_tup, seqA_lst, tSq, tIf', tTs, tO, tV, tK, tTr, truD, tNo, tAn, tOr', tAnV, tOrV', tNoV, tIfE, tN0, tCo, tTu, tLs, tCl, tFn, tMh, tRt, tRt0, tNx, tEx, tSe, tAs, gN, gS, gT, gsc, gs0, tU, i2_ii, i2c_ii, rNegD, intC, absD, minD, isD, eqi, eqs, eqb, nei, nes, neb, DL.rIsD, DL.rIsnD, addi, muli, tMe, tMe0, tBk, tCt, outD, EndsD.xk, startD, optP_some, List.map_cons, List.map_nil, List.length_cons, List.length_nil, List.cons_append, List.nil_append, List.append_nil, List.set_cons_zero, List.set_cons_succ, List.set_nil, List.getElem?_cons_zero, List.getElem?_cons_succ, List.replicate_succ, List.replicate_zero, Nat.zero_add, Nat.reduceAdd, Nat.reduceSub, decide_eq_true_eq, Bool.not_eq_true', decide_eq_false_iff_not, rg_map]
    refine ⟨two, rIn_tup (b := decide (k ∈ (["all", "full"] : List Str))) rfl rfl (inF_strs (w := k) (l := ["all", "full"])) ?_⟩
    simp only [Bool.false_eq_true, if_false, decide_eq_true_eq]
    -- the last part
    have last : ∀ (a b c d : Option D), (∃ M' d', DL.Fin M (orN (twiceF f k F.n) .non) M' d' ∧ Q d' M') → tSq (tIf' (tTs (tO rEqD (tV 3) (tK (.str "full")))) (tFo (tIR1 (tCo (tFd K "size" (tV 0)) tN0)) (gN 6) (tSq (tSe (tIdx (tV 2) (tO rIxD (tV 2) (tV 6))) 9) (tIf' (tTs (tO rLtD (tV 9) (tV 6))) (tRt (tTu (tCo (tK (.str "twice")) (tCo (tK (.str "all")) (tCo (tV 9) (tCo (tV 6) tN0)))))) tNx))) tNx) (tRt (tK .non)) (outD Q X) [some (frameD K F t), some (frameD K G u), some di, some (.str k), some (stepsD F k), some (stepsD G k), a, b, c, d] M := fun a b c d h => by
      simp only [tFo, tIR1, tFd, fl_frame, lk_size, Z.f_Frame_size, true_and, wipeD, items_tup, items_lst, items_rng, tupleD, seqA_tup, seqA_lst, tSq, tIf', tTs, tO, tV, tK, tTr, truD, tNo, tAn, tOr', tAnV, tOrV', tNoV, tIfE, tN0, tCo, tTu, tLs, tCl, tFn, tMh, tRt, tRt0, tNx, tEx, tSe, tAs, gN, gS, gT, gsc, gs0, tU, i2_ii, i2c_ii, rNegD, intC, absD, minD, isD, eqi, eqs, eqb, nei, nes, neb, DL.rIsD, DL.rIsnD, addi, muli, tMe, tMe0, tBk, tCt, outD, EndsD.xk, startD, optP_some, List.map_cons, List.map_nil, List.length_cons, List.length_nil, List.cons_append, List.nil_append, List.append_nil, List.set_cons_zero, List.set_cons_succ, List.set_nil, List.getElem?_cons_zero, List.getElem?_cons_succ, List.replicate_succ, List.replicate_zero, Nat.zero_add, Nat.reduceAdd, Nat.reduceSub, decide_eq_true_eq, Bool.not_eq_true', decide_eq_false_iff_not, rg_map]
      by_cases q : k = "full"
      · rw [if_pos q]
        refine ⟨⟨by omega, by omega⟩, ?_⟩
        have ef : twiceF f k F.n = (rgI F.n).findSome? fun x => if ((f.idxOf (gi f x) : Nat) : Int) < x then some (.tup [.str "twice", .str "all", .int (f.idxOf (gi f x) : Nat), .int x]) else none := if_pos q
        rw [ef] at h
        refine forGo_ex (α := Int) (β := D) (e := .int) (l := rgI F.n) (inv := fun δ => ∃ a b c d, δ = [some (frameD K F t), some (frameD K G u), some di, some (.str k), some (stepsD F k), some (stepsD G k), a, b, c, d])
          (f := fun x => if ((f.idxOf (gi f x) : Nat) : Int) < x then some (.tup [.str "twice", .str "all", .int (f.idxOf (gi f x) : Nat), .int x]) else none) (Z := fun r => ∃ M' d', DL.Fin M r M' d' ∧ Q d' M') (by first | trivial | rfl) (fun x hx δ hi' R hN hR => ?_) (fun hN δ hi' => ?_) (fun r hr => ?_) ⟨_, _, _, _, rfl⟩
        · obtain ⟨a, b, c, d, rfl⟩ := hi'
          obtain ⟨x0, x1⟩ := rgI_mem hx
          simp only [tIdx, wipeD, items_tup, items_lst, items_rng, tupleD, seqA_tup, seqA_lst, tSq, tIf', tTs, tO, tV, tK, tTr, truD, tNo, tAn, tOr', tAnV, tOrV', tNoV, tIfE, tN0, tCo, tTu, tLs, tCl, tFn, tMh, tRt, tRt0, tNx, tEx, tSe, tAs, gN, gS, gT, gsc, gs0, tU, i2_ii, i2c_ii, rNegD, intC, absD, minD, isD, eqi, eqs, eqb, nei, nes, neb, DL.rIsD, DL.rIsnD, addi, muli, tMe, tMe0, tBk, tCt, outD, EndsD.xk, startD, optP_some, List.map_cons, List.map_nil, List.length_cons, List.length_nil, List.cons_append, List.nil_append, List.append_nil, List.set_cons_zero, List.set_cons_succ, List.set_nil, List.getElem?_cons_zero, List.getElem?_cons_succ, List.replicate_succ, List.replicate_zero, Nat.zero_add, Nat.reduceAdd, Nat.reduceSub, decide_eq_true_eq, Bool.not_eq_true', decide_eq_false_iff_not, ix_eq hi.n (atI_iL x0 (by omega))]
          refine ⟨hi.ok, f, gi f x, f.idxOf (gi f x), by first | trivial | rfl, hi.n, by first | trivial | rfl, ?_, ?_, ?_⟩
          · have hmem := gi_mem (f := f) x0 (by omega)
            rw [List.getElem?_eq_getElem (List.idxOf_lt_length_of_mem hmem), List.getElem_idxOf]
          · intro m hm' e
            have hl := (List.getElem?_eq_some_iff.mp e)
            obtain ⟨h1, h2⟩ := hl
            have q3 := List.not_of_lt_findIdx (p := fun z => z == gi f x) (xs := f) hm'
            rw [h2] at q3
            simp at q3
          · split
            · rename_i q2
              exact ⟨four, hR _ (if_pos q2)⟩
            · rename_i q2
              exact hN (if_neg q2) _ ⟨_, _, _, _, rfl⟩
        · rw [hN] at h
          obtain ⟨a, b, c, d, rfl⟩ := hi'
          exact h
        · rw [hr] at h
          exact h
      · rw [if_neg q]
        rw [show twiceF f k F.n = none from if_neg q] at h
        exact h
    have hq : (k ∈ (["all", "full"] : List Str)) ↔ (k = "all" ∨ k = "full") := by simp
    by_cases q : k = "all" ∨ k = "full"
    · rw [if_pos (hq.mpr q)]
      refine ⟨⟨by omega, by omega⟩, ?_⟩
      have ef : missF f k G.n = (rgI G.n).findSome? fun v => if v ∈ f then none else some (.tup [.str "missed", .str "all", .int v, .int v]) := if_pos q
      rw [ef] at h
      refine forGo_ex (α := Int) (β := D) (e := .int) (l := rgI G.n) (inv := fun δ => ∃ a b c d, δ = [some (frameD K F t), some (frameD K G u), some di, some (.str k), some (stepsD F k), some (stepsD G k), a, b, c, d])
        (f := fun v => if v ∈ f then none else some (.tup [.str "missed", .str "all", .int v, .int v])) (Z := fun r => ∃ M' d', DL.Fin M r M' d' ∧ Q d' M') (by first | trivial | rfl) (fun v hv δ hi' R hN hR => ?_) (fun hN δ hi' => ?_) (fun r hr => ?_) ⟨_, _, _, _, rfl⟩
      · obtain ⟨a, b, c, d, rfl⟩ := hi'
        simp only [wipeD, items_tup, items_lst, items_rng, tupleD, seqA_tup, seqA_lst, tSq, tIf', tTs, tO, tV, tK, tTr, truD, tNo, tAn, tOr', tAnV, tOrV', tNoV, tIfE, tN0, tCo, tTu, tLs, tCl, tFn, tMh, tRt, tRt0, tNx, tEx, tSe, tAs, gN, gS, gT, gsc, gs0, tU, i2_ii, i2c_ii, rNegD, intC, absD, minD, isD, eqi, eqs, eqb, nei, nes, neb, DL.rIsD, DL.rIsnD, addi, muli, tMe, tMe0, tBk, tCt, outD, EndsD.xk, startD, optP_some, List.map_cons, List.map_nil, List.length_cons, List.length_nil, List.cons_append, List.nil_append, List.append_nil, List.set_cons_zero, List.set_cons_succ, List.set_nil, List.getElem?_cons_zero, List.getElem?_cons_succ, List.replicate_succ, List.replicate_zero, Nat.zero_add, Nat.reduceAdd, Nat.reduceSub, decide_eq_true_eq, Bool.not_eq_true', decide_eq_false_iff_not]
        refine rIn_at (l := f) hi.n ?_
        simp only [if_true, Bool.not_eq_true', decide_eq_false_iff_not]
        by_cases q2 : v ∈ f
        · rw [if_neg (by simp [q2])]
          exact hN (if_pos q2) _ ⟨_, _, _, _, rfl⟩
        · rw [if_pos q2]
          exact ⟨four, hR _ (if_neg q2)⟩
      · rw [hN, Option.none_or] at h
        obtain ⟨a, b, c, d, rfl⟩ := hi'
        exact last _ _ _ _ (out_ret h)
      · rw [hr, Option.some_or] at h
        exact out_ret h
    · rw [if_neg fun z => q (hq.mp z)]
      rw [show missF f k G.n = none from if_neg q, Option.none_or] at h
      have z := last a b c d (out_ret h)
      simp only [tFo, tIR1, tFd, fl_frame, lk_size, Z.f_Frame_size, true_and, wipeD, items_tup, items_lst, items_rng, tupleD, seqA_tup, seqA_lst, tSq, tIf', tTs, tO, tV, tK, tTr, truD, tNo, tAn, tOr', tAnV, tOrV', tNoV, tIfE, tN0, tCo, tTu, tLs, tCl, tFn, tMh, tRt, tRt0, tNx, tEx, tSe, tAs, gN, gS, gT, gsc, gs0, tU, i2_ii, i2c_ii, rNegD, intC, absD, minD, isD, eqi, eqs, eqb, nei, nes, neb, DL.rIsD, DL.rIsnD, addi, muli, tMe, tMe0, tBk, tCt, outD, EndsD.xk, startD, optP_some, List.map_cons, List.map_nil, List.length_cons, List.length_nil, List.cons_append, List.nil_append, List.append_nil, List.set_cons_zero, List.set_cons_succ, List.set_nil, List.getElem?_cons_zero, List.getElem?_cons_succ, List.replicate_succ, List.replicate_zero, Nat.zero_add, Nat.reduceAdd, Nat.reduceSub, decide_eq_true_eq, Bool.not_eq_true', decide_eq_false_iff_not, rg_map] at z
      exact z
  · have hr : placeF F G f k = some r := hr
    unfold mapF at h
    rw [hr, Option.some_or] at h
    exact out_ret h
end K15
namespace K15
open PySem PySem.Spec PyProof.Rows L2 DL
variable [B : Obs] {K : PySem.W.Frag} {mg : Str → Option Value} {P : Program} {ds : List D} {M : Md} {Q : VD} {X : XD}
theorem bad_none {f : List Int} {n g : Int} (h : badAt f n g = none) : MapOk f n g := by
  unfold badAt at h
  split at h
  · cases h
  · rename_i e
    refine ⟨by omega, fun y hy => ?_⟩
    obtain ⟨i, hi⟩ := List.getElem?_of_mem hy
    have z := List.findSome?_eq_none_iff.mp h (y, i) (List.mem_zipIdx_iff_getElem?.mpr hi)
    split at z
    · cases z
    · rename_i q
      have q1 : ¬ (y < 0 ∨ g ≤ y) := q
      omega
theorem p_led_fault (Z : Fc P K mg) (h : sp_led_fault K ds M Q X) : t_led_fault K (outD Q X) (startD N_led_fault ds) M := by
  obtain ⟨F, G, t, u, di, f, k, rfl, wf, wg, hk, hi, hl, h⟩ := h
  simp only [t_led_fault, N_led_fault, wipeD, items_tup, items_lst, items_rng, tupleD, seqA_tup, seqA_lst, tSq, tIf', tTs, tO, tV, tK, tTr, truD, tNo, tAn, tOr', tAnV, tOrV', tNoV, tIfE, tN0, tCo, tTu, tLs, tCl, tFn, tMh, tRt, tRt0, tNx, tEx, tSe, tAs, gN, gS, gT, gsc, gs0, tU, i2_ii, i2c_ii, rNegD, intC, absD, minD, isD, eqi, eqs, eqb, nei, nes, neb, DL.rIsD, DL.rIsnD, addi, muli, tMe, tMe0, tBk, tCt, outD, EndsD.xk, startD, optP_some, List.map_cons, List.map_nil, List.length_cons, List.length_nil, List.cons_append, List.nil_append, List.append_nil, List.set_cons_zero, List.set_cons_succ, List.set_nil, List.getElem?_cons_zero, List.getElem?_cons_succ, List.replicate_succ, List.replicate_zero, Nat.zero_add, Nat.reduceAdd, Nat.reduceSub, decide_eq_true_eq, Bool.not_eq_true', decide_eq_false_iff_not]
  refine ⟨k, rfl, hk, ?_⟩
  simp only [wipeD, items_tup, items_lst, items_rng, tupleD, seqA_tup, seqA_lst, tSq, tIf', tTs, tO, tV, tK, tTr, truD, tNo, tAn, tOr', tAnV, tOrV', tNoV, tIfE, tN0, tCo, tTu, tLs, tCl, tFn, tMh, tRt, tRt0, tNx, tEx, tSe, tAs, gN, gS, gT, gsc, gs0, tU, i2_ii, i2c_ii, rNegD, intC, absD, minD, isD, eqi, eqs, eqb, nei, nes, neb, DL.rIsD, DL.rIsnD, addi, muli, tMe, tMe0, tBk, tCt, outD, EndsD.xk, startD, optP_some, List.map_cons, List.map_nil, List.length_cons, List.length_nil, List.cons_append, List.nil_append, List.append_nil, List.set_cons_zero, List.set_cons_succ, List.set_nil, List.getElem?_cons_zero, List.getElem?_cons_succ, List.replicate_succ, List.replicate_zero, Nat.zero_add, Nat.reduceAdd, Nat.reduceSub, decide_eq_true_eq, Bool.not_eq_true', decide_eq_false_iff_not, tFd, fl_frame, lk_size, Z.f_Frame_size, true_and]
  refine ⟨di, f, F.n, G.n, rfl, hi.n, hl, ?_⟩
  cases e : badAt f F.n G.n with
  | some i =>
    rw [e] at h
    exact out_xx h
  | none =>
    rw [e] at h
    exact ⟨F, G, t, u, di, f, k, rfl, wf, wg, hk, hi, bad_none e, out_ret h⟩
theorem mapF_tup {F G : Fr} {f : List Int} {k : Str} {r : D} (h : mapF F G f k = some r) : ∃ l, r = .tup l := by
  unfold mapF at h
  cases e : placeF F G f k with
  | some z =>
    rw [e, Option.some_or] at h
    cases h
    obtain ⟨x, _, q⟩ := List.exists_of_findSome?_eq_some e
    exact faultA_tup q
  | none =>
    rw [e, Option.none_or] at h
    cases e2 : missF f k G.n with
    | some z =>
      rw [e2, Option.some_or] at h
      cases h
      unfold missF at e2
      split at e2
      · obtain ⟨x, _, q⟩ := List.exists_of_findSome?_eq_some e2
        split at q
        · cases q
        · exact ⟨_, (Option.some.inj q).symm⟩
      · cases e2
    | none =>
      rw [e2, Option.none_or] at h
      unfold twiceF at h
      split at h
      · obtain ⟨x, _, q⟩ := List.exists_of_findSome?_eq_some h
        split at q
        · exact ⟨_, (Option.some.inj q).symm⟩
        · cases q
      · cases h
theorem p_is_led (Z : Fc P K mg) (h : sp_is_led K ds M Q X) : t_is_led K (outD Q X) (startD N_is_led ds) M := by
  obtain ⟨F, G, t, u, di, f, k, rfl, wf, wg, hk, hi, hl, h⟩ := h
  simp only [t_is_led, N_is_led, wipeD, items_tup, items_lst, items_rng, tupleD, seqA_tup, seqA_lst, tSq, tIf', tTs, tO, tV, tK, tTr, truD, tNo, tAn, tOr', tAnV, tOrV', tNoV, tIfE, tN0, tCo, tTu, tLs, tCl, tFn, tMh, tRt, tRt0, tNx, tEx, tSe, tAs, gN, gS, gT, gsc, gs0, tU, i2_ii, i2c_ii, rNegD, intC, absD, minD, isD, eqi, eqs, eqb, nei, nes, neb, DL.rIsD, DL.rIsnD, addi, muli, tMe, tMe0, tBk, tCt, outD, EndsD.xk, startD, optP_some, List.map_cons, List.map_nil, List.length_cons, List.length_nil, List.cons_append, List.nil_append, List.append_nil, List.set_cons_zero, List.set_cons_succ, List.set_nil, List.getElem?_cons_zero, List.getElem?_cons_succ, List.replicate_succ, List.replicate_zero, Nat.zero_add, Nat.reduceAdd, Nat.reduceSub, decide_eq_true_eq, Bool.not_eq_true', decide_eq_false_iff_not]
  refine ⟨k, rfl, hk, ?_⟩
  simp only [wipeD, items_tup, items_lst, items_rng, tupleD, seqA_tup, seqA_lst, tSq, tIf', tTs, tO, tV, tK, tTr, truD, tNo, tAn, tOr', tAnV, tOrV', tNoV, tIfE, tN0, tCo, tTu, tLs, tCl, tFn, tMh, tRt, tRt0, tNx, tEx, tSe, tAs, gN, gS, gT, gsc, gs0, tU, i2_ii, i2c_ii, rNegD, intC, absD, minD, isD, eqi, eqs, eqb, nei, nes, neb, DL.rIsD, DL.rIsnD, addi, muli, tMe, tMe0, tBk, tCt, outD, EndsD.xk, startD, optP_some, List.map_cons, List.map_nil, List.length_cons, List.length_nil, List.cons_append, List.nil_append, List.append_nil, List.set_cons_zero, List.set_cons_succ, List.set_nil, List.getElem?_cons_zero, List.getElem?_cons_succ, List.replicate_succ, List.replicate_zero, Nat.zero_add, Nat.reduceAdd, Nat.reduceSub, decide_eq_true_eq, Bool.not_eq_true', decide_eq_false_iff_not, tFd, fl_frame, lk_size, Z.f_Frame_size, true_and]
  refine ⟨di, f, F.n, G.n, rfl, hi.n, hl, ?_⟩
  cases e : badAt f F.n G.n with
  | some i =>
    rw [e] at h
    exact out_xx h
  | none =>
    rw [e] at h
    refine ⟨F, G, t, u, di, f, k, rfl, wf, wg, hk, hi, bad_none e, ?_⟩
    cases e2 : mapF F G f k with
    | none =>
      rw [e2] at h
      exact out_ret h
    | some r =>
      rw [e2] at h
      obtain ⟨l, rfl⟩ := mapF_tup e2
      exact out_ret h
end K15
namespace K15
open PySem PySem.Spec PyProof.Rows L2 DL
variable [B : Obs] {K : PySem.W.Frag} {mg : Str → Option Value} {P : Program} {ds : List D} {M : Md} {Q : VD} {X : XD}
theorem forth_snoc (pre : Prs) (p : Int × Int) (z : Int) : forthL (pre ++ [p]) z = if z = p.1 then forthL pre z ++ [p.2] else forthL pre z := by
  unfold forthL
  rw [List.filter_append, List.map_append]
  by_cases e : z = p.1
  · rw [if_pos e, List.filter_cons_of_pos (by simp [e])]
    rfl
  · rw [if_neg e, List.filter_cons_of_neg (by simp; exact fun h => e h.symm), List.filter_nil, List.map_nil, List.append_nil]
theorem back_snoc (pre : Prs) (p : Int × Int) (z : Int) : backL (pre ++ [p]) z = if z = p.2 then backL pre z ++ [p.1] else backL pre z := by
  unfold backL
  rw [List.filter_append, List.map_append]
  by_cases e : z = p.2
  · rw [if_pos e, List.filter_cons_of_pos (by simp [e])]
    rfl
  · rw [if_neg e, List.filter_cons_of_neg (by simp; exact fun h => e h.symm), List.filter_nil, List.map_nil, List.append_nil]
def fA (n : Int) (pre : Prs) : List D := (rgI n).map fun x => maskD (forthL pre x)
def bA (n : Int) (pre : Prs) : List D := (rgI n).map fun x => maskD (backL pre x)
theorem fA_len {n : Int} {pre : Prs} : (fA n pre).length = n.toNat := by rw [fA, List.length_map, rgI_len]
theorem bA_len {n : Int} {pre : Prs} : (bA n pre).length = n.toNat := by rw [bA, List.length_map, rgI_len]
theorem mask_or (l : List Int) (y : Int) : D.int (Builtin.bitOr ((maskN l : Nat) : Int) (1 * 2 ^ y.toNat)) = maskD (l ++ [y]) := by
  have e : (1 * 2 ^ y.toNat : Int) = ((2 ^ y.toNat : Nat) : Int) := by
    rw [Int.one_mul, Int.natCast_pow]
    rfl
  rw [e, bitOr_nat, ← mask_snoc]
  rfl
theorem fA_snoc {n : Int} {pre : Prs} {p : Int × Int} (h0 : 0 ≤ p.1) : (fA n pre).set p.1.toNat (maskD (forthL pre p.1 ++ [p.2])) = fA n (pre ++ [p]) := by
  unfold fA
  rw [rg_set h0]
  refine List.map_congr_left fun z _ => ?_
  rw [forth_snoc]
  split
  · rename_i e
    rw [e]
  · rfl
theorem bA_snoc {n : Int} {pre : Prs} {p : Int × Int} (h0 : 0 ≤ p.2) : (bA n pre).set p.2.toNat (maskD (backL pre p.2 ++ [p.1])) = bA n (pre ++ [p]) := by
  unfold bA
  rw [rg_set h0]
  refine List.map_congr_left fun z _ => ?_
  rw [back_snoc]
  split
  · rename_i e
    rw [e]
  · rfl
theorem fA_nil {n : Int} : fA n [] = List.replicate n.toNat (.int 0) := (show ((rgI n).map fun _ => D.int 0) = _ from rg_const)
theorem bA_nil {n : Int} : bA n [] = List.replicate n.toNat (.int 0) := (show ((rgI n).map fun _ => D.int 0) = _ from rg_const)
theorem pow_cond {y : Int} (h0 : 0 ≤ y) (h1 : y < 1000) : CPow 1 y := ⟨h0, by omega, by decide⟩
/-- the inner loop: the pairs of one way -/
theorem pairs_loop {n : Int} {ps : Prs} (wp : WfP n ps) (hn : n ≤ 130) {E : EndsD} {N : Md} {q r : Addr} {d0 d1 d2 d3 d4 d5 d6 : Option D} (hne : q ≠ r) (hq : N q = some (.lst (fA n []))) (hr : N r = some (.lst (bA n []))) {ok : Md → Prop} (hok : ∀ N, ok N) {a b : Option D}
    (fin : ∀ (a b : Option D) (N' : Md), N' q = some (.lst (fA n ps)) → N' r = some (.lst (bA n ps)) → (∀ z, z ≠ q → z ≠ r → N' z = N z) → E.nx [d0, d1, d2, d3, d4, d5, d6, some (.ref q), some (.ref r), a, b] N') :
    forGo (gT 2 (gsc (gN 9) (gsc (gN 10) gs0))) (tSq (tAs (tO rOrD (tO rIxD (tV 7) (tV 9)) (tO rShlD (tK (.int 1)) (tV 10))) (gS (tV 7) (tV 9))) (tAs (tO rOrD (tO rIxD (tV 8) (tV 10)) (tO rShlD (tK (.int 1)) (tV 9))) (gS (tV 8) (tV 10)))) ok E (ps.map pD) [d0, d1, d2, d3, d4, d5, d6, some (.ref q), some (.ref r), a, b] N := by
  refine forGo_pre (P := fun pre δ N' => N' q = some (.lst (fA n pre)) ∧ N' r = some (.lst (bA n pre)) ∧ (∀ z, z ≠ q → z ≠ r → N' z = N z) ∧ ∃ a b, δ = [d0, d1, d2, d3, d4, d5, d6, some (.ref q), some (.ref r), a, b]) (fun δ N' hi => ?_) (fun pre p post hl δ N' hi R hR => ?_) ⟨hq, hr, fun _ _ _ => rfl, _, _, rfl⟩
  · obtain ⟨h1, h2, h3, a, b, rfl⟩ := hi
    exact ⟨hok _, fin _ _ _ h1 h2 h3⟩
  · obtain ⟨h1, h2, h3, a, b, rfl⟩ := hi
    obtain ⟨⟨x0, x1⟩, y0, y1⟩ := wp.rg p (by rw [hl]; exact List.mem_append_right _ List.mem_cons_self)
    refine ⟨hok _, ?_⟩
    have f1 : atI (fA n pre) p.1 = some (maskD (forthL pre p.1)) := atI_rg x0 x1
    have b1 : atI (bA n pre) p.2 = some (maskD (backL pre p.2)) := atI_rg y0 y1
    have s1 : seqA N' (.ref q) = some (fA n pre) := by
      show (match N' q with
        | some (MC.lst xs) => some xs
        | some (MC.tux xs) => some xs
        | _ => none) = _
      rw [h1]
    simp only [pD, maskD, wipeD, items_tup, items_lst, items_rng, tupleD, seqA_tup, seqA_lst, tSq, tIf', tTs, tO, tV, tK, tTr, truD, tNo, tAn, tOr', tAnV, tOrV', tNoV, tIfE, tN0, tCo, tTu, tLs, tCl, tFn, tMh, tRt, tRt0, tNx, tEx, tSe, tAs, gN, gS, gT, gsc, gs0, tU, i2_ii, i2c_ii, rNegD, intC, absD, minD, isD, eqi, eqs, eqb, nei, nes, neb, DL.rIsD, DL.rIsnD, addi, muli, tMe, tMe0, tBk, tCt, outD, EndsD.xk, startD, optP_some, List.map_cons, List.map_nil, List.length_cons, List.length_nil, List.cons_append, List.nil_append, List.append_nil, List.set_cons_zero, List.set_cons_succ, List.set_nil, List.getElem?_cons_zero, List.getElem?_cons_succ, List.replicate_succ, List.replicate_zero, Nat.zero_add, Nat.reduceAdd, Nat.reduceSub, decide_eq_true_eq, Bool.not_eq_true', decide_eq_false_iff_not, ix_eq s1 f1]
    refine ⟨trivial, pow_cond y0 (by omega), ?_⟩
    rw [mask_or, setD_eq h1 x0 (by rw [fA_len]; omega), fA_snoc x0]
    have s2 : seqA (put N' q (.lst (fA n (pre ++ [p])))) (.ref r) = some (bA n pre) := by
      show (match put N' q (.lst (fA n (pre ++ [p]))) r with
        | some (MC.lst xs) => some xs
        | some (MC.tux xs) => some xs
        | _ => none) = _
      rw [put_ne hne.symm, h2]
    simp only [maskD, wipeD, items_tup, items_lst, items_rng, tupleD, seqA_tup, seqA_lst, tSq, tIf', tTs, tO, tV, tK, tTr, truD, tNo, tAn, tOr', tAnV, tOrV', tNoV, tIfE, tN0, tCo, tTu, tLs, tCl, tFn, tMh, tRt, tRt0, tNx, tEx, tSe, tAs, gN, gS, gT, gsc, gs0, tU, i2_ii, i2c_ii, rNegD, intC, absD, minD, isD, eqi, eqs, eqb, nei, nes, neb, DL.rIsD, DL.rIsnD, addi, muli, tMe, tMe0, tBk, tCt, outD, EndsD.xk, startD, optP_some, List.map_cons, List.map_nil, List.length_cons, List.length_nil, List.cons_append, List.nil_append, List.append_nil, List.set_cons_zero, List.set_cons_succ, List.set_nil, List.getElem?_cons_zero, List.getElem?_cons_succ, List.replicate_succ, List.replicate_zero, Nat.zero_add, Nat.reduceAdd, Nat.reduceSub, decide_eq_true_eq, Bool.not_eq_true', decide_eq_false_iff_not, ix_eq s2 b1]
    refine ⟨pow_cond x0 (by omega), ?_⟩
    rw [mask_or, setD_eq (xs := bA n pre) (by rw [put_ne hne.symm, h2]) y0 (by rw [bA_len]; omega), bA_snoc y0]
    refine hR _ _ ⟨by rw [put_ne hne, put_same], put_same, fun z z1 z2 => by rw [put_ne z2, put_ne z1, h3 z z1 z2], _, _, rfl⟩
end K15
namespace K15
open PySem PySem.Spec PyProof.Rows L2 DL
variable [B : Obs] {K : PySem.W.Frag} {mg : Str → Option Value} {P : Program} {ds : List D} {M : Md} {Q : VD} {X : XD}
theorem seqA_cell {N : Md} {q : Addr} {xs : List D} (h : N q = some (.lst xs)) : seqA N (.ref q) = some xs := by
  show (match N q with
    | some (MC.lst xs) => some xs
    | some (MC.tux xs) => some xs
    | _ => none) = _
  rw [h]
theorem seqL_cell {N : Md} {q : Addr} {xs : List D} (h : N q = some (.lst xs)) : seqL N (.ref q) = some xs := by
  show (match N q with
    | some (MC.lst xs) => some xs
    | _ => none) = _
  rw [h]
theorem seqB_cell {N : Md} {q : Addr} {xs : List D} (h : N q = some (.lst xs)) : seqB N (.ref q) = some xs := seqL_cell h
theorem seqS_cell {N : Md} {q : Addr} {xs : List D} (h : N q = some (.lst xs)) : seqS N (.ref q) = some (false, xs) := by
  show (match N q with
    | some (MC.lst xs) => some (false, xs)
    | some (MC.tux xs) => some (true, xs)
    | _ => none) = _
  rw [h]
theorem rep1 {n : Nat} {v : D} : (List.replicate n [v]).flatten = List.replicate n v := List.flatten_replicate_singleton
def bodyW : TSd := tSq (tSe (tO rMulM (tLs (tCo (tK (.int 0)) tN0)) (tV 0)) 7) (tSq (tSe (tO rMulM (tLs (tCo (tK (.int 0)) tN0)) (tV 0)) 8) (tSq (tFo (tIS (tV 6)) (gT 2 (gsc (gN 9) (gsc (gN 10) gs0))) (tSq (tAs (tO rOrD (tO rIxD (tV 7) (tV 9)) (tO rShlD (tK (.int 1)) (tV 10))) (gS (tV 7) (tV 9))) (tAs (tO rOrD (tO rIxD (tV 8) (tV 10)) (tO rShlD (tK (.int 1)) (tV 9))) (gS (tV 8) (tV 10))))) (tSq (tAs (tCl tupleD (tCo (tV 7) tN0)) (gDs (tV 4) (tV 5))) (tAs (tCl tupleD (tCo (tV 8) tN0)) (gDs (tV 4) (tO rAddD (tK (.str "~")) (tV 5)))))))
theorem one_way {n : Int} {ps : Prs} (wp : WfP n ps) (lo : 1 ≤ n) (hn : n ≤ 130) {E : EndsD} {N : Md} {p : Addr} {w w' : Str} {kvs : List (Key × D)} (hw : ("~" : Str) ++ w = w') (hwl : w.length ≤ 10) (hk : kvs.length ≤ 100) (hp : N p = some (.dic kvs)) {d1 d2 d3 a b c d : Option D}
    (fin : ∀ (a b c d : Option D) (N' : Md), N' p = some (.dic (putKD (putKD kvs (.inr w) (.tup (fA n ps))) (.inr w') (.tup (bA n ps)))) → (∀ z e, z ≠ p → N z = some e → N' z = some e) → E.nx [some (.int n), d1, d2, d3, some (.ref p), some (.str w), some (prD ps), a, b, c, d] N') :
    bodyW E [some (.int n), d1, d2, d3, some (.ref p), some (.str w), some (prD ps), a, b, c, d] N := by
  have l1 : 1 ≤ sizeLine := by rw [sizeLine_eq]; decide
  have pk : (putKD kvs (.inr w) (.tup (fA n ps))).length ≤ kvs.length + 1 := by
    unfold putKD
    split
    · rw [List.length_map]
      omega
    · rw [List.length_append]
      exact Nat.le_refl _
  simp only [bodyW, tFo, tIS, rMulM, seqL, wipeD, items_tup, items_lst, items_rng, tupleD, seqA_tup, seqA_lst, tSq, tIf', tTs, tO, tV, tK, tTr, truD, tNo, tAn, tOr', tAnV, tOrV', tNoV, tIfE, tN0, tCo, tTu, tLs, tCl, tFn, tMh, tRt, tRt0, tNx, tEx, tSe, tAs, gN, gS, gT, gsc, gs0, tU, i2_ii, i2c_ii, rNegD, intC, absD, minD, isD, eqi, eqs, eqb, nei, nes, neb, DL.rIsD, DL.rIsnD, addi, muli, tMe, tMe0, tBk, tCt, outD, EndsD.xk, startD, optP_some, List.map_cons, List.map_nil, List.length_cons, List.length_nil, List.cons_append, List.nil_append, List.append_nil, List.set_cons_zero, List.set_cons_succ, List.set_nil, List.getElem?_cons_zero, List.getElem?_cons_succ, List.replicate_succ, List.replicate_zero, Nat.zero_add, Nat.reduceAdd, Nat.reduceSub, decide_eq_true_eq, Bool.not_eq_true', decide_eq_false_iff_not]
  refine ⟨l1, ⟨by omega, by omega⟩, by rw [sizeLine_eq]; omega, fun q hq => ?_⟩
  refine ⟨l1, ⟨by omega, by omega⟩, by rw [sizeLine_eq]; omega, fun r hr => ?_⟩
  rw [rep1]
  have hne : q ≠ r := fun z => by
    subst z
    rw [put_same] at hr
    cases hr
  have hpq : p ≠ q := fun z => by
    subst z
    rw [hp] at hq
    cases hq
  have hpr : p ≠ r := fun z => by
    subst z
    rw [put_ne hpq, hp] at hr
    cases hr
  have hr' : N r = none := by
    rw [put_ne hne.symm] at hr
    exact hr
  simp only [prD, wipeD, items_tup, items_lst, items_rng, tupleD, seqA_tup, seqA_lst, tSq, tIf', tTs, tO, tV, tK, tTr, truD, tNo, tAn, tOr', tAnV, tOrV', tNoV, tIfE, tN0, tCo, tTu, tLs, tCl, tFn, tMh, tRt, tRt0, tNx, tEx, tSe, tAs, gN, gS, gT, gsc, gs0, tU, i2_ii, i2c_ii, rNegD, intC, absD, minD, isD, eqi, eqs, eqb, nei, nes, neb, DL.rIsD, DL.rIsnD, addi, muli, tMe, tMe0, tBk, tCt, outD, EndsD.xk, startD, optP_some, List.map_cons, List.map_nil, List.length_cons, List.length_nil, List.cons_append, List.nil_append, List.append_nil, List.set_cons_zero, List.set_cons_succ, List.set_nil, List.getElem?_cons_zero, List.getElem?_cons_succ, List.replicate_succ, List.replicate_zero, Nat.zero_add, Nat.reduceAdd, Nat.reduceSub, decide_eq_true_eq, Bool.not_eq_true', decide_eq_false_iff_not]
  refine pairs_loop wp hn hne (by rw [put_ne hne, put_same, fA_nil]) (by rw [put_same, bA_nil]) (fun _ => rfl) fun a b N' h1 h2 h3 => ?_
  have hp' : N' p = some (.dic kvs) := by rw [h3 p hpq hpr, put_ne hpr, put_ne hpq, hp]
  simp only [wipeD, items_tup, items_lst, items_rng, tupleD, seqA_tup, seqA_lst, tSq, tIf', tTs, tO, tV, tK, tTr, truD, tNo, tAn, tOr', tAnV, tOrV', tNoV, tIfE, tN0, tCo, tTu, tLs, tCl, tFn, tMh, tRt, tRt0, tNx, tEx, tSe, tAs, gN, gS, gT, gsc, gs0, tU, i2_ii, i2c_ii, rNegD, intC, absD, minD, isD, eqi, eqs, eqb, nei, nes, neb, DL.rIsD, DL.rIsnD, addi, muli, tMe, tMe0, tBk, tCt, outD, EndsD.xk, startD, optP_some, List.map_cons, List.map_nil, List.length_cons, List.length_nil, List.cons_append, List.nil_append, List.append_nil, List.set_cons_zero, List.set_cons_succ, List.set_nil, List.getElem?_cons_zero, List.getElem?_cons_succ, List.replicate_succ, List.replicate_zero, Nat.zero_add, Nat.reduceAdd, Nat.reduceSub, decide_eq_true_eq, Bool.not_eq_true', decide_eq_false_iff_not, gDs, seqB_cell h1]
  rw [putDD_eq hp' rfl (by rw [sizeLine_eq]; omega)]
  have h2' : put N' p (.dic (putKD kvs (.inr w) (.tup (fA n ps)))) r = some (.lst (bA n ps)) := by rw [put_ne hpr.symm, h2]
  simp only [wipeD, items_tup, items_lst, items_rng, tupleD, seqA_tup, seqA_lst, tSq, tIf', tTs, tO, tV, tK, tTr, truD, tNo, tAn, tOr', tAnV, tOrV', tNoV, tIfE, tN0, tCo, tTu, tLs, tCl, tFn, tMh, tRt, tRt0, tNx, tEx, tSe, tAs, gN, gS, gT, gsc, gs0, tU, i2_ii, i2c_ii, rNegD, intC, absD, minD, isD, eqi, eqs, eqb, nei, nes, neb, DL.rIsD, DL.rIsnD, addi, muli, tMe, tMe0, tBk, tCt, outD, EndsD.xk, startD, optP_some, List.map_cons, List.map_nil, List.length_cons, List.length_nil, List.cons_append, List.nil_append, List.append_nil, List.set_cons_zero, List.set_cons_succ, List.set_nil, List.getElem?_cons_zero, List.getElem?_cons_succ, List.replicate_succ, List.replicate_zero, Nat.zero_add, Nat.reduceAdd, Nat.reduceSub, decide_eq_true_eq, Bool.not_eq_true', decide_eq_false_iff_not, gDs, seqB_cell h2', rAddD]
  refine ⟨by rw [sizeLine_eq]; show 1 + w.length ≤ _; omega, ?_⟩
  rw [hw, putDD_eq put_same rfl (by rw [sizeLine_eq]; omega), put_put]
  refine fin _ _ _ _ _ put_same fun z e z1 ze => ?_
  have zq : z ≠ q := fun y => by
    subst y
    rw [hq] at ze
    cases ze
  have zr : z ≠ r := fun y => by
    subst y
    rw [hr'] at ze
    cases ze
  rw [put_ne z1, h3 z zq zr, put_ne zr, put_ne zq]
  exact ze
def kvs6 (v1 v2 v3 v4 v5 v6 : D) : List (Key × D) := [(.inr "a", v1), (.inr "~a", v2), (.inr "b", v3), (.inr "~b", v4), (.inr "c", v5), (.inr "~c", v6)]
theorem put6 (v1 v2 v3 v4 v5 v6 : D) : putKD (putKD (putKD (putKD (putKD (putKD [] (.inr "a") v1) (.inr "~a") v2) (.inr "b") v3) (.inr "~b") v4) (.inr "c") v5) (.inr "~c") v6 = kvs6 v1 v2 v3 v4 v5 v6 := rfl
theorem put7 (v1 v2 v3 v4 v5 v6 v7 : D) : putKD (kvs6 v1 v2 v3 v4 v5 v6) (.inr "all") v7 = kvs6 v1 v2 v3 v4 v5 v6 ++ [(.inr "all", v7)] := rfl
theorem t_sf : t_steps_of_frames K = tSq (tSe tDi0 4) (tSq (tFo (tIZp (tCo (tK (.tup [.str "a", .str "b", .str "c"])) (tCo (tTu (tCo (tV 1) (tCo (tV 2) (tCo (tV 3) tN0)))) tN0))) (gT 2 (gsc (gN 5) (gsc (gN 6) gs0))) bodyW) (tSq (tAs (tO rMulT (tTu (tCo (tO rSubD (tO rShlD (tK (.int 1)) (tV 0)) (tK (.int 1))) tN0)) (tV 0)) (gDs (tV 4) (tK (.str "all")))) (tRt (tV 4)))) := rfl
theorem p_steps_of_frames (h : sp_steps_of_frames K ds M Q X) : t_steps_of_frames K (outD Q X) (startD N_steps_of_frames ds) M := by
  obtain ⟨F, rfl, wf, h⟩ := h
  have lo := wf.lo
  have hi := wf.hi
  have l3 : 3 ≤ sizeLine := by rw [sizeLine_eq]; decide
  have l1 : 1 ≤ sizeLine := by rw [sizeLine_eq]; decide
  simp only [t_sf, N_steps_of_frames, startD, List.map_cons, List.map_nil, List.length_cons, List.length_nil, Nat.zero_add, Nat.reduceAdd, Nat.reduceSub, List.replicate_succ, List.replicate_zero, List.cons_append, List.nil_append]
  refine tSq_step fun T hT => ?_
  simp only [tDi0, wipeD, items_tup, items_lst, items_rng, tupleD, seqA_tup, seqA_lst, tSq, tIf', tTs, tO, tV, tK, tTr, truD, tNo, tAn, tOr', tAnV, tOrV', tNoV, tIfE, tN0, tCo, tTu, tLs, tCl, tFn, tMh, tRt, tRt0, tNx, tEx, tSe, tAs, gN, gS, gT, gsc, gs0, tU, i2_ii, i2c_ii, rNegD, intC, absD, minD, isD, eqi, eqs, eqb, nei, nes, neb, DL.rIsD, DL.rIsnD, addi, muli, tMe, tMe0, tBk, tCt, outD, EndsD.xk, startD, optP_some, List.map_cons, List.map_nil, List.length_cons, List.length_nil, List.cons_append, List.nil_append, List.append_nil, List.set_cons_zero, List.set_cons_succ, List.set_nil, List.getElem?_cons_zero, List.getElem?_cons_succ, List.replicate_succ, List.replicate_zero, Nat.zero_add, Nat.reduceAdd, Nat.reduceSub, decide_eq_true_eq, Bool.not_eq_true', decide_eq_false_iff_not]
  intro p hp
  subst hT
  refine tSq_step fun T hT => ?_
  simp only [tFo, tIZp, wipeD, items_tup, items_lst, items_rng, tupleD, seqA_tup, seqA_lst, tSq, tIf', tTs, tO, tV, tK, tTr, truD, tNo, tAn, tOr', tAnV, tOrV', tNoV, tIfE, tN0, tCo, tTu, tLs, tCl, tFn, tMh, tRt, tRt0, tNx, tEx, tSe, tAs, gN, gS, gT, gsc, gs0, tU, i2_ii, i2c_ii, rNegD, intC, absD, minD, isD, eqi, eqs, eqb, nei, nes, neb, DL.rIsD, DL.rIsnD, addi, muli, tMe, tMe0, tBk, tCt, outD, EndsD.xk, startD, optP_some, List.map_cons, List.map_nil, List.length_cons, List.length_nil, List.cons_append, List.nil_append, List.append_nil, List.set_cons_zero, List.set_cons_succ, List.set_nil, List.getElem?_cons_zero, List.getElem?_cons_succ, List.replicate_succ, List.replicate_zero, Nat.zero_add, Nat.reduceAdd, Nat.reduceSub, decide_eq_true_eq, Bool.not_eq_true', decide_eq_false_iff_not]
  refine ⟨l3, ?_⟩
  refine ⟨trivial, rfl, ?_⟩
  simp only [wipeD, items_tup, items_lst, items_rng, tupleD, seqA_tup, seqA_lst, tSq, tIf', tTs, tO, tV, tK, tTr, truD, tNo, tAn, tOr', tAnV, tOrV', tNoV, tIfE, tN0, tCo, tTu, tLs, tCl, tFn, tMh, tRt, tRt0, tNx, tEx, tSe, tAs, gN, gS, gT, gsc, gs0, tU, i2_ii, i2c_ii, rNegD, intC, absD, minD, isD, eqi, eqs, eqb, nei, nes, neb, DL.rIsD, DL.rIsnD, addi, muli, tMe, tMe0, tBk, tCt, outD, EndsD.xk, startD, optP_some, List.map_cons, List.map_nil, List.length_cons, List.length_nil, List.cons_append, List.nil_append, List.append_nil, List.set_cons_zero, List.set_cons_succ, List.set_nil, List.getElem?_cons_zero, List.getElem?_cons_succ, List.replicate_succ, List.replicate_zero, Nat.zero_add, Nat.reduceAdd, Nat.reduceSub, decide_eq_true_eq, Bool.not_eq_true', decide_eq_false_iff_not]
  refine one_way (w' := "~a") wf.a lo hi rfl (by decide) (Nat.zero_le _) put_same fun a b c d N1 h1 s1 => ?_
  refine ⟨trivial, rfl, ?_⟩
  simp only [wipeD, items_tup, items_lst, items_rng, tupleD, seqA_tup, seqA_lst, tSq, tIf', tTs, tO, tV, tK, tTr, truD, tNo, tAn, tOr', tAnV, tOrV', tNoV, tIfE, tN0, tCo, tTu, tLs, tCl, tFn, tMh, tRt, tRt0, tNx, tEx, tSe, tAs, gN, gS, gT, gsc, gs0, tU, i2_ii, i2c_ii, rNegD, intC, absD, minD, isD, eqi, eqs, eqb, nei, nes, neb, DL.rIsD, DL.rIsnD, addi, muli, tMe, tMe0, tBk, tCt, outD, EndsD.xk, startD, optP_some, List.map_cons, List.map_nil, List.length_cons, List.length_nil, List.cons_append, List.nil_append, List.append_nil, List.set_cons_zero, List.set_cons_succ, List.set_nil, List.getElem?_cons_zero, List.getElem?_cons_succ, List.replicate_succ, List.replicate_zero, Nat.zero_add, Nat.reduceAdd, Nat.reduceSub, decide_eq_true_eq, Bool.not_eq_true', decide_eq_false_iff_not]
  refine one_way (w' := "~b") wf.b lo hi rfl (by decide) (by exact (by decide : (2 : Nat) ≤ 100)) h1 fun a b c d N2 h2 s2 => ?_
  refine ⟨trivial, rfl, ?_⟩
  simp only [wipeD, items_tup, items_lst, items_rng, tupleD, seqA_tup, seqA_lst, tSq, tIf', tTs, tO, tV, tK, tTr, truD, tNo, tAn, tOr', tAnV, tOrV', tNoV, tIfE, tN0, tCo, tTu, tLs, tCl, tFn, tMh, tRt, tRt0, tNx, tEx, tSe, tAs, gN, gS, gT, gsc, gs0, tU, i2_ii, i2c_ii, rNegD, intC, absD, minD, isD, eqi, eqs, eqb, nei, nes, neb, DL.rIsD, DL.rIsnD, addi, muli, tMe, tMe0, tBk, tCt, outD, EndsD.xk, startD, optP_some, List.map_cons, List.map_nil, List.length_cons, List.length_nil, List.cons_append, List.nil_append, List.append_nil, List.set_cons_zero, List.set_cons_succ, List.set_nil, List.getElem?_cons_zero, List.getElem?_cons_succ, List.replicate_succ, List.replicate_zero, Nat.zero_add, Nat.reduceAdd, Nat.reduceSub, decide_eq_true_eq, Bool.not_eq_true', decide_eq_false_iff_not]
  refine one_way (w' := "~c") wf.c lo hi rfl (by decide) (by exact (by decide : (4 : Nat) ≤ 100)) h2 fun a b c d N3 h3 s3 => ?_
  refine ⟨trivial, ?_⟩
  subst hT
  try dsimp only
  simp only [wipeD, items_tup, items_lst, items_rng, tupleD, seqA_tup, seqA_lst, tSq, tIf', tTs, tO, tV, tK, tTr, truD, tNo, tAn, tOr', tAnV, tOrV', tNoV, tIfE, tN0, tCo, tTu, tLs, tCl, tFn, tMh, tRt, tRt0, tNx, tEx, tSe, tAs, gN, gS, gT, gsc, gs0, tU, i2_ii, i2c_ii, rNegD, intC, absD, minD, isD, eqi, eqs, eqb, nei, nes, neb, DL.rIsD, DL.rIsnD, addi, muli, tMe, tMe0, tBk, tCt, outD, EndsD.xk, startD, optP_some, List.map_cons, List.map_nil, List.length_cons, List.length_nil, List.cons_append, List.nil_append, List.append_nil, List.set_cons_zero, List.set_cons_succ, List.set_nil, List.getElem?_cons_zero, List.getElem?_cons_succ, List.replicate_succ, List.replicate_zero, Nat.zero_add, Nat.reduceAdd, Nat.reduceSub, decide_eq_true_eq, Bool.not_eq_true', decide_eq_false_iff_not, gDs]
  rw [put6] at h3
  refine ⟨⟨by omega, by omega, by decide⟩, l1, ?_⟩
  have fm : (1 * 2 ^ F.n.toNat - 1 : Int) = fullM F := by rw [Int.one_mul]; rfl
  rw [fm]
  have key : putDD (.ref p) (.str "all") (.tup (List.replicate F.n.toNat (.int (fullM F)))) N3 fun M3 => ∃ M' d', DL.Fin M3 (.ref p) M' d' ∧ Q d' M' := by
    rw [putDD_eq h3 rfl (by rw [sizeLine_eq]; exact (by decide : (6 : Nat) < 16777216)), put7]
    refine ⟨M, stepsDic F, .trans (.dic put_same) (.less fun z e he => ?_), h⟩
    have zp : z ≠ p := fun y => by
      subst y
      rw [hp] at he
      cases he
    rw [cut_ne zp, put_ne zp]
    exact s3 z e zp (s2 z e zp (s1 z e zp (by rw [put_ne zp]; exact he)))
  by_cases n1 : F.n = 1
  · refine .inl ⟨n1, ?_⟩
    have e : List.replicate F.n.toNat (D.int (fullM F)) = [.int (fullM F)] := by rw [n1]; rfl
    rw [e] at key
    exact key
  · refine .inr ⟨⟨by simp, by omega, by omega, by simp⟩, ?_⟩
    rw [rep1]
    exact key
end K15
namespace K15
open PySem PySem.Spec PyProof.Rows L2 DL
variable [B : Obs] {K : PySem.W.Frag} {mg : Str → Option Value} {P : Program} {ds : List D} {M : Md} {Q : VD} {X : XD}
theorem sum_le {α : Type} {f : α → Nat} {b : Nat} : ∀ {l : List α}, (∀ x ∈ l, f x ≤ b) → (l.map f).sum ≤ l.length * b
  | [], _ => Nat.zero_le _
  | x :: l, h => by
    have i := sum_le (l := l) fun y hy => h y (List.mem_cons_of_mem _ hy)
    have k := h x List.mem_cons_self
    rw [List.map_cons, List.sum_cons, List.length_cons, Nat.succ_mul]
    omega
theorem rg_zip {n : Int} {p : Int × Nat} (h : p ∈ (rgI n).zipIdx) : p.1 = ((p.2 : Nat) : Int) ∧ p.1 ∈ rgI n := by
  have e := mem_zipIdx0 h
  have hl := (List.getElem?_eq_some_iff.mp e).1
  rw [rgI_len] at hl
  rw [rgI_get hl] at e
  exact ⟨(Option.some.inj e).symm, List.mem_of_getElem? (mem_zipIdx0 h)⟩
theorem zip_flat {α β : Type} {l : List α} {g : α → List β} : (l.zipIdx.flatMap fun p => g p.1) = l.flatMap g := by
  have e : l.zipIdx.map Prod.fst = l := List.zipIdx_map_fst 0 l
  conv => rhs; rw [← e]
  rw [List.flatMap_map]
theorem p__pairs_of (h : sp__pairs_of K ds M Q X) : t__pairs_of K (outD Q X) (startD N__pairs_of ds) M := by
  obtain ⟨n, L, rfl, n0, n1, hL, h⟩ := h
  simp only [t__pairs_of, N__pairs_of, tLc2F, tIEn, seqS_tup, wipeD, items_tup, items_lst, items_rng, tupleD, seqA_tup, seqA_lst, tSq, tIf', tTs, tO, tV, tK, tTr, truD, tNo, tAn, tOr', tAnV, tOrV', tNoV, tIfE, tN0, tCo, tTu, tLs, tCl, tFn, tMh, tRt, tRt0, tNx, tEx, tSe, tAs, gN, gS, gT, gsc, gs0, tU, i2_ii, i2c_ii, rNegD, intC, absD, minD, isD, eqi, eqs, eqb, nei, nes, neb, DL.rIsD, DL.rIsnD, addi, muli, tMe, tMe0, tBk, tCt, outD, EndsD.xk, startD, optP_some, List.map_cons, List.map_nil, List.length_cons, List.length_nil, List.cons_append, List.nil_append, List.append_nil, List.set_cons_zero, List.set_cons_succ, List.set_nil, List.getElem?_cons_zero, List.getElem?_cons_succ, List.replicate_succ, List.replicate_zero, Nat.zero_add, Nat.reduceAdd, Nat.reduceSub, decide_eq_true_eq, Bool.not_eq_true', decide_eq_false_iff_not]
  intro p hp
  rw [enL_map]
  refine lc2_any (α := Int × Nat) (β := Int) (e := fun q => .tup [.int (q.2 : Nat), maskD (L q.1)]) (L := fun q => L q.1) (e2 := .int) (f := fun q y => .tup [.int (q.2 : Nat), .int y]) (δ1 := fun q => [some (.tup ((rgI n).map fun x => maskD (L x))), some (.int (q.2 : Nat)), some (maskD (L q.1)), none])
    (δ2 := fun q y => [some (.tup ((rgI n).map fun x => maskD (L x))), some (.int (q.2 : Nat)), some (maskD (L q.1)), some (.int y)]) (Q := fun d N => tupleD [d] N fun d M => ∃ M' d', DL.Fin M d M' d' ∧ Q d' M') (fun _ => by first | trivial | rfl) (fun q _ => rfl) (fun q hq c R hR => ?_) (fun q _ y _ => rfl) (fun q _ y _ c Q' hQ => ?_) ?_ ?_ hp
  · obtain ⟨a1, a2, a3⟩ := hL q.1
    simp only [tIS, wipeD, items_tup, items_lst, items_rng, tupleD, seqA_tup, seqA_lst, tSq, tIf', tTs, tO, tV, tK, tTr, truD, tNo, tAn, tOr', tAnV, tOrV', tNoV, tIfE, tN0, tCo, tTu, tLs, tCl, tFn, tMh, tRt, tRt0, tNx, tEx, tSe, tAs, gN, gS, gT, gsc, gs0, tU, i2_ii, i2c_ii, rNegD, intC, absD, minD, isD, eqi, eqs, eqb, nei, nes, neb, DL.rIsD, DL.rIsnD, addi, muli, tMe, tMe0, tBk, tCt, outD, EndsD.xk, startD, optP_some, List.map_cons, List.map_nil, List.length_cons, List.length_nil, List.cons_append, List.nil_append, List.append_nil, List.set_cons_zero, List.set_cons_succ, List.set_nil, List.getElem?_cons_zero, List.getElem?_cons_succ, List.replicate_succ, List.replicate_zero, Nat.zero_add, Nat.reduceAdd, Nat.reduceSub, decide_eq_true_eq, Bool.not_eq_true', decide_eq_false_iff_not]
    refine ⟨L q.1, rfl, a1, fun y hy => ⟨(a2 y hy).1, by have := (a2 y hy).2; omega⟩, a3, ?_⟩
    exact hR _ fun _ => rfl
  · simp only [wipeD, items_tup, items_lst, items_rng, tupleD, seqA_tup, seqA_lst, tSq, tIf', tTs, tO, tV, tK, tTr, truD, tNo, tAn, tOr', tAnV, tOrV', tNoV, tIfE, tN0, tCo, tTu, tLs, tCl, tFn, tMh, tRt, tRt0, tNx, tEx, tSe, tAs, gN, gS, gT, gsc, gs0, tU, i2_ii, i2c_ii, rNegD, intC, absD, minD, isD, eqi, eqs, eqb, nei, nes, neb, DL.rIsD, DL.rIsnD, addi, muli, tMe, tMe0, tBk, tCt, outD, EndsD.xk, startD, optP_some, List.map_cons, List.map_nil, List.length_cons, List.length_nil, List.cons_append, List.nil_append, List.append_nil, List.set_cons_zero, List.set_cons_succ, List.set_nil, List.getElem?_cons_zero, List.getElem?_cons_succ, List.replicate_succ, List.replicate_zero, Nat.zero_add, Nat.reduceAdd, Nat.reduceSub, decide_eq_true_eq, Bool.not_eq_true', decide_eq_false_iff_not]
    exact ⟨two, hQ⟩
  · have z := sum_le (l := (rgI n).zipIdx) (f := fun q => (L q.1).length) (b := 1000) fun q _ => (hL q.1).2.2
    rw [List.length_zipIdx, rgI_len] at z
    rw [sizeLine_eq]
    omega
  · have e : ((rgI n).zipIdx.flatMap fun q => (L q.1).map fun y => D.tup [.int (q.2 : Nat), .int y]) = (pairsL n L).map pD := by
      have e1 : ((rgI n).zipIdx.flatMap fun q => (L q.1).map fun y => D.tup [.int (q.2 : Nat), .int y]) = (rgI n).zipIdx.flatMap fun q => (fun x => (L x).map fun y => pD (x, y)) q.1 := by
        rw [List.flatMap_def, List.flatMap_def]
        congr 1
        refine List.map_congr_left fun q hq => ?_
        refine List.map_congr_left fun y _ => ?_
        rw [← (rg_zip hq).1]
        rfl
      refine e1.trans ((zip_flat (g := fun x => (L x).map fun y => pD (x, y))).trans ?_)
      unfold pairsL
      rw [List.map_flatMap]
      simp only [List.map_map]
      rfl
    rw [e]
    exact out_ret h
end K15
namespace K15
open PySem PySem.Spec PyProof.Rows L2 DL
variable [B : Obs] {K : PySem.W.Frag} {mg : Str → Option Value} {P : Program} {ds : List D} {M : Md} {Q : VD} {X : XD}
def num (i : Int) : Str := toString i
theorem num_len {i : Int} (h0 : 0 ≤ i) (h1 : i < 1000) : (num i).length ≤ 3 := toString_length_le h0 (by decide) h1
def stepT (p : Int × Int) : Str := Str.empty ++ " " ++ num p.1 ++ ">" ++ num p.2
theorem stepT_len {p : Int × Int} (h : (0 ≤ p.1 ∧ p.1 < 1000) ∧ (0 ≤ p.2 ∧ p.2 < 1000)) : (stepT p).length ≤ 8 := by
  have a := num_len h.1.1 h.1.2
  have b := num_len h.2.1 h.2.2
  have z0 : Str.empty.length = 0 := rfl
  have z1 : (" " : Str).length = 1 := by decide
  have z2 : (">" : Str).length = 1 := by decide
  unfold stepT
  rw [Str.length_append, Str.length_append, Str.length_append, Str.length_append]
  omega
theorem join_le {a : Str} {ys : List Str} : (Txt.join a ys).length ≤ (ys.map (·.length)).sum + ys.length * a.length := by
  show (Builtin.Str.glued a ys).length ≤ _
  rw [StrLaws.glued_eq_join]
  cases ys with
  | nil => exact Nat.zero_le _
  | cons y ys =>
    rw [len_join_cons, List.length_cons, Nat.add_mul]
    omega
theorem pairs_len {n : Int} {L : Int → List Int} (h1 : n ≤ 130) (h : ∀ x, (L x).length ≤ 1000) : (pairsL n L).length ≤ 130000 := by
  unfold pairsL
  rw [List.length_flatMap]
  have z := sum_le (l := rgI n) (f := fun x => ((L x).map fun y => (x, y)).length) (b := 1000) fun x _ => by rw [List.length_map]; exact h x
  rw [rgI_len] at z
  omega
theorem pairs_rg {n : Int} {L : Int → List Int} {p : Int × Int} (h : p ∈ pairsL n L) : (0 ≤ p.1 ∧ p.1 < n) ∧ p.2 ∈ L p.1 := by
  unfold pairsL at h
  obtain ⟨x, hx, hp⟩ := List.mem_flatMap.mp h
  obtain ⟨y, hy, e⟩ := List.mem_map.mp hp
  subst e
  exact ⟨rgI_mem hx, hy⟩
theorem log_small {i : Int} (h0 : 0 ≤ i) (h1 : i < 1000) : i.natAbs.log2 < 1920 := small_log (by omega)
theorem tJsD_nil {acc : Str} {Xd : XD} {δ : SD} : tJsD [] acc Xd δ M Q = Q (.str acc) M := rfl
theorem tJsD_k {x acc : Str} {ts : List TEd} {Xd : XD} {δ : SD} : tJsD (tK (.str x) :: ts) acc Xd δ M Q = ((acc ++ x).length ≤ sizeLine ∧ tJsD ts (acc ++ x) Xd δ M Q) := rfl
theorem tJsD_i {j : Nat} {i : Int} {acc : Str} {ts : List TEd} {Xd : XD} {δ : SD} (h : δ[j]? = some (some (.int i))) : tJsD (tFm (tV j) :: ts) acc Xd δ M Q = (i.natAbs.log2 < 1920 ∧ (acc ++ num i).length ≤ sizeLine ∧ tJsD ts (acc ++ num i) Xd δ M Q) := by
  show tFm (tV j) Xd δ M _ = _
  unfold tFm tV
  rw [h]
  rfl
theorem p__text_of (h : sp__text_of K ds M Q X) : t__text_of K (outD Q X) (startD N__text_of ds) M := by
  obtain ⟨F, rfl, wf, h⟩ := h
  have lo := wf.lo
  have hi := wf.hi
  have z0 : Str.empty.length = 0 := rfl
  have zp : ("places " : Str).length = 7 := by decide
  have z1 : (" " : Str).length = 1 := by decide
  have z2 : (">" : Str).length = 1 := by decide
  have z3 : (":" : Str).length = 1 := by decide
  have z4 : ("" : Str).length = 0 := by decide
  have z5 : ("\n" : Str).length = 1 := by decide
  have nl := num_len (i := F.n) (by omega) (by omega)
  simp only [t__text_of, N__text_of, startD, List.map_cons, List.map_nil, List.length_cons, List.length_nil, Nat.zero_add, Nat.reduceAdd, Nat.reduceSub, List.replicate_succ, List.replicate_zero, List.cons_append, List.nil_append]
  refine tSq_step fun T hT => ?_
  simp only [tLsM, tJd, wipeD, items_tup, items_lst, items_rng, tupleD, seqA_tup, seqA_lst, tSq, tIf', tTs, tO, tV, tK, tTr, truD, tNo, tAn, tOr', tAnV, tOrV', tNoV, tIfE, tN0, tCo, tTu, tLs, tCl, tFn, tMh, tRt, tRt0, tNx, tEx, tSe, tAs, gN, gS, gT, gsc, gs0, tU, i2_ii, i2c_ii, rNegD, intC, absD, minD, isD, eqi, eqs, eqb, nei, nes, neb, DL.rIsD, DL.rIsnD, addi, muli, tMe, tMe0, tBk, tCt, outD, EndsD.xk, startD, optP_some, List.map_cons, List.map_nil, List.length_cons, List.length_nil, List.cons_append, List.nil_append, List.append_nil, List.set_cons_zero, List.set_cons_succ, List.set_nil, List.getElem?_cons_zero, List.getElem?_cons_succ, List.replicate_succ, List.replicate_zero, Nat.zero_add, Nat.reduceAdd, Nat.reduceSub, decide_eq_true_eq, Bool.not_eq_true', decide_eq_false_iff_not]
  rw [tJsD_k, tJsD_i rfl, tJsD_nil]
  refine ⟨by rw [Str.length_append, sizeLine_eq]; omega, log_small (by omega) (by omega), by rw [Str.length_append, Str.length_append, sizeLine_eq]; omega, by rw [sizeLine_eq]; decide, fun p hp => ?_⟩
  subst hT
  refine tSq_step fun T hT => ?_
  simp only [tFo, tIS, items_tup, wipeD, items_tup, items_lst, items_rng, tupleD, seqA_tup, seqA_lst, tSq, tIf', tTs, tO, tV, tK, tTr, truD, tNo, tAn, tOr', tAnV, tOrV', tNoV, tIfE, tN0, tCo, tTu, tLs, tCl, tFn, tMh, tRt, tRt0, tNx, tEx, tSe, tAs, gN, gS, gT, gsc, gs0, tU, i2_ii, i2c_ii, rNegD, intC, absD, minD, isD, eqi, eqs, eqb, nei, nes, neb, DL.rIsD, DL.rIsnD, addi, muli, tMe, tMe0, tBk, tCt, outD, EndsD.xk, startD, optP_some, List.map_cons, List.map_nil, List.length_cons, List.length_nil, List.cons_append, List.nil_append, List.append_nil, List.set_cons_zero, List.set_cons_succ, List.set_nil, List.getElem?_cons_zero, List.getElem?_cons_succ, List.replicate_succ, List.replicate_zero, Nat.zero_add, Nat.reduceAdd, Nat.reduceSub, decide_eq_true_eq, Bool.not_eq_true', decide_eq_false_iff_not]
  refine forGo_pre (α := Str) (e := .str) (l := ["a", "b", "c"]) (P := fun pre δ N => (∃ ys : List Str, N p = some (.lst (ys.map .str)) ∧ ys.length ≤ pre.length + 1 ∧ (ys.map (·.length)).sum ≤ 10 + pre.length * 2000000) ∧ (∀ a, a ≠ p → N a = M a) ∧ ∃ a b c d, δ = [some (.int F.n), some (stepsDic F), some (.ref p), a, b, c, d]) (fun δ N hi' => ?_) (fun pre w post hl δ N hi' R hR => ?_) ⟨⟨[Str.empty ++ "places " ++ num F.n], put_same, Nat.le_refl _, ?_⟩, fun a ha => put_ne ha, _, _, _, _, rfl⟩
  · obtain ⟨⟨ys, h1, h2, h3⟩, h4, a, b, c, d, rfl⟩ := hi'
    refine ⟨rfl, ?_⟩
    subst hT
    simp only [tJn, wipeD, items_tup, items_lst, items_rng, tupleD, seqA_tup, seqA_lst, tSq, tIf', tTs, tO, tV, tK, tTr, truD, tNo, tAn, tOr', tAnV, tOrV', tNoV, tIfE, tN0, tCo, tTu, tLs, tCl, tFn, tMh, tRt, tRt0, tNx, tEx, tSe, tAs, gN, gS, gT, gsc, gs0, tU, i2_ii, i2c_ii, rNegD, intC, absD, minD, isD, eqi, eqs, eqb, nei, nes, neb, DL.rIsD, DL.rIsnD, addi, muli, tMe, tMe0, tBk, tCt, outD, EndsD.xk, startD, optP_some, List.map_cons, List.map_nil, List.length_cons, List.length_nil, List.cons_append, List.nil_append, List.append_nil, List.set_cons_zero, List.set_cons_succ, List.set_nil, List.getElem?_cons_zero, List.getElem?_cons_succ, List.replicate_succ, List.replicate_zero, Nat.zero_add, Nat.reduceAdd, Nat.reduceSub, decide_eq_true_eq, Bool.not_eq_true', decide_eq_false_iff_not]
    have h2 : ys.length ≤ 4 := h2
    have h3 : (ys.map (·.length)).sum ≤ 10 + 3 * 2000000 := h3
    refine ⟨ys, seqA_cell h1, by rw [z5]; omega, M, _, .less fun a e he => ?_, h _⟩
    rw [h4 a (fun y => by subst y; rw [hp] at he; cases he)]
    exact he
  · obtain ⟨⟨ys, h1, h2, h3⟩, h4, a, b, c, d, rfl⟩ := hi'
    have hw : w ∈ (["a", "b", "c"] : List Str) := by rw [hl]; exact List.mem_append_right _ List.mem_cons_self
    have hw6 : w ∈ dirs6 := dirs_sub (k := "plain") (by unfold dirs; rw [if_neg (by decide)]; exact hw)
    have wl : w.length = 1 := by
      rcases List.mem_cons.mp hw with e | hw
      · rw [e]; decide
      · rcases List.mem_cons.mp hw with e | hw
        · rw [e]; decide
        · rcases List.mem_cons.mp hw with e | hw
          · rw [e]; decide
          · cases hw
    have hpl : pre.length ≤ 2 := by
      have := congrArg List.length hl
      rw [List.length_append, List.length_cons] at this
      have : 3 = pre.length + (post.length + 1) := this
      omega
    obtain ⟨kvs, e1, e2⟩ := dic_at (M := N) (F := F) hw6
    have pw : (pre ++ [w]).length = pre.length + 1 := by rw [List.length_append]; rfl
    refine ⟨rfl, ?_⟩
    simp only [tDg, keyD, e1, e2, wipeD, items_tup, items_lst, items_rng, tupleD, seqA_tup, seqA_lst, tSq, tIf', tTs, tO, tV, tK, tTr, truD, tNo, tAn, tOr', tAnV, tOrV', tNoV, tIfE, tN0, tCo, tTu, tLs, tCl, tFn, tMh, tRt, tRt0, tNx, tEx, tSe, tAs, gN, gS, gT, gsc, gs0, tU, i2_ii, i2c_ii, rNegD, intC, absD, minD, isD, eqi, eqs, eqb, nei, nes, neb, DL.rIsD, DL.rIsnD, addi, muli, tMe, tMe0, tBk, tCt, outD, EndsD.xk, startD, optP_some, List.map_cons, List.map_nil, List.length_cons, List.length_nil, List.cons_append, List.nil_append, List.append_nil, List.set_cons_zero, List.set_cons_succ, List.set_nil, List.getElem?_cons_zero, List.getElem?_cons_succ, List.replicate_succ, List.replicate_zero, Nat.zero_add, Nat.reduceAdd, Nat.reduceSub, decide_eq_true_eq, Bool.not_eq_true', decide_eq_false_iff_not]
    have oL : ∀ x, Asc (leadsL F w x) ∧ (∀ y ∈ leadsL F w x, 0 ≤ y ∧ y < 130) ∧ (leadsL F w x).length ≤ 1000 := fun x => by
      have q := ok_leads wf w x
      exact ⟨q.asc, fun y hy => ⟨(q.rg y hy).1, by have := (q.rg y hy).2; omega⟩, q.sz⟩
    refine ⟨F.n, fun x => leadsL F w x, rfl, by omega, by omega, oL, ?_⟩
    have pl := pairs_len (n := F.n) (L := fun x => leadsL F w x) (by omega) fun x => (oL x).2.2
    have pr : ∀ q ∈ pairsL F.n fun x => leadsL F w x, (0 ≤ q.1 ∧ q.1 < 1000) ∧ (0 ≤ q.2 ∧ q.2 < 1000) := fun q hq => by
      have z := pairs_rg hq
      have y := (oL q.1).2.1 q.2 z.2
      omega
    have g1 : ys.length ≤ (pre ++ [w]).length + 1 := by rw [pw]; exact Nat.le_succ_of_le h2
    have g2 : (ys.map (·.length)).sum ≤ 10 + (pre ++ [w]).length * 2000000 := Nat.le_trans h3 (Nat.add_le_add_left (Nat.mul_le_mul_right _ (by rw [pw]; exact Nat.le_succ _)) _)
    generalize (pairsL F.n fun x => leadsL F w x) = ps at pl pr
    simp only [wipeD, items_tup, items_lst, items_rng, tupleD, seqA_tup, seqA_lst, tSq, tIf', tTs, tO, tV, tK, tTr, truD, tNo, tAn, tOr', tAnV, tOrV', tNoV, tIfE, tN0, tCo, tTu, tLs, tCl, tFn, tMh, tRt, tRt0, tNx, tEx, tSe, tAs, gN, gS, gT, gsc, gs0, tU, i2_ii, i2c_ii, rNegD, intC, absD, minD, isD, eqi, eqs, eqb, nei, nes, neb, DL.rIsD, DL.rIsnD, addi, muli, tMe, tMe0, tBk, tCt, outD, EndsD.xk, startD, optP_some, List.map_cons, List.map_nil, List.length_cons, List.length_nil, List.cons_append, List.nil_append, List.append_nil, List.set_cons_zero, List.set_cons_succ, List.set_nil, List.getElem?_cons_zero, List.getElem?_cons_succ, List.replicate_succ, List.replicate_zero, Nat.zero_add, Nat.reduceAdd, Nat.reduceSub, decide_eq_true_eq, Bool.not_eq_true', decide_eq_false_iff_not, len_eq seqA_tup, List.length_map]
    split
    · refine ⟨isLs_ref h1, ?_⟩
      simp only [wipeD, items_tup, items_lst, items_rng, tupleD, seqA_tup, seqA_lst, tSq, tIf', tTs, tO, tV, tK, tTr, truD, tNo, tAn, tOr', tAnV, tOrV', tNoV, tIfE, tN0, tCo, tTu, tLs, tCl, tFn, tMh, tRt, tRt0, tNx, tEx, tSe, tAs, gN, gS, gT, gsc, gs0, tU, i2_ii, i2c_ii, rNegD, intC, absD, minD, isD, eqi, eqs, eqb, nei, nes, neb, DL.rIsD, DL.rIsnD, addi, muli, tMe, tMe0, tBk, tCt, outD, EndsD.xk, startD, optP_some, List.map_cons, List.map_nil, List.length_cons, List.length_nil, List.cons_append, List.nil_append, List.append_nil, List.set_cons_zero, List.set_cons_succ, List.set_nil, List.getElem?_cons_zero, List.getElem?_cons_succ, List.replicate_succ, List.replicate_zero, Nat.zero_add, Nat.reduceAdd, Nat.reduceSub, decide_eq_true_eq, Bool.not_eq_true', decide_eq_false_iff_not, rAddD]
      refine ⟨by rw [sizeLine_eq]; omega, ?_⟩
      simp only [tJn, wipeD, items_tup, items_lst, items_rng, tupleD, seqA_tup, seqA_lst, tSq, tIf', tTs, tO, tV, tK, tTr, truD, tNo, tAn, tOr', tAnV, tOrV', tNoV, tIfE, tN0, tCo, tTu, tLs, tCl, tFn, tMh, tRt, tRt0, tNx, tEx, tSe, tAs, gN, gS, gT, gsc, gs0, tU, i2_ii, i2c_ii, rNegD, intC, absD, minD, isD, eqi, eqs, eqb, nei, nes, neb, DL.rIsD, DL.rIsnD, addi, muli, tMe, tMe0, tBk, tCt, outD, EndsD.xk, startD, optP_some, List.map_cons, List.map_nil, List.length_cons, List.length_nil, List.cons_append, List.nil_append, List.append_nil, List.set_cons_zero, List.set_cons_succ, List.set_nil, List.getElem?_cons_zero, List.getElem?_cons_succ, List.replicate_succ, List.replicate_zero, Nat.zero_add, Nat.reduceAdd, Nat.reduceSub, decide_eq_true_eq, Bool.not_eq_true', decide_eq_false_iff_not]
      refine tLcF_put (t := .many [5, 6]) (d0 := .tup (ps.map pD)) (l := ps) (e := pD) (f := fun q => .str (stepT q)) (δ2 := fun q => [some (.int F.n), some (stepsDic F), some (.ref p), some (.str w), some (.tup (ps.map pD)), some (.int q.1), some (.int q.2)]) (fun _ h => h) rfl (by rw [sizeLine_eq]; omega) (fun q _ => rfl) (fun q hq p' c' hp' Q' hQ => ?_) ?_
      · have r := pr q hq
        have n1 := num_len r.1.1 r.1.2
        have n2 := num_len r.2.1 r.2.2
        unfold tJd
        rw [tJsD_k, tJsD_i rfl, tJsD_k, tJsD_i rfl, tJsD_nil]
        refine ⟨?_, log_small r.1.1 r.1.2, ?_, ?_, log_small r.2.1 r.2.2, ?_, hQ⟩ <;> rw [sizeLine_eq] <;> simp only [Str.length_append] <;> omega
      · have sl : ((ps.map stepT).map (·.length)).sum ≤ ps.length * 8 := by
          rw [List.map_map]
          exact sum_le fun q hq => stepT_len (pr q hq)
        refine ⟨ps.map stepT, by show some (ps.map _) = _; rw [List.map_map]; rfl, by rw [z4]; omega, ?_⟩
        have jl := join_le (a := "") (ys := ps.map stepT)
        rw [z4] at jl
        have wl2 : (w ++ (":" : Str)).length = 2 := by rw [Str.length_append]; omega
        refine ⟨by rw [sizeLine_eq]; omega, ?_⟩
        rw [app_eq h1]
        refine ⟨by rw [List.length_map, sizeLine_eq]; omega, ?_⟩
        refine hR _ _ ⟨⟨ys ++ [w ++ ":" ++ Txt.join "" (ps.map stepT)], ?_, ?_, ?_⟩, fun a ha => by rw [put_ne ha, h4 a ha], _, _, _, _, rfl⟩
        · rw [put_same, List.map_append]
          rfl
        · rw [List.length_append, pw]
          exact Nat.add_le_add_right h2 1
        · rw [List.map_append, List.sum_append, pw, List.map_cons, List.map_nil, List.sum_cons, List.sum_nil, Str.length_append, wl2]
          omega
    · exact hR _ _ ⟨⟨ys, h1, g1, g2⟩, h4, _, _, _, _, rfl⟩
  · simp only [List.map_cons, List.map_nil, List.sum_cons, List.sum_nil, List.length_nil]
    rw [Str.length_append, Str.length_append]
    omega
end K15
namespace K15
open PySem PySem.Spec PyProof.Rows L2 DL
variable [B : Obs] {K : PySem.W.Frag} {mg : Str → Option Value} {P : Program} {ds : List D} {M : Md} {Q : VD} {X : XD}
theorem forGo_all {α : Type} {ok : Md → Prop} {E : EndsD} {g : TGd} {tb : TSd} {e : α → D} {inv : SD → Prop} {l : List α} (hok : ok M) (hs : ∀ x ∈ l, ∀ δ, inv δ → ∀ R : SD → Md → Prop, (∀ δ', inv δ' → R δ' M) → g (E.xk δ) (e x) δ M fun δ1 M1 => tb { E with nx := R, ct := R, bk := E.nx } δ1 M1)
    (fin : ∀ δ, inv δ → E.nx δ M) {δ : SD} (h0 : inv δ) : forGo g tb ok E (l.map e) δ M :=
  forGo_ex (β := Unit) (f := fun _ => none) (Z := fun _ => True) hok (fun x hx δ hi R hR _ => hs x hx δ hi R (hR rfl)) (fun _ => fin) (fun _ _ => trivial) h0
def dat (F : Fr) (s : Addr) (a b c : Option D) : SD := [some (.ref s), some (.int F.n), some (prD F.a), some (prD F.b), some (prD F.c), a, b, c]
theorem p_Frame___init__ (Z : Fc P K mg) (h : sp_Frame___init__ K ds M Q X) : t_Frame___init__ K (outD Q X) (startD N_Frame___init__ ds) M := by
  obtain ⟨s, F, rfl, hs, wf, h⟩ := h
  have lo := wf.lo
  have hi := wf.hi
  have l3 : 3 ≤ sizeLine := by rw [sizeLine_eq]; decide
  simp only [t_Frame___init__, N_Frame___init__, startD, List.map_cons, List.map_nil, List.length_cons, List.length_nil, Nat.zero_add, Nat.reduceAdd, Nat.reduceSub, List.replicate_succ, List.replicate_zero, List.cons_append, List.nil_append]
  refine tSq_step fun T hT => ?_
  simp only [wipeD, items_tup, items_lst, items_rng, tupleD, seqA_tup, seqA_lst, tSq, tIf', tTs, tO, tV, tK, tTr, truD, tNo, tAn, tOr', tAnV, tOrV', tNoV, tIfE, tN0, tCo, tTu, tLs, tCl, tFn, tMh, tRt, tRt0, tNx, tEx, tSe, tAs, gN, gS, gT, gsc, gs0, tU, i2_ii, i2c_ii, rNegD, intC, absD, minD, isD, eqi, eqs, eqb, nei, nes, neb, DL.rIsD, DL.rIsnD, addi, muli, tMe, tMe0, tBk, tCt, outD, EndsD.xk, startD, optP_some, List.map_cons, List.map_nil, List.length_cons, List.length_nil, List.cons_append, List.nil_append, List.append_nil, List.set_cons_zero, List.set_cons_succ, List.set_nil, List.getElem?_cons_zero, List.getElem?_cons_succ, List.replicate_succ, List.replicate_zero, Nat.zero_add, Nat.reduceAdd, Nat.reduceSub, decide_eq_true_eq, Bool.not_eq_true', decide_eq_false_iff_not]
  rw [if_neg (by omega), if_neg (by omega)]
  subst hT
  refine tSq_step fun T hT => ?_
  simp only [tFo, tIS, wipeD, items_tup, items_lst, items_rng, tupleD, seqA_tup, seqA_lst, tSq, tIf', tTs, tO, tV, tK, tTr, truD, tNo, tAn, tOr', tAnV, tOrV', tNoV, tIfE, tN0, tCo, tTu, tLs, tCl, tFn, tMh, tRt, tRt0, tNx, tEx, tSe, tAs, gN, gS, gT, gsc, gs0, tU, i2_ii, i2c_ii, rNegD, intC, absD, minD, isD, eqi, eqs, eqb, nei, nes, neb, DL.rIsD, DL.rIsnD, addi, muli, tMe, tMe0, tBk, tCt, outD, EndsD.xk, startD, optP_some, List.map_cons, List.map_nil, List.length_cons, List.length_nil, List.cons_append, List.nil_append, List.append_nil, List.set_cons_zero, List.set_cons_succ, List.set_nil, List.getElem?_cons_zero, List.getElem?_cons_succ, List.replicate_succ, List.replicate_zero, Nat.zero_add, Nat.reduceAdd, Nat.reduceSub, decide_eq_true_eq, Bool.not_eq_true', decide_eq_false_iff_not]
  refine ⟨l3, ?_⟩
  have wps : ∀ ps ∈ [F.a, F.b, F.c], WfP F.n ps := by
    intro ps hps
    rcases List.mem_cons.mp hps with e | hps
    · rw [e]; exact wf.a
    · rcases List.mem_cons.mp hps with e | hps
      · rw [e]; exact wf.b
      · rcases List.mem_cons.mp hps with e | hps
        · rw [e]; exact wf.c
        · cases hps
  refine forGo_all (α := Prs) (e := prD) (l := [F.a, F.b, F.c]) (inv := fun δ => ∃ a b c, δ = dat F s a b c) (by first | trivial | rfl) (fun ps hps δ hi' R hR => ?_) (fun δ hi' => ?_) ⟨_, _, _, rfl⟩
  · obtain ⟨a, b, c, rfl⟩ := hi'
    simp only [tFo, tIS, dat, prD, wipeD, items_tup, items_lst, items_rng, tupleD, seqA_tup, seqA_lst, tSq, tIf', tTs, tO, tV, tK, tTr, truD, tNo, tAn, tOr', tAnV, tOrV', tNoV, tIfE, tN0, tCo, tTu, tLs, tCl, tFn, tMh, tRt, tRt0, tNx, tEx, tSe, tAs, gN, gS, gT, gsc, gs0, tU, i2_ii, i2c_ii, rNegD, intC, absD, minD, isD, eqi, eqs, eqb, nei, nes, neb, DL.rIsD, DL.rIsnD, addi, muli, tMe, tMe0, tBk, tCt, outD, EndsD.xk, startD, optP_some, List.map_cons, List.map_nil, List.length_cons, List.length_nil, List.cons_append, List.nil_append, List.append_nil, List.set_cons_zero, List.set_cons_succ, List.set_nil, List.getElem?_cons_zero, List.getElem?_cons_succ, List.replicate_succ, List.replicate_zero, Nat.zero_add, Nat.reduceAdd, Nat.reduceSub, decide_eq_true_eq, Bool.not_eq_true', decide_eq_false_iff_not]
    refine forGo_all (α := Int × Int) (e := pD) (l := ps) (inv := fun δ => ∃ b c, δ = dat F s (some (prD ps)) b c) (by first | trivial | rfl) (fun q hq δ hi' R' hR' => ?_) (fun δ hi' => ?_) ⟨_, _, rfl⟩
    · obtain ⟨b, c, rfl⟩ := hi'
      simp only [tFo, tIS, dat, prD, pD, wipeD, items_tup, items_lst, items_rng, tupleD, seqA_tup, seqA_lst, tSq, tIf', tTs, tO, tV, tK, tTr, truD, tNo, tAn, tOr', tAnV, tOrV', tNoV, tIfE, tN0, tCo, tTu, tLs, tCl, tFn, tMh, tRt, tRt0, tNx, tEx, tSe, tAs, gN, gS, gT, gsc, gs0, tU, i2_ii, i2c_ii, rNegD, intC, absD, minD, isD, eqi, eqs, eqb, nei, nes, neb, DL.rIsD, DL.rIsnD, addi, muli, tMe, tMe0, tBk, tCt, outD, EndsD.xk, startD, optP_some, List.map_cons, List.map_nil, List.length_cons, List.length_nil, List.cons_append, List.nil_append, List.append_nil, List.set_cons_zero, List.set_cons_succ, List.set_nil, List.getElem?_cons_zero, List.getElem?_cons_succ, List.replicate_succ, List.replicate_zero, Nat.zero_add, Nat.reduceAdd, Nat.reduceSub, decide_eq_true_eq, Bool.not_eq_true', decide_eq_false_iff_not]
      obtain ⟨⟨x0, x1⟩, y0, y1⟩ := (wps ps hps).rg q hq
      refine forGo_all (α := Int) (e := .int) (l := [q.1, q.2]) (inv := fun δ => ∃ c, δ = dat F s (some (prD ps)) (some (pD q)) c) (by first | trivial | rfl) (fun x hx δ hi' R'' hR'' => ?_) (fun δ hi' => ?_) ⟨_, rfl⟩
      · obtain ⟨c, rfl⟩ := hi'
        have hx2 : 0 ≤ x ∧ x < F.n := by
          rcases List.mem_cons.mp hx with e | hx
          · rw [e]; exact ⟨x0, x1⟩
          · rcases List.mem_cons.mp hx with e | hx
            · rw [e]; exact ⟨y0, y1⟩
            · cases hx
        simp only [dat, wipeD, items_tup, items_lst, items_rng, tupleD, seqA_tup, seqA_lst, tSq, tIf', tTs, tO, tV, tK, tTr, truD, tNo, tAn, tOr', tAnV, tOrV', tNoV, tIfE, tN0, tCo, tTu, tLs, tCl, tFn, tMh, tRt, tRt0, tNx, tEx, tSe, tAs, gN, gS, gT, gsc, gs0, tU, i2_ii, i2c_ii, rNegD, intC, absD, minD, isD, eqi, eqs, eqb, nei, nes, neb, DL.rIsD, DL.rIsnD, addi, muli, tMe, tMe0, tBk, tCt, outD, EndsD.xk, startD, optP_some, List.map_cons, List.map_nil, List.length_cons, List.length_nil, List.cons_append, List.nil_append, List.append_nil, List.set_cons_zero, List.set_cons_succ, List.set_nil, List.getElem?_cons_zero, List.getElem?_cons_succ, List.replicate_succ, List.replicate_zero, Nat.zero_add, Nat.reduceAdd, Nat.reduceSub, decide_eq_true_eq, Bool.not_eq_true', decide_eq_false_iff_not]
        rw [if_neg (by omega), if_neg (by omega)]
        exact hR'' _ ⟨_, rfl⟩
      · obtain ⟨c, rfl⟩ := hi'
        exact hR' _ ⟨_, _, rfl⟩
    · obtain ⟨b, c, rfl⟩ := hi'
      exact hR _ ⟨_, _, _, rfl⟩
  · obtain ⟨a, b, c, rfl⟩ := hi'
    subst hT
    try dsimp only
    have fm : (1 * 2 ^ F.n.toNat - 1 : Int) = fullM F := by rw [Int.one_mul]; rfl
    have q2 : ∀ u v : D, putD "full_mask" v (putD "size" u []) = ([("size", u), ("full_mask", v)] : Flds) := fun _ _ => rfl
    have q3 : ∀ u v w : D, putD "_steps" w ([("size", u), ("full_mask", v)] : Flds) = ([("size", u), ("full_mask", v), ("_steps", w)] : Flds) := fun _ _ _ => rfl
    have q4 : ∀ u v w x : D, putD "text" x ([("size", u), ("full_mask", v), ("_steps", w)] : Flds) = ([("size", u), ("full_mask", v), ("_steps", w), ("text", x)] : Flds) := fun _ _ _ _ => rfl
    have fl : ∀ (N : Md) (C : Addr) (fs : Flds), fldsD (put N s (.ins C fs)) (.ref s) = some (C, fs) := fun N C fs => by
      show (match put N s (.ins C fs) s with
        | some (MC.ins C fs) => some (C, fs)
        | _ => none) = _
      rw [put_same]
    have lk : ∀ u v w : D, List.lookup ("_steps" : Str) ([("size", u), ("full_mask", v), ("_steps", w)] : Flds) = some w := fun _ _ _ => rfl
    have n1 : ∀ u : D, (putD "size" u []).length < 1000 := fun _ => (by decide : (1 : Nat) < 1000)
    have n2 : ∀ u v : D, ([("size", u), ("full_mask", v)] : Flds).length < 1000 := fun _ _ => (by decide : (2 : Nat) < 1000)
    have n3 : ∀ u v w : D, ([("size", u), ("full_mask", v), ("_steps", w)] : Flds).length < 1000 := fun _ _ _ => (by decide : (3 : Nat) < 1000)
    simp only [tSf, dat, wipeD, items_tup, items_lst, items_rng, tupleD, seqA_tup, seqA_lst, tSq, tIf', tTs, tO, tV, tK, tTr, truD, tNo, tAn, tOr', tAnV, tOrV', tNoV, tIfE, tN0, tCo, tTu, tLs, tCl, tFn, tMh, tRt, tRt0, tNx, tEx, tSe, tAs, gN, gS, gT, gsc, gs0, tU, i2_ii, i2c_ii, rNegD, intC, absD, minD, isD, eqi, eqs, eqb, nei, nes, neb, DL.rIsD, DL.rIsnD, addi, muli, tMe, tMe0, tBk, tCt, outD, EndsD.xk, startD, optP_some, List.map_cons, List.map_nil, List.length_cons, List.length_nil, List.cons_append, List.nil_append, List.append_nil, List.set_cons_zero, List.set_cons_succ, List.set_nil, List.getElem?_cons_zero, List.getElem?_cons_succ, List.replicate_succ, List.replicate_zero, Nat.zero_add, Nat.reduceAdd, Nat.reduceSub, decide_eq_true_eq, Bool.not_eq_true', decide_eq_false_iff_not, hs, put_same, put_put, tFd]
    refine ⟨Z.f_Frame_size, by decide, ⟨by omega, by omega, by decide⟩, Z.f_Frame_full_mask, n1 _, F, rfl, wf, ?_⟩
    simp only [put_same, q2, fm, q3, put_put, fl, lk, optP_some]
    refine ⟨Z.f_Frame__steps, n2 _ _, Z.f_Frame__steps, F, rfl, wf, fun t => ?_⟩
    simp only [put_same, q4, put_put]
    exact ⟨Z.f_Frame_text, n3 _ _ _, out_nx (h t)⟩
end K15
namespace K15
open PySem PySem.Spec PyProof.Rows L2 DL
variable [B : Obs] {K : PySem.W.Frag} {mg : Str → Option Value} {P : Program} {ds : List D} {M : Md} {Q : VD} {X : XD}
theorem p__law_state (h : sp__law_state K ds M Q X) : t__law_state K (outD Q X) (startD N__law_state ds) M := by
  obtain ⟨ns, rfl, hl, h⟩ := h
  have cl : (DL.cutD ns none (some 63)).length ≤ 63 := by
    unfold DL.cutD
    rw [List.length_take, List.length_drop]
    omega
  simp only [t__law_state, N__law_state, wipeD, items_tup, items_lst, items_rng, tupleD, seqA_tup, seqA_lst, tSq, tIf', tTs, tO, tV, tK, tTr, truD, tNo, tAn, tOr', tAnV, tOrV', tNoV, tIfE, tN0, tCo, tTu, tLs, tCl, tFn, tMh, tRt, tRt0, tNx, tEx, tSe, tAs, gN, gS, gT, gsc, gs0, tU, i2, i2c, rNegD, intC, absD, minD, isD, eqi, eqs, eqb, nei, nes, neb, DL.rIsD, DL.rIsnD, rAddD, rMulD, tMe, tMe0, tBk, tCt, outD, EndsD.xk, startD, optP_some, List.map_cons, List.map_nil, List.length_cons, List.length_nil, List.cons_append, List.nil_append, List.append_nil, List.set_cons_zero, List.set_cons_succ, List.set_nil, List.getElem?_cons_zero, List.getElem?_cons_succ, List.replicate_succ, List.replicate_zero, Nat.zero_add, Nat.reduceAdd, Nat.reduceSub, decide_eq_true_eq, Bool.not_eq_true', decide_eq_false_iff_not, tLsM]
  refine tLcM_ints (ns := DL.cutD ns none (some 63)) (d0 := .lst (iL (DL.cutD ns none (some 63)))) (f := fun i => .int (if i < 0 then -i else i)) (fun Q' hQ => ?_) rfl (by rw [sizeLine_eq]; omega) (fun n hn p c hp Q' hQ => ?_) (fun p hp => ?_)
  · simp only [tSlc, tP0, tP1, rSlD, wipeD, items_tup, items_lst, items_rng, tupleD, seqA_tup, seqA_lst, tSq, tIf', tTs, tO, tV, tK, tTr, truD, tNo, tAn, tOr', tAnV, tOrV', tNoV, tIfE, tN0, tCo, tTu, tLs, tCl, tFn, tMh, tRt, tRt0, tNx, tEx, tSe, tAs, gN, gS, gT, gsc, gs0, tU, i2, i2c, rNegD, intC, absD, minD, isD, eqi, eqs, eqb, nei, nes, neb, DL.rIsD, DL.rIsnD, rAddD, rMulD, tMe, tMe0, tBk, tCt, outD, EndsD.xk, startD, optP_some, List.map_cons, List.map_nil, List.length_cons, List.length_nil, List.cons_append, List.nil_append, List.append_nil, List.set_cons_zero, List.set_cons_succ, List.set_nil, List.getElem?_cons_zero, List.getElem?_cons_succ, List.replicate_succ, List.replicate_zero, Nat.zero_add, Nat.reduceAdd, Nat.reduceSub, decide_eq_true_eq, Bool.not_eq_true', decide_eq_false_iff_not]
    exact hQ
  · simp only [wipeD, items_tup, items_lst, items_rng, tupleD, seqA_tup, seqA_lst, tSq, tIf', tTs, tO, tV, tK, tTr, truD, tNo, tAn, tOr', tAnV, tOrV', tNoV, tIfE, tN0, tCo, tTu, tLs, tCl, tFn, tMh, tRt, tRt0, tNx, tEx, tSe, tAs, gN, gS, gT, gsc, gs0, tU, i2, i2c, rNegD, intC, absD, minD, isD, eqi, eqs, eqb, nei, nes, neb, DL.rIsD, DL.rIsnD, rAddD, rMulD, tMe, tMe0, tBk, tCt, outD, EndsD.xk, startD, optP_some, List.map_cons, List.map_nil, List.length_cons, List.length_nil, List.cons_append, List.nil_append, List.append_nil, List.set_cons_zero, List.set_cons_succ, List.set_nil, List.getElem?_cons_zero, List.getElem?_cons_succ, List.replicate_succ, List.replicate_zero, Nat.zero_add, Nat.reduceAdd, Nat.reduceSub, decide_eq_true_eq, Bool.not_eq_true', decide_eq_false_iff_not]
    exact hQ
  · refine ⟨by rw [sizeLine_eq]; decide, fun q hq => ?_⟩
    have ne : p ≠ q := fun e => by
      subst e
      rw [put_same] at hq
      cases hq
    refine out_ret (h q p _ ⟨Ne.symm ne, (DL.cutD ns none (some 63)).map fun i => if i < 0 then -i else i, 0, 0, put_same, ?_, by omega⟩)
    rw [put_ne ne, put_same]
    unfold iL
    rw [List.map_map]
    rfl
theorem p__law_take (h : sp__law_take K ds M Q X) : t__law_take K (outD Q X) (startD N__law_take ds) M := by
  obtain ⟨st, cs, many, rfl, ⟨ne', ns, i, c, hst, hcs, hi⟩, m0, m1, h⟩ := h
  have ne : cs ≠ st := Ne.symm ne'
  have fin : ∀ (r : Int) (N : Md), 0 ≤ r → r < many → (∀ a, a ≠ st → a ≠ cs → N a = M a) → (∃ (ns' : List Int) (i' c' : Int), N st = some (.lst [.ref cs, .int i', .int c']) ∧ N cs = some (.lst (iL ns')) ∧ 0 ≤ i') → Q (.int r) N := fun r N r0 r1 e z => h r N r0 r1 e ⟨ne', z⟩
  simp only [N__law_take, startD, List.map_cons, List.map_nil, List.length_cons, List.length_nil, Nat.zero_add, Nat.reduceAdd, Nat.reduceSub, List.replicate_succ, List.replicate_zero, List.cons_append, List.nil_append]
  unfold t__law_take
  refine tSq_step fun T hT => ?_
  simp only [wipeD, items_tup, items_lst, items_rng, tupleD, seqA_tup, seqA_lst, tSq, tIf', tTs, tO, tV, tK, tTr, truD, tNo, tAn, tOr', tAnV, tOrV', tNoV, tIfE, tN0, tCo, tTu, tLs, tCl, tFn, tMh, tRt, tRt0, tNx, tEx, tSe, tAs, gN, gS, gT, gsc, gs0, tU, i2, i2c, rNegD, intC, absD, minD, isD, eqi, eqs, eqb, nei, nes, neb, DL.rIsD, DL.rIsnD, rAddD, rMulD, tMe, tMe0, tBk, tCt, outD, EndsD.xk, startD, optP_some, List.map_cons, List.map_nil, List.length_cons, List.length_nil, List.cons_append, List.nil_append, List.append_nil, List.set_cons_zero, List.set_cons_succ, List.set_nil, List.getElem?_cons_zero, List.getElem?_cons_succ, List.replicate_succ, List.replicate_zero, Nat.zero_add, Nat.reduceAdd, Nat.reduceSub, decide_eq_true_eq, Bool.not_eq_true', decide_eq_false_iff_not, ix_eq (seqA_ref hst) atI_2, setD_eq hst (j := 2) (by omega) (by simp)]
  subst hT
  obtain ⟨N, hN⟩ : ∃ N, N = put M st (MC.lst ([D.ref cs, D.int i, D.int c].set (Int.toNat 2) (D.int (c + 1)))) := ⟨_, rfl⟩
  rw [← hN]
  have nst : N st = some (.lst [.ref cs, .int i, .int (c + 1)]) := by rw [hN]; exact put_same
  have ncs : N cs = some (.lst (iL ns)) := by rw [hN, put_ne ne]; exact hcs
  have not : ∀ a, a ≠ st → a ≠ cs → N a = M a := fun a n1 _ => by rw [hN, put_ne n1]
  refine tSq_step fun T hT => ?_
  simp only [wipeD, items_tup, items_lst, items_rng, tupleD, seqA_tup, seqA_lst, tSq, tIf', tTs, tO, tV, tK, tTr, truD, tNo, tAn, tOr', tAnV, tOrV', tNoV, tIfE, tN0, tCo, tTu, tLs, tCl, tFn, tMh, tRt, tRt0, tNx, tEx, tSe, tAs, gN, gS, gT, gsc, gs0, tU, i2, i2c, rNegD, intC, absD, minD, isD, eqi, eqs, eqb, nei, nes, neb, DL.rIsD, DL.rIsnD, rAddD, rMulD, tMe, tMe0, tBk, tCt, outD, EndsD.xk, startD, optP_some, List.map_cons, List.map_nil, List.length_cons, List.length_nil, List.cons_append, List.nil_append, List.append_nil, List.set_cons_zero, List.set_cons_succ, List.set_nil, List.getElem?_cons_zero, List.getElem?_cons_succ, List.replicate_succ, List.replicate_zero, Nat.zero_add, Nat.reduceAdd, Nat.reduceSub, decide_eq_true_eq, Bool.not_eq_true', decide_eq_false_iff_not]
  split
  · exact out_ret (fin 0 N (by omega) m0 not ⟨ns, i, c + 1, nst, ncs, hi⟩)
  · rename_i q2
    subst hT
    refine tSq_step fun T hT => ?_
    simp only [wipeD, items_tup, items_lst, items_rng, tupleD, seqA_tup, seqA_lst, tSq, tIf', tTs, tO, tV, tK, tTr, truD, tNo, tAn, tOr', tAnV, tOrV', tNoV, tIfE, tN0, tCo, tTu, tLs, tCl, tFn, tMh, tRt, tRt0, tNx, tEx, tSe, tAs, gN, gS, gT, gsc, gs0, tU, i2, i2c, rNegD, intC, absD, minD, isD, eqi, eqs, eqb, nei, nes, neb, DL.rIsD, DL.rIsnD, rAddD, rMulD, tMe, tMe0, tBk, tCt, outD, EndsD.xk, startD, optP_some, List.map_cons, List.map_nil, List.length_cons, List.length_nil, List.cons_append, List.nil_append, List.append_nil, List.set_cons_zero, List.set_cons_succ, List.set_nil, List.getElem?_cons_zero, List.getElem?_cons_succ, List.replicate_succ, List.replicate_zero, Nat.zero_add, Nat.reduceAdd, Nat.reduceSub, decide_eq_true_eq, Bool.not_eq_true', decide_eq_false_iff_not, ix_eq (seqA_ref nst) atI_1, ix_eq (seqA_ref nst) atI_0, len_eq (seqA_ref ncs), iL_len]
    split
    · rename_i q3
      have hii : atI (iL ns) i = some (.int (gi ns i)) := atI_iL hi q3
      simp only [wipeD, items_tup, items_lst, items_rng, tupleD, seqA_tup, seqA_lst, tSq, tIf', tTs, tO, tV, tK, tTr, truD, tNo, tAn, tOr', tAnV, tOrV', tNoV, tIfE, tN0, tCo, tTu, tLs, tCl, tFn, tMh, tRt, tRt0, tNx, tEx, tSe, tAs, gN, gS, gT, gsc, gs0, tU, i2, i2c, rNegD, intC, absD, minD, isD, eqi, eqs, eqb, nei, nes, neb, DL.rIsD, DL.rIsnD, rAddD, rMulD, tMe, tMe0, tBk, tCt, outD, EndsD.xk, startD, optP_some, List.map_cons, List.map_nil, List.length_cons, List.length_nil, List.cons_append, List.nil_append, List.append_nil, List.set_cons_zero, List.set_cons_succ, List.set_nil, List.getElem?_cons_zero, List.getElem?_cons_succ, List.replicate_succ, List.replicate_zero, Nat.zero_add, Nat.reduceAdd, Nat.reduceSub, decide_eq_true_eq, Bool.not_eq_true', decide_eq_false_iff_not, ix_eq (seqA_ref nst) atI_1, ix_eq (seqA_ref nst) atI_0, ix_eq (seqA_ref ncs) hii, i2c, setD_eq ncs hi (by rw [iL_len]; exact q3), iL_set]
      refine ⟨⟨m0, by omega⟩, ?_⟩
      obtain ⟨N2, hN2⟩ : ∃ N2, N2 = put N cs (MC.lst (iL (ns.set i.toNat (gi ns i / many)))) := ⟨_, rfl⟩
      rw [← hN2]
      have nst2 : N2 st = some (.lst [.ref cs, .int i, .int (c + 1)]) := by rw [hN2, put_ne (Ne.symm ne)]; exact nst
      have ncs2 : N2 cs = some (.lst (iL (ns.set i.toNat (gi ns i / many)))) := by rw [hN2]; exact put_same
      have not2 : ∀ a, a ≠ st → a ≠ cs → N2 a = M a := fun a n1 n2 => by rw [hN2, put_ne n2]; exact not a n1 n2
      split
      · simp only [wipeD, items_tup, items_lst, items_rng, tupleD, seqA_tup, seqA_lst, tSq, tIf', tTs, tO, tV, tK, tTr, truD, tNo, tAn, tOr', tAnV, tOrV', tNoV, tIfE, tN0, tCo, tTu, tLs, tCl, tFn, tMh, tRt, tRt0, tNx, tEx, tSe, tAs, gN, gS, gT, gsc, gs0, tU, i2, i2c, rNegD, intC, absD, minD, isD, eqi, eqs, eqb, nei, nes, neb, DL.rIsD, DL.rIsnD, rAddD, rMulD, tMe, tMe0, tBk, tCt, outD, EndsD.xk, startD, optP_some, List.map_cons, List.map_nil, List.length_cons, List.length_nil, List.cons_append, List.nil_append, List.append_nil, List.set_cons_zero, List.set_cons_succ, List.set_nil, List.getElem?_cons_zero, List.getElem?_cons_succ, List.replicate_succ, List.replicate_zero, Nat.zero_add, Nat.reduceAdd, Nat.reduceSub, decide_eq_true_eq, Bool.not_eq_true', decide_eq_false_iff_not, ix_eq (seqA_ref nst2) atI_1, setD_eq nst2 (j := 1) (by omega) (by simp)]
        refine ⟨m0, out_ret (fin _ _ (Int.emod_nonneg _ (by omega)) (Int.emod_lt_of_pos _ m0) (fun a n1 n2 => by rw [put_ne n1]; exact not2 a n1 n2) ⟨_, i + 1, c + 1, put_same, by rw [put_ne ne]; exact ncs2, by omega⟩)⟩
      · exact ⟨m0, out_ret (fin _ _ (Int.emod_nonneg _ (by omega)) (Int.emod_lt_of_pos _ m0) not2 ⟨_, i, c + 1, nst2, ncs2, hi⟩)⟩
    · subst hT
      simp only [wipeD, items_tup, items_lst, items_rng, tupleD, seqA_tup, seqA_lst, tSq, tIf', tTs, tO, tV, tK, tTr, truD, tNo, tAn, tOr', tAnV, tOrV', tNoV, tIfE, tN0, tCo, tTu, tLs, tCl, tFn, tMh, tRt, tRt0, tNx, tEx, tSe, tAs, gN, gS, gT, gsc, gs0, tU, i2, i2c, rNegD, intC, absD, minD, isD, eqi, eqs, eqb, nei, nes, neb, DL.rIsD, DL.rIsnD, rAddD, rMulD, tMe, tMe0, tBk, tCt, outD, EndsD.xk, startD, optP_some, List.map_cons, List.map_nil, List.length_cons, List.length_nil, List.cons_append, List.nil_append, List.append_nil, List.set_cons_zero, List.set_cons_succ, List.set_nil, List.getElem?_cons_zero, List.getElem?_cons_succ, List.replicate_succ, List.replicate_zero, Nat.zero_add, Nat.reduceAdd, Nat.reduceSub, decide_eq_true_eq, Bool.not_eq_true', decide_eq_false_iff_not, ix_eq (seqA_ref nst) atI_2, i2c]
      refine ⟨.inr ⟨by decide, by decide⟩, by omega, m0, out_ret (fin _ _ (Int.emod_nonneg _ (by omega)) (Int.emod_lt_of_pos _ m0) not ⟨ns, i, c + 1, nst, ncs, hi⟩)⟩
theorem p__law_words (h : sp__law_words K ds M Q X) : t__law_words K (outD Q X) (startD N__law_words ds) M := by
  obtain ⟨k, rfl, hk, h⟩ := h
  simp only [t__law_words, N__law_words, wipeD, items_tup, items_lst, items_rng, tupleD, seqA_tup, seqA_lst, tSq, tIf', tTs, tO, tV, tK, tTr, truD, tNo, tAn, tOr', tAnV, tOrV', tNoV, tIfE, tN0, tCo, tTu, tLs, tCl, tFn, tMh, tRt, tRt0, tNx, tEx, tSe, tAs, gN, gS, gT, gsc, gs0, tU, i2_ii, i2c_ii, rNegD, intC, absD, minD, isD, eqi, eqs, eqb, nei, nes, neb, DL.rIsD, DL.rIsnD, addi, muli, tMe, tMe0, tBk, tCt, outD, EndsD.xk, startD, optP_some, List.map_cons, List.map_nil, List.length_cons, List.length_nil, List.cons_append, List.nil_append, List.append_nil, List.set_cons_zero, List.set_cons_succ, List.set_nil, List.getElem?_cons_zero, List.getElem?_cons_succ, List.replicate_succ, List.replicate_zero, Nat.zero_add, Nat.reduceAdd, Nat.reduceSub, decide_eq_true_eq, Bool.not_eq_true', decide_eq_false_iff_not]
  refine ⟨two, rIn_lst (b := decide (k ∈ (["turned", "full"] : List Str))) rfl rfl (inF_strs (w := k) (l := ["turned", "full"])) ?_⟩
  have e : decide (k ∈ (["turned", "full"] : List Str)) = decide (k = "turned" ∨ k = "full") := by simp
  rw [e]
  unfold dirs at h
  have l6 : 6 ≤ sizeLine := by rw [sizeLine_eq]; decide
  have l3 : 3 ≤ sizeLine := by rw [sizeLine_eq]; decide
  by_cases c : k = "turned" ∨ k = "full"
  · rw [if_pos c] at h
    rw [decide_eq_true c]
    exact ⟨l6, out_ret h⟩
  · rw [if_neg c] at h
    rw [decide_eq_false c]
    exact ⟨l3, out_ret h⟩
theorem p__law_frame (h : sp__law_frame K ds M Q X) : t__law_frame K (outD Q X) (startD N__law_frame ds) M := by
  obtain ⟨F, rfl, wf, h⟩ := h
  simp only [t__law_frame, N__law_frame, worldD, waysD3, tMk, wipeD, items_tup, items_lst, items_rng, tupleD, seqA_tup, seqA_lst, tSq, tIf', tTs, tO, tV, tK, tTr, truD, tNo, tAn, tOr', tAnV, tOrV', tNoV, tIfE, tN0, tCo, tTu, tLs, tCl, tFn, tMh, tRt, tRt0, tNx, tEx, tSe, tAs, gN, gS, gT, gsc, gs0, tU, i2_ii, i2c_ii, rNegD, intC, absD, minD, isD, eqi, eqs, eqb, nei, nes, neb, DL.rIsD, DL.rIsnD, addi, muli, tMe, tMe0, tBk, tCt, outD, EndsD.xk, startD, optP_some, List.map_cons, List.map_nil, List.length_cons, List.length_nil, List.cons_append, List.nil_append, List.append_nil, List.set_cons_zero, List.set_cons_succ, List.set_nil, List.getElem?_cons_zero, List.getElem?_cons_succ, List.replicate_succ, List.replicate_zero, Nat.zero_add, Nat.reduceAdd, Nat.reduceSub, decide_eq_true_eq, Bool.not_eq_true', decide_eq_false_iff_not, rIx_tup, rIx_lst, atI_0, atI_1, atI_2]
  intro s hs
  refine ⟨s, F, rfl, put_same, wf, fun t => ⟨rfl, _, _, .ins put_same, ?_⟩⟩
  refine ⟨M, _, .less fun a e he => ?_, h t⟩
  rw [put_put] at *
  have ne : a ≠ s := fun z => by
    subst z
    rw [hs] at he
    cases he
  rw [cut_ne ne, put_ne ne]
  exact he
/-! ### repr and == of what is told -/
theorem told_str : ∀ w ∈ toldL, PyData.strOk w = true := by decide +kernel
theorem told_ok : ∀ w ∈ toldL, (w.cps.toList.all fun c => decide (c < 16 ^ 8)) = true ∧ w.cps.size ≤ 10 := by decide
def tupP (w v : Str) (i j : Int) : PyData := .tuple [.str w, .str v, .int i, .int j]
theorem shown_int {i : Int} (h : i.natAbs ≤ 1000000) : (PyData.shown (.int i)).length ≤ 8 := by
  have : (toString i).length ≤ 7 + 1 := int_text_length_le10 (by decide) (by omega)
  simp only [PyData.shown]
  rw [PySem.ofString_length]
  exact this
theorem repr_told {w v : Str} {i j : Int} (hw : w ∈ toldL) (hv : v ∈ toldL) (hi : i.natAbs ≤ 1000000) (hj : j.natAbs ≤ 1000000) (k : Q (.str (tupP w v i j).shown) M) : rpD [.tup [.str w, .str v, .int i, .int j]] M Q := by
  obtain ⟨w1, w2⟩ := told_ok w hw
  obtain ⟨v1, v2⟩ := told_ok v hv
  refine ⟨tupP w v i j, .tup (.cons (.str w) (.cons (.str v) (.cons (.int i) (.cons (.int j) .nil)))), rfl, ?_, rfl, ?_, ?_, k⟩
  · show (true && (true && (decide (i.natAbs.log2 < 1920) && (decide (j.natAbs.log2 < 1920) && true)))) = true
    rw [decide_eq_true (small_log hi), decide_eq_true (small_log hj)]
    rfl
  · exact (by decide : (1 : Nat) ≤ 190)
  · refine PyData.shown_fits_bulk (B := 8) (by decide) (by decide) ?_ ?_
    · show ((w.cps.toList.all fun c => decide (c < 16 ^ 8)) && ((v.cps.toList.all fun c => decide (c < 16 ^ 8)) && (decide ((PyData.shown (.int i)).length ≤ 8) && (decide ((PyData.shown (.int j)).length ≤ 8) && true)))) = true
      rw [w1, v1, decide_eq_true (shown_int hi), decide_eq_true (shown_int hj)]
      rfl
    · show w.cps.size + 1 + (v.cps.size + 1 + (0 + 1 + (0 + 1 + 0))) ≤ 2 ^ 20
      omega
theorem eq_told {w v : Str} {i j : Int} (hw : w ∈ toldL) (hv : v ∈ toldL) (k : Q (.bl true) M) : DL.rEqD (.tup [.str w, .str v, .int i, .int j]) (.tup [.str w, .str v, .int i, .int j]) M Q := by
  have py : Py M (.tup [.str w, .str v, .int i, .int j]) (tupP w v i j) := .tup (.cons (.str w) (.cons (.str v) (.cons (.int i) (.cons (.int j) .nil))))
  have can : (tupP w v i j).canLay0 = true := by
    show (PyData.strOk w && (PyData.strOk v && (true && (true && true)))) = true
    rw [told_str w hw, told_str v hv]
    rfl
  have sh : SeqAt.shaped (tupP w v i j) = true := by
    unfold SeqAt.shaped
    rw [Bool.and_eq_true]
    exact ⟨can, decide_eq_true (by exact (by decide : (1 : Nat) ≤ 64))⟩
  refine ⟨tupP w v i j, tupP w v i j, py, py, sh, sh, ?_⟩
  rw [PySem.SeqAt.eqv_refl _ can]
  exact k
theorem same_ok {E : EndsD} {δ : SD} {d : D} (h0 : δ[0]? = some (some d)) (h1 : δ[1]? = some (some d)) (hd : okS d) (h : E.rt (.bl true) M) : t__law_same K E δ M := by
  have tv : ∀ {Xd : XD} {Q : VD} {N : Md}, tV 0 Xd δ N Q = Q d N := fun {Xd Q N} => by
    unfold tV
    rw [h0]
  have tw : ∀ {Xd : XD} {Q : VD} {N : Md}, tV 1 Xd δ N Q = Q d N := fun {Xd Q N} => by
    unfold tV
    rw [h1]
  have key : ∀ s : Str, (∀ Q : VD, Q (.str s) M → rpD [d] M Q) → (∀ Q : VD, Q (.bl true) M → DL.rEqD d d M Q) → t__law_same K E δ M := fun s hr he => by
    show tV 0 (E.xk δ) δ M _
    rw [tv]
    refine hr _ ?_
    show tV 1 (E.xk δ) δ M _
    rw [tw]
    refine hr _ ?_
    show (if decide (s = s) = true then _ else _)
    rw [if_pos (by simp)]
    show tV 0 (E.xk δ) δ M _
    rw [tv]
    show tV 1 (E.xk δ) δ M _
    rw [tw]
    exact he _ h
  rcases hd with rfl | ⟨b, rfl⟩ | ⟨i, rfl, hi⟩ | ⟨w, v, i, j, rfl, hw, hv, hi, hj⟩
  · exact key "None" (fun Q q => q) fun Q q => ⟨.none, .none, .non, .non, rfl, rfl, q⟩
  · refine key (if b then "True" else "False") (fun Q q => q) fun Q q => ?_
    show Q (.bl (decide (b = b))) M
    rw [decide_eq_true rfl]
    exact q
  · refine key (toString i) (fun Q q => ⟨small_log hi, q⟩) fun Q q => ?_
    show Q (.bl (decide (i = i))) M
    rw [decide_eq_true rfl]
    exact q
  · exact key (tupP w v i j).shown (fun Q q => repr_told hw hv hi hj q) fun Q q => eq_told hw hv q
theorem p__law_same (h : sp__law_same K ds M Q X) : t__law_same K (outD Q X) (startD N__law_same ds) M := by
  obtain ⟨d, rfl, hd, h⟩ := h
  exact same_ok rfl rfl hd (out_ret h)
end K15
namespace K15
open PySem PySem.Spec PyProof.Rows L2 DL
variable [B : Obs] {K : PySem.W.Frag} {mg : Str → Option Value} {P : Program} {ds : List D} {M : Md} {Q : VD} {X : XD}
theorem tab_at {F : Fr} {w : Str} (h : w ∈ dirs6) : ∃ kvs, dicD M (tabD F) = some kvs ∧ lkD kvs (.inr w) = some (tabV F w) := by
  refine ⟨_, rfl, ?_⟩
  rcases dirs_cases h with rfl | rfl | rfl | rfl | rfl | rfl <;> rfl
theorem sh_lst {ns : List Int} : SeqAt.shaped (.list (ns.map PyData.int)) = true := by
  unfold SeqAt.shaped
  rw [Bool.and_eq_true]
  refine ⟨can_ints ns, decide_eq_true ?_⟩
  show PyData.depthAll (ns.map PyData.int) + 1 ≤ 64
  rw [dep_ints]
  omega
theorem eq_lst {a b : List Int} (h : Q (.bl (decide (a = b))) M) : DL.rEqD (.lst (iL a)) (.lst (iL b)) M Q := ⟨.list (a.map .int), .list (b.map .int), .lst (pys_ints a), .lst (pys_ints b), sh_lst, sh_lst, by
  show Q (.bl (PyData.eqvAll (a.map PyData.int) (b.map PyData.int))) M
  rw [eqv_ints]
  exact h⟩
theorem cnt_filter (f : List Int) (v : Int) : ∀ A : List Int, (A.filter fun y => decide (gi f y = v)).length = (A.map (gi f)).count v
  | [] => rfl
  | y :: A => by
    rw [List.map_cons, List.count_cons, ← cnt_filter f v A, List.filter_cons]
    by_cases e : gi f y = v
    · rw [if_pos (decide_eq_true e), if_pos (beq_iff_eq.mpr e), List.length_cons]
    · rw [if_neg (by rw [decide_eq_false e]; decide), if_neg (fun z => e (beq_iff_eq.mp z)), Nat.add_zero]
theorem p__law_fault_at (h : sp__law_fault_at K ds M Q X) : t__law_fault_at K (outD Q X) (startD N__law_fault_at ds) M := by
  obtain ⟨F, G, df, f, k, w, x, rfl, wf, wg, hn, hm, hk, hw, x0, x1, h⟩ := h
  obtain ⟨ka, ea, fa⟩ := tab_at (M := M) (F := F) hw
  obtain ⟨kb, eb, fb⟩ := tab_at (M := M) (F := G) hw
  have ox := ok_leads wf w x
  have yx := hm.at x0 x1
  have hfl := hm.len
  have og := ok_leads wg w (gi f x)
  have fx : ∀ Q : VD, DL.rIxD df (.int x) M Q = Q (.int (gi f x)) M := fun Q => ix_eq hn (atI_iL x0 (by rw [hfl]; exact x1))
  have tb : ∀ (H : Fr), tabV H w = .lst ((rgI H.n).map fun x => .lst (iL (leadsL H w x))) := fun _ => rfl
  have ta1 := atI_rg (f := fun x => D.lst (iL (leadsL F w x))) x0 x1
  have tb1 := atI_rg (f := fun x => D.lst (iL (leadsL G w x))) yx.1 yx.2
  obtain ⟨A, hA⟩ : ∃ A, A = leadsL F w x := ⟨_, rfl⟩
  obtain ⟨Bl, hB⟩ : ∃ Bl, Bl = leadsL G w (gi f x) := ⟨_, rfl⟩
  rw [← hA] at ox h ta1
  rw [← hB] at h tb1 og
  simp only [t__law_fault_at, N__law_fault_at, tFo, tIS, tDg, keyD, wipeD, items_tup, items_lst, items_rng, tupleD, seqA_tup, seqA_lst, tSq, tIf', tTs, tO, tV, tK, tTr, truD, tNo, tAn, tOr', tAnV, tOrV', tNoV, tIfE, tN0, tCo, tTu, tLs, tCl, tFn, tMh, tRt, tRt0, tNx, tEx, tSe, tAs, gN, gS, gT, gsc, gs0, tU, i2_ii, i2c_ii, rNegD, intC, absD, minD, isD, eqi, eqs, eqb, nei, nes, neb, DL.rIsD, DL.rIsnD, addi, muli, tMe, tMe0, tBk, tCt, outD, EndsD.xk, startD, optP_some, List.map_cons, List.map_nil, List.length_cons, List.length_nil, List.cons_append, List.nil_append, List.append_nil, List.set_cons_zero, List.set_cons_succ, List.set_nil, List.getElem?_cons_zero, List.getElem?_cons_succ, List.replicate_succ, List.replicate_zero, Nat.zero_add, Nat.reduceAdd, Nat.reduceSub, decide_eq_true_eq, Bool.not_eq_true', decide_eq_false_iff_not, ea, fa, tb, rIx_lst, ta1]
  have hr : ∀ y ∈ A, 0 ≤ y ∧ y < f.length := fun y hy => by rw [hfl]; exact ox.rg y hy
  refine forGo_ex (α := Int) (β := D) (e := .int) (l := A) (inv := fun δ => ∃ a b c, δ = [some (tabD F), some (tabD G), some df, some (.str k), some (.str w), some (.int x), a, b, c])
    (f := fun y => if gi f y ∈ Bl then none else some (.tup [.str "forth", .str w, .int x, .int y])) (Z := fun r => ∃ M' d', DL.Fin M r M' d' ∧ Q d' M') (by first | trivial | rfl) (fun y hy δ hi R hN hR => ?_) (fun hN δ hi => ?_) (fun r hr => ?_) ⟨_, _, _, rfl⟩
  · obtain ⟨a, b, c, rfl⟩ := hi
    obtain ⟨y0, y1⟩ := hr y hy
    simp only [tDg, keyD, wipeD, items_tup, items_lst, items_rng, tupleD, seqA_tup, seqA_lst, tSq, tIf', tTs, tO, tV, tK, tTr, truD, tNo, tAn, tOr', tAnV, tOrV', tNoV, tIfE, tN0, tCo, tTu, tLs, tCl, tFn, tMh, tRt, tRt0, tNx, tEx, tSe, tAs, gN, gS, gT, gsc, gs0, tU, i2_ii, i2c_ii, rNegD, intC, absD, minD, isD, eqi, eqs, eqb, nei, nes, neb, DL.rIsD, DL.rIsnD, addi, muli, tMe, tMe0, tBk, tCt, outD, EndsD.xk, startD, optP_some, List.map_cons, List.map_nil, List.length_cons, List.length_nil, List.cons_append, List.nil_append, List.append_nil, List.set_cons_zero, List.set_cons_succ, List.set_nil, List.getElem?_cons_zero, List.getElem?_cons_succ, List.replicate_succ, List.replicate_zero, Nat.zero_add, Nat.reduceAdd, Nat.reduceSub, decide_eq_true_eq, Bool.not_eq_true', decide_eq_false_iff_not, eb, fb, tb, rIx_lst, fx, tb1, ix_eq hn (atI_iL y0 y1)]
    refine rIn_at (l := Bl) rfl ?_
    simp only [if_true, Bool.not_eq_true', decide_eq_false_iff_not]
    by_cases q : gi f y ∈ Bl
    · rw [if_neg (by simp [q])]
      exact hN (if_pos q) _ ⟨_, _, _, rfl⟩
    · rw [if_pos q]
      exact ⟨four, hR _ (if_neg q)⟩
  · have hN : faultF f w x A Bl = none := hN
    unfold faultW at h
    rw [hN, Option.none_or] at h
    obtain ⟨a, b, c, rfl⟩ := hi
    simp only [tFo, tIS, tDg, keyD, wipeD, items_tup, items_lst, items_rng, tupleD, seqA_tup, seqA_lst, tSq, tIf', tTs, tO, tV, tK, tTr, truD, tNo, tAn, tOr', tAnV, tOrV', tNoV, tIfE, tN0, tCo, tTu, tLs, tCl, tFn, tMh, tRt, tRt0, tNx, tEx, tSe, tAs, gN, gS, gT, gsc, gs0, tU, i2_ii, i2c_ii, rNegD, intC, absD, minD, isD, eqi, eqs, eqb, nei, nes, neb, DL.rIsD, DL.rIsnD, addi, muli, tMe, tMe0, tBk, tCt, outD, EndsD.xk, startD, optP_some, List.map_cons, List.map_nil, List.length_cons, List.length_nil, List.cons_append, List.nil_append, List.append_nil, List.set_cons_zero, List.set_cons_succ, List.set_nil, List.getElem?_cons_zero, List.getElem?_cons_succ, List.replicate_succ, List.replicate_zero, Nat.zero_add, Nat.reduceAdd, Nat.reduceSub, decide_eq_true_eq, Bool.not_eq_true', decide_eq_false_iff_not, eb, fb, tb, rIx_lst, fx, tb1]
    refine forGo_ex (α := Int) (β := D) (e := .int) (l := Bl) (inv := fun δ => ∃ a b c, δ = [some (tabD F), some (tabD G), some df, some (.str k), some (.str w), some (.int x), a, b, c])
      (f := fun v => if ((A.map (gi f)).count v) = 0 then some (.tup [.str "back", .str w, .int x, .int v]) else if 1 < (A.map (gi f)).count v ∧ isMany k then some (.tup [.str "many", .str w, .int x, .int v]) else none) (Z := fun r => ∃ M' d', DL.Fin M r M' d' ∧ Q d' M') (by first | trivial | rfl) (fun v hv δ hi R hN2 hR => ?_) (fun hN2 δ hi => ?_) (fun r hr => ?_) ⟨_, _, _, rfl⟩
    · obtain ⟨a, b, c, rfl⟩ := hi
      refine tSq_step fun T hT => ?_
      simp only [wipeD, items_tup, items_lst, items_rng, tupleD, seqA_tup, seqA_lst, tSq, tIf', tTs, tO, tV, tK, tTr, truD, tNo, tAn, tOr', tAnV, tOrV', tNoV, tIfE, tN0, tCo, tTu, tLs, tCl, tFn, tMh, tRt, tRt0, tNx, tEx, tSe, tAs, gN, gS, gT, gsc, gs0, tU, i2_ii, i2c_ii, rNegD, intC, absD, minD, isD, eqi, eqs, eqb, nei, nes, neb, DL.rIsD, DL.rIsnD, addi, muli, tMe, tMe0, tBk, tCt, outD, EndsD.xk, startD, optP_some, List.map_cons, List.map_nil, List.length_cons, List.length_nil, List.cons_append, List.nil_append, List.append_nil, List.set_cons_zero, List.set_cons_succ, List.set_nil, List.getElem?_cons_zero, List.getElem?_cons_succ, List.replicate_succ, List.replicate_zero, Nat.zero_add, Nat.reduceAdd, Nat.reduceSub, decide_eq_true_eq, Bool.not_eq_true', decide_eq_false_iff_not]
      refine tLcF_anyT (d0 := .lst (iL A)) (l := A) (e := .int) (f := .int) (b := fun y => decide (gi f y = v)) (fun Q' hQ => ?_) rfl (by have := ox.sz; rw [sizeLine_eq]; omega) (fun y hy p c hp R' hR' => ?_) (fun y hy _ p c hp Q' hQ => ?_) ?_
      · simp only [tDg, keyD, wipeD, items_tup, items_lst, items_rng, tupleD, seqA_tup, seqA_lst, tSq, tIf', tTs, tO, tV, tK, tTr, truD, tNo, tAn, tOr', tAnV, tOrV', tNoV, tIfE, tN0, tCo, tTu, tLs, tCl, tFn, tMh, tRt, tRt0, tNx, tEx, tSe, tAs, gN, gS, gT, gsc, gs0, tU, i2_ii, i2c_ii, rNegD, intC, absD, minD, isD, eqi, eqs, eqb, nei, nes, neb, DL.rIsD, DL.rIsnD, addi, muli, tMe, tMe0, tBk, tCt, outD, EndsD.xk, startD, optP_some, List.map_cons, List.map_nil, List.length_cons, List.length_nil, List.cons_append, List.nil_append, List.append_nil, List.set_cons_zero, List.set_cons_succ, List.set_nil, List.getElem?_cons_zero, List.getElem?_cons_succ, List.replicate_succ, List.replicate_zero, Nat.zero_add, Nat.reduceAdd, Nat.reduceSub, decide_eq_true_eq, Bool.not_eq_true', decide_eq_false_iff_not, ea, fa, tb, rIx_lst, ta1]
        exact hQ
      · obtain ⟨y0, y1⟩ := hr y hy
        simp only [wipeD, items_tup, items_lst, items_rng, tupleD, seqA_tup, seqA_lst, tSq, tIf', tTs, tO, tV, tK, tTr, truD, tNo, tAn, tOr', tAnV, tOrV', tNoV, tIfE, tN0, tCo, tTu, tLs, tCl, tFn, tMh, tRt, tRt0, tNx, tEx, tSe, tAs, gN, gS, gT, gsc, gs0, tU, i2_ii, i2c_ii, rNegD, intC, absD, minD, isD, eqi, eqs, eqb, nei, nes, neb, DL.rIsD, DL.rIsnD, addi, muli, tMe, tMe0, tBk, tCt, outD, EndsD.xk, startD, optP_some, List.map_cons, List.map_nil, List.length_cons, List.length_nil, List.cons_append, List.nil_append, List.append_nil, List.set_cons_zero, List.set_cons_succ, List.set_nil, List.getElem?_cons_zero, List.getElem?_cons_succ, List.replicate_succ, List.replicate_zero, Nat.zero_add, Nat.reduceAdd, Nat.reduceSub, decide_eq_true_eq, Bool.not_eq_true', decide_eq_false_iff_not]
        rw [ix_eq (seqA_put hn hp) (atI_iL y0 y1)]
        exact hR'
      · exact hQ
      · have em : ((A.filter fun y => decide (gi f y = v)).map D.int) = iL (A.filter fun y => decide (gi f y = v)) := rfl
        rw [em]
        have cn := cnt_filter f v A
        subst hT
        try dsimp only
        have l0 : 0 ≤ sizeLine := Nat.zero_le _
        simp only [wipeD, items_tup, items_lst, items_rng, tupleD, seqA_tup, seqA_lst, tSq, tIf', tTs, tO, tV, tK, tTr, truD, tNo, tAn, tOr', tAnV, tOrV', tNoV, tIfE, tN0, tCo, tTu, tLs, tCl, tFn, tMh, tRt, tRt0, tNx, tEx, tSe, tAs, gN, gS, gT, gsc, gs0, tU, i2_ii, i2c_ii, rNegD, intC, absD, minD, isD, eqi, eqs, eqb, nei, nes, neb, DL.rIsD, DL.rIsnD, addi, muli, tMe, tMe0, tBk, tCt, outD, EndsD.xk, startD, optP_some, List.map_cons, List.map_nil, List.length_cons, List.length_nil, List.cons_append, List.nil_append, List.append_nil, List.set_cons_zero, List.set_cons_succ, List.set_nil, List.getElem?_cons_zero, List.getElem?_cons_succ, List.replicate_succ, List.replicate_zero, Nat.zero_add, Nat.reduceAdd, Nat.reduceSub, decide_eq_true_eq, Bool.not_eq_true', decide_eq_false_iff_not]
        refine ⟨l0, eq_lst (b := []) ?_⟩
        have z0 : ((A.filter fun y => decide (gi f y = v)) = []) ↔ (A.map (gi f)).count v = 0 := by
          rw [← cn, List.length_eq_zero_iff]
        simp only [wipeD, items_tup, items_lst, items_rng, tupleD, seqA_tup, seqA_lst, tSq, tIf', tTs, tO, tV, tK, tTr, truD, tNo, tAn, tOr', tAnV, tOrV', tNoV, tIfE, tN0, tCo, tTu, tLs, tCl, tFn, tMh, tRt, tRt0, tNx, tEx, tSe, tAs, gN, gS, gT, gsc, gs0, tU, i2_ii, i2c_ii, rNegD, intC, absD, minD, isD, eqi, eqs, eqb, nei, nes, neb, DL.rIsD, DL.rIsnD, addi, muli, tMe, tMe0, tBk, tCt, outD, EndsD.xk, startD, optP_some, List.map_cons, List.map_nil, List.length_cons, List.length_nil, List.cons_append, List.nil_append, List.append_nil, List.set_cons_zero, List.set_cons_succ, List.set_nil, List.getElem?_cons_zero, List.getElem?_cons_succ, List.replicate_succ, List.replicate_zero, Nat.zero_add, Nat.reduceAdd, Nat.reduceSub, decide_eq_true_eq, Bool.not_eq_true', decide_eq_false_iff_not, z0, len_eq (seqA_lst (xs := iL (A.filter fun y => decide (gi f y = v)))), iL_len, cn]
        by_cases q : (A.map (gi f)).count v = 0
        · rw [if_pos q]
          exact ⟨four, hR _ (if_pos q)⟩
        · rw [if_neg q]
          by_cases q2 : 1 < (A.map (gi f)).count v
          · rw [if_pos (by omega)]
            refine ⟨two, rIn_lst (b := decide (k ∈ (["counted", "full"] : List Str))) rfl rfl (inF_strs (w := k) (l := ["counted", "full"])) ?_⟩
            simp only [Bool.false_eq_true, if_false, decide_eq_true_eq, isMany_iff]
            by_cases q3 : isMany k
            · rw [if_pos q3]
              exact ⟨four, hR _ (by rw [if_neg q, if_pos ⟨q2, q3⟩])⟩
            · rw [if_neg q3]
              exact hN2 (by rw [if_neg q, if_neg fun z => q3 z.2]) _ ⟨_, _, _, rfl⟩
          · rw [if_neg (by omega)]
            simp only [Bool.false_eq_true, if_false]
            exact hN2 (by rw [if_neg q, if_neg fun z => q2 z.1]) _ ⟨_, _, _, rfl⟩
    · have hN2 : faultB f k w x A Bl = none := hN2
      rw [hN2] at h
      obtain ⟨a, b, c, rfl⟩ := hi
      exact out_ret h
    · have hr : faultB f k w x A Bl = some r := hr
      rw [hr] at h
      exact out_ret h
  · have hr : faultF f w x A Bl = some r := hr
    unfold faultW at h
    rw [hr, Option.some_or] at h
    exact out_ret h
end K15
namespace K15
open PySem PySem.Spec PyProof.Rows L2 DL
variable [B : Obs] {K : PySem.W.Frag} {mg : Str → Option Value} {P : Program} {ds : List D} {M : Md} {Q : VD} {X : XD}
theorem ListAt.img {d : D} {f : List Int} (h : ListAt M d f) : ImgAt M d f := by
  refine ⟨?_, .inl ⟨_, h.l⟩⟩
  have hl := h.l
  cases d with
  | lst xs => exact hl
  | ref a =>
    have hl' : (match M a with
      | some (MC.lst xs) => some xs
      | _ => none) = some (iL f) := hl
    show seqA M (.ref a) = some (iL f)
    cases e : M a with
    | none =>
      rw [e] at hl'
      cases hl'
    | some c =>
      rw [e] at hl'
      cases c with
      | lst xs =>
        cases hl'
        exact seqA_ref e
      | _ => cases hl'
  | _ => cases hl
theorem slice_to {d : D} {f : List Int} {x : Int} (h : ListAt M d f) (x0 : 0 ≤ x) (x1 : x ≤ f.length) (k : Q (.lst (iL (f.take x.toNat))) M) : rSlD d none (some x) M Q := by
  have e : DL.cutD (iL f) none (some x) = iL (f.take x.toNat) := by
    unfold DL.cutD
    have s0 : HT.sIx (iL f).length 0 none = 0 := rfl
    have s1 : HT.sIx (iL f).length (iL f).length (some x) = x.toNat := by
      rw [iL_len]
      show (if x < 0 then _ else min x.toNat f.length) = x.toNat
      rw [if_neg (by omega)]
      omega
    rw [s0, s1, List.drop_zero, Nat.sub_zero]
    unfold iL
    rw [List.map_take]
  have hl := h.l
  have z : ∃ xs, seqL M d = some xs ∧ Q (.lst (DL.cutD xs none (some x))) M := ⟨_, hl, by rw [e]; exact k⟩
  cases d with
  | lst xs => exact z
  | ref a => exact z
  | _ => cases hl
theorem take_idx {f : List Int} {a : Int} {n : Nat} (hm : a ∈ f) (hn : n ≤ f.length) : a ∈ f.take n ↔ f.idxOf a < n := by
  constructor
  · intro h
    obtain ⟨i, hi⟩ := List.getElem?_of_mem h
    rw [List.getElem?_take] at hi
    split at hi
    · rename_i q
      obtain ⟨h1, h2⟩ := List.getElem?_eq_some_iff.mp hi
      rcases Nat.lt_or_ge i (f.idxOf a) with c | c
      · have z := List.not_of_lt_findIdx (p := fun z => z == a) (xs := f) c
        rw [h2] at z
        simp at z
      · omega
    · cases hi
  · intro h
    have hl := List.idxOf_lt_length_of_mem hm
    have e : f[f.idxOf a] = a := List.getElem_idxOf hl
    refine List.mem_of_getElem? (i := f.idxOf a) ?_
    rw [List.getElem?_take, if_pos h, List.getElem?_eq_getElem hl, e]
theorem p__law_fault (h : sp__law_fault K ds M Q X) : t__law_fault K (outD Q X) (startD N__law_fault ds) M := by
  obtain ⟨F, G, df, f, k, rfl, wf, wg, hl, hm, hk, h⟩ := h
  have lo := wf.lo
  have hh := wf.hi
  have lg := wg.lo
  have hg := wg.hi
  have hfl := hm.len
  have hi := hl.img
  simp only [t__law_fault, N__law_fault, tFo, tIR1, tIS, wipeD, items_tup, items_lst, items_rng, tupleD, seqA_tup, seqA_lst, tSq, tIf', tTs, tO, tV, tK, tTr, truD, tNo, tAn, tOr', tAnV, tOrV', tNoV, tIfE, tN0, tCo, tTu, tLs, tCl, tFn, tMh, tRt, tRt0, tNx, tEx, tSe, tAs, gN, gS, gT, gsc, gs0, tU, i2_ii, i2c_ii, rNegD, intC, absD, minD, isD, eqi, eqs, eqb, nei, nes, neb, DL.rIsD, DL.rIsnD, addi, muli, tMe, tMe0, tBk, tCt, outD, EndsD.xk, startD, optP_some, List.map_cons, List.map_nil, List.length_cons, List.length_nil, List.cons_append, List.nil_append, List.append_nil, List.set_cons_zero, List.set_cons_succ, List.set_nil, List.getElem?_cons_zero, List.getElem?_cons_succ, List.replicate_succ, List.replicate_zero, Nat.zero_add, Nat.reduceAdd, Nat.reduceSub, decide_eq_true_eq, Bool.not_eq_true', decide_eq_false_iff_not, len_eq hi.n, iL_len, hfl, rg_map]
  refine ⟨⟨by omega, by omega⟩, ?_⟩
  refine forGo_ex (α := Int) (β := D) (e := .int) (l := rgI F.n) (inv := fun δ => ∃ a b c d, δ = [some (tabD F), some (tabD G), some df, some (.str k), a, b, c, d])
    (f := fun x => faultA f k x (fun w => leadsL F w x) (fun w => leadsL G w (gi f x))) (Z := fun r => ∃ M' d', DL.Fin M r M' d' ∧ Q d' M') (by first | trivial | rfl) (fun x hx δ hi' R hN hR => ?_) (fun hN δ hi' => ?_) (fun r hr => ?_) ⟨_, _, _, _, rfl⟩
  · obtain ⟨a, b, c, d, rfl⟩ := hi'
    obtain ⟨x0, x1⟩ := rgI_mem hx
    simp only [tFo, tIS, wipeD, items_tup, items_lst, items_rng, tupleD, seqA_tup, seqA_lst, tSq, tIf', tTs, tO, tV, tK, tTr, truD, tNo, tAn, tOr', tAnV, tOrV', tNoV, tIfE, tN0, tCo, tTu, tLs, tCl, tFn, tMh, tRt, tRt0, tNx, tEx, tSe, tAs, gN, gS, gT, gsc, gs0, tU, i2_ii, i2c_ii, rNegD, intC, absD, minD, isD, eqi, eqs, eqb, nei, nes, neb, DL.rIsD, DL.rIsnD, addi, muli, tMe, tMe0, tBk, tCt, outD, EndsD.xk, startD, optP_some, List.map_cons, List.map_nil, List.length_cons, List.length_nil, List.cons_append, List.nil_append, List.append_nil, List.set_cons_zero, List.set_cons_succ, List.set_nil, List.getElem?_cons_zero, List.getElem?_cons_succ, List.replicate_succ, List.replicate_zero, Nat.zero_add, Nat.reduceAdd, Nat.reduceSub, decide_eq_true_eq, Bool.not_eq_true', decide_eq_false_iff_not]
    refine ⟨k, rfl, hk, ?_⟩
    simp only [wipeD, items_tup, items_lst, items_rng, tupleD, seqA_tup, seqA_lst, tSq, tIf', tTs, tO, tV, tK, tTr, truD, tNo, tAn, tOr', tAnV, tOrV', tNoV, tIfE, tN0, tCo, tTu, tLs, tCl, tFn, tMh, tRt, tRt0, tNx, tEx, tSe, tAs, gN, gS, gT, gsc, gs0, tU, i2_ii, i2c_ii, rNegD, intC, absD, minD, isD, eqi, eqs, eqb, nei, nes, neb, DL.rIsD, DL.rIsnD, addi, muli, tMe, tMe0, tBk, tCt, outD, EndsD.xk, startD, optP_some, List.map_cons, List.map_nil, List.length_cons, List.length_nil, List.cons_append, List.nil_append, List.append_nil, List.set_cons_zero, List.set_cons_succ, List.set_nil, List.getElem?_cons_zero, List.getElem?_cons_succ, List.replicate_succ, List.replicate_zero, Nat.zero_add, Nat.reduceAdd, Nat.reduceSub, decide_eq_true_eq, Bool.not_eq_true', decide_eq_false_iff_not]
    refine forGo_ex (α := Str) (β := D) (e := .str) (l := dirs k) (inv := fun δ => ∃ b c d, δ = [some (tabD F), some (tabD G), some df, some (.str k), some (.int x), b, c, d])
      (f := fun w => faultW f k w x (leadsL F w x) (leadsL G w (gi f x))) (Z := fun r => ∃ M' d', DL.Fin M r M' d' ∧ Q d' M') (by first | trivial | rfl) (fun w hw δ hi' R' hN' hR' => ?_) (fun hN' δ hi' => ?_) (fun r hr => hR r hr) ⟨_, _, _, rfl⟩
    · obtain ⟨b, c, d, rfl⟩ := hi'
      simp only [wipeD, items_tup, items_lst, items_rng, tupleD, seqA_tup, seqA_lst, tSq, tIf', tTs, tO, tV, tK, tTr, truD, tNo, tAn, tOr', tAnV, tOrV', tNoV, tIfE, tN0, tCo, tTu, tLs, tCl, tFn, tMh, tRt, tRt0, tNx, tEx, tSe, tAs, gN, gS, gT, gsc, gs0, tU, i2_ii, i2c_ii, rNegD, intC, absD, minD, isD, eqi, eqs, eqb, nei, nes, neb, DL.rIsD, DL.rIsnD, addi, muli, tMe, tMe0, tBk, tCt, outD, EndsD.xk, startD, optP_some, List.map_cons, List.map_nil, List.length_cons, List.length_nil, List.cons_append, List.nil_append, List.append_nil, List.set_cons_zero, List.set_cons_succ, List.set_nil, List.getElem?_cons_zero, List.getElem?_cons_succ, List.replicate_succ, List.replicate_zero, Nat.zero_add, Nat.reduceAdd, Nat.reduceSub, decide_eq_true_eq, Bool.not_eq_true', decide_eq_false_iff_not]
      refine ⟨F, G, df, f, k, w, x, rfl, wf, wg, hi.n, hm, hk, dirs_sub hw, x0, x1, ?_⟩
      cases e : faultW f k w x (leadsL F w x) (leadsL G w (gi f x)) with
      | none =>
        simp only [wipeD, items_tup, items_lst, items_rng, tupleD, seqA_tup, seqA_lst, tSq, tIf', tTs, tO, tV, tK, tTr, truD, tNo, tAn, tOr', tAnV, tOrV', tNoV, tIfE, tN0, tCo, tTu, tLs, tCl, tFn, tMh, tRt, tRt0, tNx, tEx, tSe, tAs, gN, gS, gT, gsc, gs0, tU, i2_ii, i2c_ii, rNegD, intC, absD, minD, isD, eqi, eqs, eqb, nei, nes, neb, DL.rIsD, DL.rIsnD, addi, muli, tMe, tMe0, tBk, tCt, outD, EndsD.xk, startD, optP_some, List.map_cons, List.map_nil, List.length_cons, List.length_nil, List.cons_append, List.nil_append, List.append_nil, List.set_cons_zero, List.set_cons_succ, List.set_nil, List.getElem?_cons_zero, List.getElem?_cons_succ, List.replicate_succ, List.replicate_zero, Nat.zero_add, Nat.reduceAdd, Nat.reduceSub, decide_eq_true_eq, Bool.not_eq_true', decide_eq_false_iff_not, orN, DL.isNon, Bool.not_true, Bool.false_eq_true, if_false]
        exact hN' e _ ⟨_, _, _, rfl⟩
      | some r =>
        obtain ⟨l, rfl⟩ := faultW_tup e
        simp only [wipeD, items_tup, items_lst, items_rng, tupleD, seqA_tup, seqA_lst, tSq, tIf', tTs, tO, tV, tK, tTr, truD, tNo, tAn, tOr', tAnV, tOrV', tNoV, tIfE, tN0, tCo, tTu, tLs, tCl, tFn, tMh, tRt, tRt0, tNx, tEx, tSe, tAs, gN, gS, gT, gsc, gs0, tU, i2_ii, i2c_ii, rNegD, intC, absD, minD, isD, eqi, eqs, eqb, nei, nes, neb, DL.rIsD, DL.rIsnD, addi, muli, tMe, tMe0, tBk, tCt, outD, EndsD.xk, startD, optP_some, List.map_cons, List.map_nil, List.length_cons, List.length_nil, List.cons_append, List.nil_append, List.append_nil, List.set_cons_zero, List.set_cons_succ, List.set_nil, List.getElem?_cons_zero, List.getElem?_cons_succ, List.replicate_succ, List.replicate_zero, Nat.zero_add, Nat.reduceAdd, Nat.reduceSub, decide_eq_true_eq, Bool.not_eq_true', decide_eq_false_iff_not, orN, DL.isNon, Bool.not_false, if_true]
        exact hR' _ e
    · obtain ⟨b, c, d, rfl⟩ := hi'
      exact hN hN' _ ⟨_, _, _, _, rfl⟩
  · have hN : placeF F G f k = none := hN
    unfold mapF at h
    rw [hN, Option.none_or] at h
    obtain ⟨a, b, c, d, rfl⟩ := hi'
    obtain ⟨kb, eb, fb⟩ := tab_at (M := M) (F := G) (w := "a") (by decide)
    have la : lenD [tabV G "a"] M = fun Q => Q (.int G.n) M := by
      funext Q
      rw [len_eq (show seqA M (tabV G "a") = some ((rgI G.n).map fun x => .lst (iL (leadsL G "a" x))) from rfl), List.length_map, rgI_len, Int.toNat_of_nonneg (by omega)]
    simp only [tFo, tIR1, tDg, keyD, wipeD, items_tup, items_lst, items_rng, tupleD, seqA_tup, seqA_lst, tSq, tIf', tTs, tO, tV, tK, tTr, truD, tNo, tAn, tOr', tAnV, tOrV', tNoV, tIfE, tN0, tCo, tTu, tLs, tCl, tFn, tMh, tRt, tRt0, tNx, tEx, tSe, tAs, gN, gS, gT, gsc, gs0, tU, i2_ii, i2c_ii, rNegD, intC, absD, minD, isD, eqi, eqs, eqb, nei, nes, neb, DL.rIsD, DL.rIsnD, addi, muli, tMe, tMe0, tBk, tCt, outD, EndsD.xk, startD, optP_some, List.map_cons, List.map_nil, List.length_cons, List.length_nil, List.cons_append, List.nil_append, List.append_nil, List.set_cons_zero, List.set_cons_succ, List.set_nil, List.getElem?_cons_zero, List.getElem?_cons_succ, List.replicate_succ, List.replicate_zero, Nat.zero_add, Nat.reduceAdd, Nat.reduceSub, decide_eq_true_eq, Bool.not_eq_true', decide_eq_false_iff_not, eb, fb, la, rg_map]
    refine ⟨⟨by omega, by omega⟩, ?_⟩
    have em : missF f k G.n = (rgI G.n).findSome? fun v => if (k = "all" ∨ k = "full") ∧ ¬ v ∈ f then some (.tup [.str "missed", .str "all", .int v, .int v]) else none := by
      unfold missF
      by_cases q : k = "all" ∨ k = "full"
      · rw [if_pos q]
        congr 1
        funext v
        by_cases q2 : v ∈ f
        · rw [if_pos q2, if_neg fun z => z.2 q2]
        · rw [if_neg q2, if_pos ⟨q, q2⟩]
      · rw [if_neg q]
        symm
        rw [List.findSome?_eq_none_iff]
        exact fun v _ => if_neg fun z => q z.1
    rw [em] at h
    have hq : (k ∈ (["all", "full"] : List Str)) ↔ (k = "all" ∨ k = "full") := by simp
    refine forGo_ex (α := Int) (β := D) (e := .int) (l := rgI G.n) (inv := fun δ => ∃ a b c d, δ = [some (tabD F), some (tabD G), some df, some (.str k), a, b, c, d])
      (f := fun v => if (k = "all" ∨ k = "full") ∧ ¬ v ∈ f then some (.tup [.str "missed", .str "all", .int v, .int v]) else none) (Z := fun r => ∃ M' d', DL.Fin M r M' d' ∧ Q d' M') (by first | trivial | rfl) (fun v hv δ hi' R hN2 hR => ?_) (fun hN2 δ hi' => ?_) (fun r hr => ?_) ⟨_, _, _, _, rfl⟩
    · obtain ⟨a, b, c, d, rfl⟩ := hi'
      simp only [wipeD, items_tup, items_lst, items_rng, tupleD, seqA_tup, seqA_lst, tSq, tIf', tTs, tO, tV, tK, tTr, truD, tNo, tAn, tOr', tAnV, tOrV', tNoV, tIfE, tN0, tCo, tTu, tLs, tCl, tFn, tMh, tRt, tRt0, tNx, tEx, tSe, tAs, gN, gS, gT, gsc, gs0, tU, i2_ii, i2c_ii, rNegD, intC, absD, minD, isD, eqi, eqs, eqb, nei, nes, neb, DL.rIsD, DL.rIsnD, addi, muli, tMe, tMe0, tBk, tCt, outD, EndsD.xk, startD, optP_some, List.map_cons, List.map_nil, List.length_cons, List.length_nil, List.cons_append, List.nil_append, List.append_nil, List.set_cons_zero, List.set_cons_succ, List.set_nil, List.getElem?_cons_zero, List.getElem?_cons_succ, List.replicate_succ, List.replicate_zero, Nat.zero_add, Nat.reduceAdd, Nat.reduceSub, decide_eq_true_eq, Bool.not_eq_true', decide_eq_false_iff_not]
      refine ⟨two, rIn_lst (b := decide (k ∈ (["all", "full"] : List Str))) rfl rfl (inF_strs (w := k) (l := ["all", "full"])) ?_⟩
      simp only [Bool.false_eq_true, if_false, decide_eq_true_eq, hq]
      by_cases q : k = "all" ∨ k = "full"
      · rw [if_pos q]
        refine rIn_at (l := f) hi.n ?_
        simp only [if_true, Bool.not_eq_true', decide_eq_false_iff_not]
        by_cases q2 : v ∈ f
        · rw [if_neg (by simp [q2])]
          exact hN2 (if_neg fun z => z.2 q2) _ ⟨_, _, _, _, rfl⟩
        · rw [if_pos q2]
          exact ⟨four, hR _ (if_pos ⟨q, q2⟩)⟩
      · rw [if_neg q]
        exact hN2 (if_neg fun z => q z.1) _ ⟨_, _, _, _, rfl⟩
    · rw [hN2, Option.none_or] at h
      obtain ⟨a, b, c, d, rfl⟩ := hi'
      simp only [tFo, tIR1, wipeD, items_tup, items_lst, items_rng, tupleD, seqA_tup, seqA_lst, tSq, tIf', tTs, tO, tV, tK, tTr, truD, tNo, tAn, tOr', tAnV, tOrV', tNoV, tIfE, tN0, tCo, tTu, tLs, tCl, tFn, tMh, tRt, tRt0, tNx, tEx, tSe, tAs, gN, gS, gT, gsc, gs0, tU, i2_ii, i2c_ii, rNegD, intC, absD, minD, isD, eqi, eqs, eqb, nei, nes, neb, DL.rIsD, DL.rIsnD, addi, muli, tMe, tMe0, tBk, tCt, outD, EndsD.xk, startD, optP_some, List.map_cons, List.map_nil, List.length_cons, List.length_nil, List.cons_append, List.nil_append, List.append_nil, List.set_cons_zero, List.set_cons_succ, List.set_nil, List.getElem?_cons_zero, List.getElem?_cons_succ, List.replicate_succ, List.replicate_zero, Nat.zero_add, Nat.reduceAdd, Nat.reduceSub, decide_eq_true_eq, Bool.not_eq_true', decide_eq_false_iff_not, len_eq hi.n, iL_len, hfl, rg_map]
      refine ⟨⟨by omega, by omega⟩, ?_⟩
      have et : twiceF f k F.n = (rgI F.n).findSome? fun x => if k = "full" ∧ ((f.idxOf (gi f x) : Nat) : Int) < x then some (.tup [.str "twice", .str "all", .int (f.idxOf (gi f x) : Nat), .int x]) else none := by
        unfold twiceF
        by_cases q : k = "full"
        · rw [if_pos q]
          congr 1
          funext x
          by_cases q2 : ((f.idxOf (gi f x) : Nat) : Int) < x
          · rw [if_pos q2, if_pos ⟨q, q2⟩]
          · rw [if_neg q2, if_neg fun z => q2 z.2]
        · rw [if_neg q]
          symm
          rw [List.findSome?_eq_none_iff]
          exact fun v _ => if_neg fun z => q z.1
      rw [et] at h
      refine forGo_ex (α := Int) (β := D) (e := .int) (l := rgI F.n) (inv := fun δ => ∃ a b c d, δ = [some (tabD F), some (tabD G), some df, some (.str k), a, b, c, d])
        (f := fun x => if k = "full" ∧ ((f.idxOf (gi f x) : Nat) : Int) < x then some (.tup [.str "twice", .str "all", .int (f.idxOf (gi f x) : Nat), .int x]) else none) (Z := fun r => ∃ M' d', DL.Fin M r M' d' ∧ Q d' M') (by first | trivial | rfl) (fun x hx δ hi' R hN2 hR => ?_) (fun hN2 δ hi' => ?_) (fun r hr => ?_) ⟨_, _, _, _, rfl⟩
      · obtain ⟨a, b, c, d, rfl⟩ := hi'
        obtain ⟨x0, x1⟩ := rgI_mem hx
        have fx : ∀ Q : VD, DL.rIxD df (.int x) M Q = Q (.int (gi f x)) M := fun Q => ix_eq hi.n (atI_iL x0 (by omega))
        have hmem := gi_mem (f := f) x0 (by omega)
        simp only [wipeD, items_tup, items_lst, items_rng, tupleD, seqA_tup, seqA_lst, tSq, tIf', tTs, tO, tV, tK, tTr, truD, tNo, tAn, tOr', tAnV, tOrV', tNoV, tIfE, tN0, tCo, tTu, tLs, tCl, tFn, tMh, tRt, tRt0, tNx, tEx, tSe, tAs, gN, gS, gT, gsc, gs0, tU, i2_ii, i2c_ii, rNegD, intC, absD, minD, isD, eqi, eqs, eqb, nei, nes, neb, DL.rIsD, DL.rIsnD, addi, muli, tMe, tMe0, tBk, tCt, outD, EndsD.xk, startD, optP_some, List.map_cons, List.map_nil, List.length_cons, List.length_nil, List.cons_append, List.nil_append, List.append_nil, List.set_cons_zero, List.set_cons_succ, List.set_nil, List.getElem?_cons_zero, List.getElem?_cons_succ, List.replicate_succ, List.replicate_zero, Nat.zero_add, Nat.reduceAdd, Nat.reduceSub, decide_eq_true_eq, Bool.not_eq_true', decide_eq_false_iff_not]
        by_cases q : k = "full"
        · rw [if_pos q]
          simp only [tSlc, tP0, tP1, wipeD, items_tup, items_lst, items_rng, tupleD, seqA_tup, seqA_lst, tSq, tIf', tTs, tO, tV, tK, tTr, truD, tNo, tAn, tOr', tAnV, tOrV', tNoV, tIfE, tN0, tCo, tTu, tLs, tCl, tFn, tMh, tRt, tRt0, tNx, tEx, tSe, tAs, gN, gS, gT, gsc, gs0, tU, i2_ii, i2c_ii, rNegD, intC, absD, minD, isD, eqi, eqs, eqb, nei, nes, neb, DL.rIsD, DL.rIsnD, addi, muli, tMe, tMe0, tBk, tCt, outD, EndsD.xk, startD, optP_some, List.map_cons, List.map_nil, List.length_cons, List.length_nil, List.cons_append, List.nil_append, List.append_nil, List.set_cons_zero, List.set_cons_succ, List.set_nil, List.getElem?_cons_zero, List.getElem?_cons_succ, List.replicate_succ, List.replicate_zero, Nat.zero_add, Nat.reduceAdd, Nat.reduceSub, decide_eq_true_eq, Bool.not_eq_true', decide_eq_false_iff_not, fx]
          refine slice_to hl x0 (by omega) ?_
          refine rIn_lst (b := decide (gi f x ∈ f.take x.toNat)) rfl flat_ints' inF_ints ?_
          have ti := take_idx (n := x.toNat) hmem (by omega)
          simp only [Bool.false_eq_true, if_false, decide_eq_true_eq, ti]
          by_cases q2 : f.idxOf (gi f x) < x.toNat
          · rw [if_pos q2]
            simp only [tIdx, wipeD, items_tup, items_lst, items_rng, tupleD, seqA_tup, seqA_lst, tSq, tIf', tTs, tO, tV, tK, tTr, truD, tNo, tAn, tOr', tAnV, tOrV', tNoV, tIfE, tN0, tCo, tTu, tLs, tCl, tFn, tMh, tRt, tRt0, tNx, tEx, tSe, tAs, gN, gS, gT, gsc, gs0, tU, i2_ii, i2c_ii, rNegD, intC, absD, minD, isD, eqi, eqs, eqb, nei, nes, neb, DL.rIsD, DL.rIsnD, addi, muli, tMe, tMe0, tBk, tCt, outD, EndsD.xk, startD, optP_some, List.map_cons, List.map_nil, List.length_cons, List.length_nil, List.cons_append, List.nil_append, List.append_nil, List.set_cons_zero, List.set_cons_succ, List.set_nil, List.getElem?_cons_zero, List.getElem?_cons_succ, List.replicate_succ, List.replicate_zero, Nat.zero_add, Nat.reduceAdd, Nat.reduceSub, decide_eq_true_eq, Bool.not_eq_true', decide_eq_false_iff_not, fx]
            refine ⟨hi.ok, f, gi f x, f.idxOf (gi f x), by first | trivial | rfl, hi.n, by first | trivial | rfl, ?_, ?_, four, hR _ (if_pos ⟨q, by omega⟩)⟩
            · rw [List.getElem?_eq_getElem (List.idxOf_lt_length_of_mem hmem), List.getElem_idxOf]
            · intro m hm' e
              obtain ⟨h1, h2⟩ := List.getElem?_eq_some_iff.mp e
              have q3 := List.not_of_lt_findIdx (p := fun z => z == gi f x) (xs := f) hm'
              rw [h2] at q3
              simp at q3
          · rw [if_neg q2]
            exact hN2 (if_neg fun z => q2 (by omega)) _ ⟨_, _, _, _, rfl⟩
        · rw [if_neg q]
          simp only [Bool.false_eq_true, if_false]
          exact hN2 (if_neg fun z => q z.1) _ ⟨_, _, _, _, rfl⟩
      · rw [hN2] at h
        obtain ⟨a, b, c, d, rfl⟩ := hi'
        exact out_ret h
      · rw [hr] at h
        exact out_ret h
    · rw [hr, Option.some_or] at h
      exact out_ret h
  · have hr : placeF F G f k = some r := hr
    unfold mapF at h
    rw [hr, Option.some_or] at h
    exact out_ret h
end K15
/-! Lists of lists as cells: made by a comprehension, frozen together. -/
namespace DL
open PySem PySem.Spec PyProof.Rows L2
variable [B : Obs] {M : Md} {δ : SD} {Q : VD}
def cutL : List Addr → Md → Md
  | [], M => M
  | r :: rs, M => cutL rs (cut M r)
theorem cutL_out : ∀ {rs : List Addr} {M : Md} {a : Addr}, a ∉ rs → cutL rs M a = M a
  | [], _, _, _ => rfl
  | r :: rs, M, a, h => by
    show cutL rs (cut M r) a = M a
    rw [cutL_out fun z => h (List.mem_cons_of_mem _ z), cut_ne fun z => h (by rw [z]; exact List.mem_cons_self)]
theorem froze_rows {K : PySem.W.Frag} {H : Hp} : ∀ {rd : List (Addr × List D)} {F : Hp} {M : Md}, Rl K F H M → (∀ p ∈ rd, M p.1 = some (.lst p.2)) → (rd.map (·.1)).Nodup → ∃ G, Le F G ∧ Rl K G H (cutL (rd.map (·.1)) M) ∧ Rps K G (rd.map fun p => V.ref p.1) (rd.map fun p => D.lst p.2)
  | [], F, M, l, _, _ => ⟨F, .rfl' F, l, .nil⟩
  | p :: rd, F, M, l, h, nd => by
    rw [List.map_cons, List.nodup_cons] at nd
    obtain ⟨hf, vs, hh, rr⟩ := l.cell p.1 _ (h p List.mem_cons_self)
    obtain ⟨l2, g⟩ := l.froze hh hf
    obtain ⟨G, g2, l3, r3⟩ := froze_rows l2 (fun q hq => by
      rw [cut_ne fun z => nd.1 (by rw [← z]; exact List.mem_map.mpr ⟨q, hq, rfl⟩)]
      exact h q (List.mem_cons_of_mem _ hq)) nd.2
    exact ⟨G, g.then' g2, l3, .cons (.lst (g2.of upd_same) (rr.mono (g.then' g2))) r3⟩
theorem refs_of {K : PySem.W.Frag} {F : Hp} : ∀ {rs : List Addr} {vs : List V}, Rps K F vs (rs.map D.ref) → vs = rs.map V.ref
  | [], _, .nil => rfl
  | r :: rs, _, .cons h t => by
    cases h
    rw [refs_of t]
    rfl
theorem Fin.rows {a : Addr} {rd : List (Addr × List D)} (ha : M a = some (.lst (rd.map fun p => D.ref p.1))) (hn : a ∉ rd.map (·.1)) (nd : (rd.map (·.1)).Nodup) (h : ∀ p ∈ rd, M p.1 = some (.lst p.2)) {N : Md} (hN : ∀ z c, N z = some c → z ≠ a ∧ z ∉ rd.map (·.1) ∧ M z = some c) :
    DL.Fin M (.ref a) N (.lst (rd.map fun p => D.lst p.2)) := ⟨fun {K F H v} l r => by
  cases r
  obtain ⟨G, g, l2, r2⟩ := froze_rows l h nd
  have ha2 : cutL (rd.map (·.1)) M a = some (.lst (rd.map fun p => D.ref p.1)) := by rw [cutL_out hn, ha]
  obtain ⟨hf, vs, hh, rr⟩ := l2.cell a _ ha2
  have ev : vs = rd.map fun p => V.ref p.1 := by
    have e : (rd.map fun p => D.ref p.1) = (rd.map (·.1)).map D.ref := by rw [List.map_map]; rfl
    rw [e] at rr
    have z := refs_of rr
    rw [List.map_map] at z
    exact z
  subst ev
  obtain ⟨l3, g3⟩ := l2.froze hh hf
  refine ⟨_, g.then' g3, l3.less fun z c e => ?_, .lst upd_same (r2.mono g3)⟩
  obtain ⟨z1, z2, z3⟩ := hN z c e
  rw [cut_ne z1, cutL_out z2]
  exact z3⟩
/-- [[] for x in range(n)], cells all -/
theorem mk_rows {Xd : XD} {ta : TAd} {i : Nat} {vs : List Nat} {n : Int} (h0 : ∀ R : List D → Md → Prop, R [.int n] M → ta Xd δ M R) (hb : 0 ≤ n) (hz : n ≤ 1000000)
    (h : ∀ (p : Addr) (rs : List Addr) (N : Md), M p = none → rs.length = n.toNat → rs.Nodup → (∀ r ∈ rs, M r = none ∧ r ≠ p) → N p = some (.lst (rs.map D.ref)) → (∀ r ∈ rs, N r = some (.lst [])) → (∀ a, a ≠ p → a ∉ rs → N a = M a) → Q (.ref p) N) :
    tLcM (.one i) (tIR1 ta) tYs (tLsM tN0) vs Xd δ M Q := by
  refine h0 _ ⟨⟨by omega, by omega⟩, fun p hp => ?_⟩
  show lcGo (.one i) tYs (tLsM tN0) (fun _ => True) _ p _ ((List.range n.toNat).map fun i => D.int ((i : Nat) : Int)) _
  have hlen : ((List.range n.toNat).map fun i => D.int ((i : Nat) : Int)).length = n.toNat := by rw [List.length_map, List.length_range]
  refine lcGo_at (I := fun acc N => ∃ rs : List Addr, acc = rs.map D.ref ∧ rs.Nodup ∧ (∀ r ∈ rs, M r = none ∧ r ≠ p) ∧ (∀ r ∈ rs, N r = some (.lst [])) ∧ ∀ a, a ≠ p → a ∉ rs → N a = M a) (by rw [hlen, sizeLine_eq]; omega) (fun _ _ _ _ => trivial) (fun k hk acc N hl hN hI R hR => ?_) (fun acc N hl hN hI => ?_) put_same ⟨[], rfl, .nil, (fun _ z => by cases z), (fun _ z => by cases z), fun a ha _ => put_ne ha⟩
  · obtain ⟨rs, e, nd, h1, h2, h3⟩ := hI
    refine ⟨Nat.zero_le _, fun q hq => ?_⟩
    have qp : q ≠ p := fun z => by
      subst z
      rw [hN] at hq
      cases hq
    have qr : q ∉ rs := fun z => by
      rw [h2 q z] at hq
      cases hq
    refine hR _ _ (by rw [put_ne qp.symm]; exact hN) ⟨rs ++ [q], by rw [e, List.map_append]; rfl, ?_, ?_, ?_, ?_⟩
    · rw [List.nodup_append]
      exact ⟨nd, by simp, fun a ha b hb => by
        rw [List.mem_singleton] at hb
        subst hb
        exact fun z => qr (by rw [← z]; exact ha)⟩
    · intro r hr
      rcases List.mem_append.mp hr with hr | hr
      · exact h1 r hr
      · rw [List.mem_singleton] at hr
        subst hr
        refine ⟨?_, qp⟩
        rw [← h3 r qp qr]
        exact hq
    · intro r hr
      have rp : r ≠ p := by
        rcases List.mem_append.mp hr with hr | hr
        · exact (h1 r hr).2
        · rw [List.mem_singleton] at hr
          rw [hr]
          exact qp
      rw [put_ne rp]
      by_cases z : r = q
      · rw [z, put_same]
      · rw [put_ne z]
        rcases List.mem_append.mp hr with hr | hr
        · exact h2 r hr
        · exact absurd (List.mem_singleton.mp hr) z
    · intro a ha hn
      rw [put_ne ha, put_ne fun z => hn (by rw [z]; exact List.mem_append_right _ List.mem_cons_self)]
      exact h3 a ha fun z => hn (List.mem_append_left _ z)
  · obtain ⟨rs, e, nd, h1, h2, h3⟩ := hI
    refine h p rs N hp ?_ nd h1 (by rw [hN, e]) h2 h3
    rw [e, List.length_map, hlen] at hl
    exact hl
end DL
namespace K15
open PySem PySem.Spec PyProof.Rows L2 DL
variable [B : Obs] {K : PySem.W.Frag} {mg : Str → Option Value} {P : Program} {ds : List D} {M : Md} {Q : VD} {X : XD}
/-- the cells of one turn stand apart -/
structure Sst (M : Md) (n : Int) (t a b : Addr) (ra rb : List Addr) : Prop where
  la : ra.length = n.toNat
  lb : rb.length = n.toNat
  nda : ra.Nodup
  ndb : rb.Nodup
  dis : ∀ r ∈ ra, r ∉ rb
  ara : a ∉ ra ∧ a ∉ rb
  bra : b ∉ ra ∧ b ∉ rb
  tra : t ∉ ra ∧ t ∉ rb
  ab : a ≠ b
  at_ : a ≠ t
  bt : b ≠ t
  ma : M a = none
  mb : M b = none
  mra : ∀ r ∈ ra, M r = none
  mrb : ∀ r ∈ rb, M r = none
structure Tst (M N : Md) (t a b : Addr) (ra rb : List Addr) (kvs : List (Key × D)) (pre : Prs) : Prop where
  nt : N t = some (.dic kvs)
  na : N a = some (.lst (ra.map D.ref))
  nb : N b = some (.lst (rb.map D.ref))
  fa : ∀ (i : Nat) r, ra[i]? = some r → N r = some (.lst (iL (forthL pre (i : Nat))))
  fb : ∀ (i : Nat) r, rb[i]? = some r → N r = some (.lst (iL (backL pre (i : Nat))))
  sub : ∀ z c, z ≠ t → M z = some c → N z = some c
theorem idx_ne {rs : List Addr} (nd : rs.Nodup) {i j : Nat} {r s : Addr} (hi : rs[i]? = some r) (hj : rs[j]? = some s) (h : i ≠ j) : r ≠ s := fun z => by
  subst z
  obtain ⟨h1, e1⟩ := List.getElem?_eq_some_iff.mp hi
  obtain ⟨h2, e2⟩ := List.getElem?_eq_some_iff.mp hj
  exact h ((List.getElem_inj nd).mp (e1.trans e2.symm))
/-- one pair -/
theorem Tst.step {N : Md} {n : Int} {t a b : Addr} {ra rb : List Addr} {kvs : List (Key × D)} {pre : Prs} (S : Sst M n t a b ra rb) (T : Tst M N t a b ra rb kvs pre) {p : Int × Int} {r s : Addr} (x0 : 0 ≤ p.1) (y0 : 0 ≤ p.2) (hr : ra[p.1.toNat]? = some r) (hs : rb[p.2.toNat]? = some s) :
    Tst M (put (put N r (.lst (iL (forthL pre p.1 ++ [p.2])))) s (.lst (iL (backL pre p.2 ++ [p.1])))) t a b ra rb kvs (pre ++ [p]) := by
  have mr := List.mem_of_getElem? hr
  have ms := List.mem_of_getElem? hs
  have tr : t ≠ r := fun z => S.tra.1 (by rw [z]; exact mr)
  have ts : t ≠ s := fun z => S.tra.2 (by rw [z]; exact ms)
  have ar : a ≠ r := fun z => S.ara.1 (by rw [z]; exact mr)
  have as : a ≠ s := fun z => S.ara.2 (by rw [z]; exact ms)
  have br : b ≠ r := fun z => S.bra.1 (by rw [z]; exact mr)
  have bs : b ≠ s := fun z => S.bra.2 (by rw [z]; exact ms)
  have rs : r ≠ s := fun z => S.dis r mr (by rw [z]; exact ms)
  refine ⟨by rw [put_ne ts, put_ne tr, T.nt], by rw [put_ne as, put_ne ar, T.na], by rw [put_ne bs, put_ne br, T.nb], fun i q hq => ?_, fun i q hq => ?_, fun z c zt hz => ?_⟩
  · have qs : q ≠ s := fun z => S.dis q (List.mem_of_getElem? hq) (by rw [z]; exact ms)
    rw [put_ne qs, forth_snoc]
    by_cases e : ((i : Nat) : Int) = p.1
    · have ei : i = p.1.toNat := by omega
      rw [← ei, hq] at hr
      cases hr
      rw [put_same, if_pos e, e]
    · rw [if_neg e, put_ne (idx_ne S.nda hq hr (by omega)), T.fa i q hq]
  · rw [back_snoc]
    by_cases e : ((i : Nat) : Int) = p.2
    · have ei : i = p.2.toNat := by omega
      rw [← ei, hq] at hs
      cases hs
      rw [put_same, if_pos e, e]
    · rw [if_neg e, put_ne (idx_ne S.ndb hq hs (by omega))]
      have qr : q ≠ r := fun z => S.dis r mr (by rw [← z]; exact List.mem_of_getElem? hq)
      rw [put_ne qr, T.fb i q hq]
  · have zr : z ≠ r := fun y => by
      rw [y, S.mra r mr] at hz
      cases hz
    have zs : z ≠ s := fun y => by
      rw [y, S.mrb s ms] at hz
      cases hz
    rw [put_ne zs, put_ne zr, T.sub z c zt hz]
def rdOf (rs : List Addr) (f : Int → List Int) : List (Addr × List D) := rs.zipIdx.map fun p => (p.1, iL (f (p.2 : Nat)))
theorem rd_fst {rs : List Addr} {f : Int → List Int} : (rdOf rs f).map (·.1) = rs := by
  unfold rdOf
  rw [List.map_map]
  exact List.zipIdx_map_fst 0 rs
theorem rd_ref {rs : List Addr} {f : Int → List Int} : (rdOf rs f).map (fun p => D.ref p.1) = rs.map D.ref := by
  have e : (rdOf rs f).map (fun p => D.ref p.1) = ((rdOf rs f).map (·.1)).map D.ref := by rw [List.map_map]; rfl
  rw [e, rd_fst]
theorem rd_lst {rs : List Addr} {f : Int → List Int} {n : Int} (hl : rs.length = n.toNat) : (rdOf rs f).map (fun p => D.lst p.2) = (rgI n).map fun x => .lst (iL (f x)) := by
  unfold rdOf
  rw [List.map_map]
  apply List.ext_getElem?
  intro i
  rw [List.getElem?_map, List.getElem?_map, List.getElem?_zipIdx]
  by_cases hi : i < n.toNat
  · rw [rgI_get hi, List.getElem?_eq_getElem (by omega)]
    show some (D.lst (iL (f ((0 + i : Nat) : Int)))) = _
    rw [Nat.zero_add]
    rfl
  · rw [List.getElem?_eq_none (by omega), List.getElem?_eq_none (by rw [rgI_len]; omega)]
    rfl
theorem rd_at {N : Md} {rs : List Addr} {f : Int → List Int} (h : ∀ (i : Nat) r, rs[i]? = some r → N r = some (.lst (iL (f (i : Nat))))) : ∀ p ∈ rdOf rs f, N p.1 = some (.lst p.2) := by
  intro p hp
  obtain ⟨q, hq, rfl⟩ := List.mem_map.mp hp
  exact h q.2 q.1 (mem_zipIdx0 hq)
def bodyT : TSd := tSq (tSe (tLcM (.one 3) (tIR1 (tCo (tV 0) tN0)) tYs (tLsM tN0) [3]) 5) (tSq (tSe (tLcM (.one 3) (tIR1 (tCo (tV 0) tN0)) tYs (tLsM tN0) [3]) 6) (tSq (tFo (tIS (tO DL.rIxD (tV 1) (tV 4))) (gT 2 (gsc (gN 3) (gsc (gN 7) gs0))) (tSq (tEx (tMe isLs mAppD (tO DL.rIxD (tV 5) (tV 3)) (tCo (tV 7) tN0))) (tEx (tMe isLs mAppD (tO DL.rIxD (tV 6) (tV 7)) (tCo (tV 3) tN0))))) (tSq (tVs (tAs (tV 5) (gDs (tV 2) (tO DL.rIxD (tK (.str "abc")) (tV 4))))) (tVs (tAs (tV 6) (gDs (tV 2) (tO rAddD (tK (.str "~")) (tO DL.rIxD (tK (.str "abc")) (tV 4)))))))))
def valF (n : Int) (ps : Prs) : D := .lst ((rgI n).map fun x => .lst (iL (forthL ps x)))
def valB (n : Int) (ps : Prs) : D := .lst ((rgI n).map fun x => .lst (iL (backL ps x)))
theorem app_ints {l : List Int} {y : Int} : iL l ++ [D.int y] = iL (l ++ [y]) := by
  unfold iL
  rw [List.map_append]
  rfl
theorem one_turn {F : Fr} {ps : Prs} {k : Int} {w w' : Str} (lo : 1 ≤ F.n) (hn : F.n ≤ 130) (wp : WfP F.n ps) (hk : atI [prD F.a, prD F.b, prD F.c] k = some (prD ps)) (hw : ∀ (N : Md) (Q : VD), Q (.str w) N → DL.rIxD (.str "abc") (.int k) N Q) (hw' : ("~" : Str) ++ w = w') (hwl : w.length ≤ 10) {t : Addr} {kvs : List (Key × D)} (hkl : kvs.length ≤ 100) (mt : M t = none) {E : EndsD} {d3 d5 d6 d7 : Option D}
    (fin : ∀ d3 d5 d6 d7 : Option D, E.nx [some (.int F.n), some (waysD3 F), some (.ref t), d3, some (.int k), d5, d6, d7] (put M t (.dic (putKD (putKD kvs (.inr w) (valF F.n ps)) (.inr w') (valB F.n ps))))) :
    bodyT E [some (.int F.n), some (waysD3 F), some (.ref t), d3, some (.int k), d5, d6, d7] (put M t (.dic kvs)) := by
  unfold bodyT
  refine tSq_step fun T hT => ?_
  simp only [wipeD, items_tup, items_lst, items_rng, tupleD, seqA_tup, seqA_lst, tSq, tIf', tTs, tO, tV, tK, tTr, truD, tNo, tAn, tOr', tAnV, tOrV', tNoV, tIfE, tN0, tCo, tTu, tLs, tCl, tFn, tMh, tRt, tRt0, tNx, tEx, tSe, tAs, gN, gS, gT, gsc, gs0, tU, i2_ii, i2c_ii, rNegD, intC, absD, minD, isD, eqi, eqs, eqb, nei, nes, neb, DL.rIsD, DL.rIsnD, addi, muli, tMe, tMe0, tBk, tCt, outD, EndsD.xk, startD, optP_some, List.map_cons, List.map_nil, List.length_cons, List.length_nil, List.cons_append, List.nil_append, List.append_nil, List.set_cons_zero, List.set_cons_succ, List.set_nil, List.getElem?_cons_zero, List.getElem?_cons_succ, List.replicate_succ, List.replicate_zero, Nat.zero_add, Nat.reduceAdd, Nat.reduceSub, decide_eq_true_eq, Bool.not_eq_true', decide_eq_false_iff_not]
  refine mk_rows (n := F.n) (fun R hR => hR) (by omega) (by omega) fun a ra N1 ma la nda h1 n1a n1r n1 => ?_
  subst hT
  refine tSq_step fun T hT => ?_
  simp only [wipeD, items_tup, items_lst, items_rng, tupleD, seqA_tup, seqA_lst, tSq, tIf', tTs, tO, tV, tK, tTr, truD, tNo, tAn, tOr', tAnV, tOrV', tNoV, tIfE, tN0, tCo, tTu, tLs, tCl, tFn, tMh, tRt, tRt0, tNx, tEx, tSe, tAs, gN, gS, gT, gsc, gs0, tU, i2_ii, i2c_ii, rNegD, intC, absD, minD, isD, eqi, eqs, eqb, nei, nes, neb, DL.rIsD, DL.rIsnD, addi, muli, tMe, tMe0, tBk, tCt, outD, EndsD.xk, startD, optP_some, List.map_cons, List.map_nil, List.length_cons, List.length_nil, List.cons_append, List.nil_append, List.append_nil, List.set_cons_zero, List.set_cons_succ, List.set_nil, List.getElem?_cons_zero, List.getElem?_cons_succ, List.replicate_succ, List.replicate_zero, Nat.zero_add, Nat.reduceAdd, Nat.reduceSub, decide_eq_true_eq, Bool.not_eq_true', decide_eq_false_iff_not]
  refine mk_rows (n := F.n) (fun R hR => hR) (by omega) (by omega) fun b rb N2 mb lb ndb h2 n2b n2r n2 => ?_
  have at' : a ≠ t := fun z => by
    rw [z, put_same] at ma
    cases ma
  have ma' : M a = none := by rw [put_ne at'] at ma; exact ma
  have ab : a ≠ b := fun z => by
    rw [← z, n1a] at mb
    cases mb
  have tra : t ∉ ra := fun z => by
    have := (h1 t z).1
    rw [put_same] at this
    cases this
  have n1t : N1 t = some (.dic kvs) := by rw [n1 t (Ne.symm at') tra, put_same]
  have bt : b ≠ t := fun z => by
    rw [z, n1t] at mb
    cases mb
  have bra : b ∉ ra := fun z => by
    rw [n1r b z] at mb
    cases mb
  have mb' : M b = none := by
    rw [n1 b (Ne.symm ab) bra, put_ne bt] at mb
    exact mb
  have arb : a ∉ rb := fun z => by
    have := (h2 a z).1
    rw [n1a] at this
    cases this
  have trb : t ∉ rb := fun z => by
    have := (h2 t z).1
    rw [n1t] at this
    cases this
  have dis : ∀ r ∈ ra, r ∉ rb := fun r hr z => by
    have := (h2 r z).1
    rw [n1r r hr] at this
    cases this
  have S : Sst M F.n t a b ra rb := ⟨la, lb, nda, ndb, dis, ⟨fun z => (h1 a z).2 rfl, arb⟩, ⟨bra, fun z => (h2 b z).2 rfl⟩, ⟨tra, trb⟩, ab, at', bt, ma', mb', fun r hr => by
      have := (h1 r hr).1
      rw [put_ne fun z => tra (by rw [← z]; exact hr)] at this
      exact this, fun r hr => by
      have := (h2 r hr).1
      rw [n1 r (fun z => arb (by rw [← z]; exact hr)) (fun z => dis r z hr), put_ne fun z => trb (by rw [← z]; exact hr)] at this
      exact this⟩
  have T0 : Tst M N2 t a b ra rb kvs [] := ⟨by rw [n2 t (Ne.symm bt) trb, n1t], by rw [n2 a ab arb, n1a], n2b, fun i r hr => by
      have m := List.mem_of_getElem? hr
      rw [n2 r (fun z => bra (by rw [← z]; exact m)) (dis r m), n1r r m]
      rfl, fun i r hr => by
      rw [n2r r (List.mem_of_getElem? hr)]
      rfl, fun z c zt hz => by
      have za : z ≠ a := fun y => by
        rw [y, ma'] at hz
        cases hz
      have zb : z ≠ b := fun y => by
        rw [y, mb'] at hz
        cases hz
      have zra : z ∉ ra := fun y => by
        rw [S.mra z y] at hz
        cases hz
      have zrb : z ∉ rb := fun y => by
        rw [S.mrb z y] at hz
        cases hz
      rw [n2 z zb zrb, n1 z za zra, put_ne zt]
      exact hz⟩
  subst hT
  refine tSq_step fun T hT => ?_
  have it : ∀ (N : Md) (R : Src → Md → Prop), itemsD (prD ps) N R = R ⟨ps.map pD, fun N => seqS N (.lst (ps.map pD)) = some (false, ps.map pD)⟩ N := fun _ _ => rfl
  simp only [tFo, tIS, waysD3, wipeD, items_tup, items_lst, items_rng, tupleD, seqA_tup, seqA_lst, tSq, tIf', tTs, tO, tV, tK, tTr, truD, tNo, tAn, tOr', tAnV, tOrV', tNoV, tIfE, tN0, tCo, tTu, tLs, tCl, tFn, tMh, tRt, tRt0, tNx, tEx, tSe, tAs, gN, gS, gT, gsc, gs0, tU, i2_ii, i2c_ii, rNegD, intC, absD, minD, isD, eqi, eqs, eqb, nei, nes, neb, DL.rIsD, DL.rIsnD, addi, muli, tMe, tMe0, tBk, tCt, outD, EndsD.xk, startD, optP_some, List.map_cons, List.map_nil, List.length_cons, List.length_nil, List.cons_append, List.nil_append, List.append_nil, List.set_cons_zero, List.set_cons_succ, List.set_nil, List.getElem?_cons_zero, List.getElem?_cons_succ, List.replicate_succ, List.replicate_zero, Nat.zero_add, Nat.reduceAdd, Nat.reduceSub, decide_eq_true_eq, Bool.not_eq_true', decide_eq_false_iff_not, rIx_lst, hk, it]
  refine forGo_pre (α := Int × Int) (e := pD) (l := ps) (P := fun pre δ N => Tst M N t a b ra rb kvs pre ∧ ∃ d3 d7, δ = [some (.int F.n), some (waysD3 F), some (.ref t), d3, some (.int k), some (.ref a), some (.ref b), d7]) (fun δ N hi => ?_) (fun pre p post hl δ N hi R hR => ?_) ⟨T0, _, _, rfl⟩
  · obtain ⟨TT, d3, d7, rfl⟩ := hi
    refine ⟨rfl, ?_⟩
    subst hT
    try dsimp only
    refine tSq_step fun T hT => ?_
    refine ⟨_, fun z => if z = a ∨ z ∈ ra then none else N z, Vs.fin (i := 5) (d' := valF F.n ps) rfl (by
      have fr := Fin.rows (M := N) (a := a) (rd := rdOf ra (forthL ps)) (by rw [rd_ref]; exact TT.na) (by rw [rd_fst]; exact S.ara.1) (by rw [rd_fst]; exact nda) (rd_at TT.fa) (N := fun z => if z = a ∨ z ∈ ra then none else N z) (fun z c e => by
        rw [rd_fst]
        have e : (if z = a ∨ z ∈ ra then none else N z) = some c := e
        split at e
        · cases e
        · rename_i q
          exact ⟨fun y => q (.inl y), fun y => q (.inr y), e⟩)
      rw [rd_lst la] at fr
      exact fr), ?_⟩
    have nt' : (fun z => if z = a ∨ z ∈ ra then none else N z) t = some (.dic kvs) := by
      show (if t = a ∨ t ∈ ra then none else N t) = _
      rw [if_neg (fun z => z.elim (fun y => at' y.symm) tra), TT.nt]
    simp only [wipeD, items_tup, items_lst, items_rng, tupleD, seqA_tup, seqA_lst, tSq, tIf', tTs, tO, tV, tK, tTr, truD, tNo, tAn, tOr', tAnV, tOrV', tNoV, tIfE, tN0, tCo, tTu, tLs, tCl, tFn, tMh, tRt, tRt0, tNx, tEx, tSe, tAs, gN, gS, gT, gsc, gs0, tU, i2_ii, i2c_ii, rNegD, intC, absD, minD, isD, eqi, eqs, eqb, nei, nes, neb, DL.rIsD, DL.rIsnD, addi, muli, tMe, tMe0, tBk, tCt, outD, EndsD.xk, startD, optP_some, List.map_cons, List.map_nil, List.length_cons, List.length_nil, List.cons_append, List.nil_append, List.append_nil, List.set_cons_zero, List.set_cons_succ, List.set_nil, List.getElem?_cons_zero, List.getElem?_cons_succ, List.replicate_succ, List.replicate_zero, Nat.zero_add, Nat.reduceAdd, Nat.reduceSub, decide_eq_true_eq, Bool.not_eq_true', decide_eq_false_iff_not, gDs]
    refine hw _ _ ?_
    rw [putDD_eq nt' rfl (by rw [sizeLine_eq]; omega)]
    subst hT
    refine ⟨_, put M t (.dic (putKD kvs (.inr w) (valF F.n ps))), Vs.fin (i := 6) (d' := valB F.n ps) rfl (by
      have fr := Fin.rows (M := put (fun z => if z = a ∨ z ∈ ra then none else N z) t (.dic (putKD kvs (.inr w) (valF F.n ps)))) (a := b) (rd := rdOf rb (backL ps)) (by
          rw [rd_ref, put_ne bt]
          show (if b = a ∨ b ∈ ra then none else N b) = _
          rw [if_neg (fun z => z.elim (fun y => ab y.symm) bra)]
          exact TT.nb) (by rw [rd_fst]; exact S.bra.2) (by rw [rd_fst]; exact ndb) (rd_at fun i r hr => by
          have m := List.mem_of_getElem? hr
          rw [put_ne fun z => trb (by rw [← z]; exact m)]
          show (if r = a ∨ r ∈ ra then none else N r) = _
          rw [if_neg (fun z => z.elim (fun y => arb (by rw [← y]; exact m)) fun y => dis r y m)]
          exact TT.fb i r hr) (N := put M t (.dic (putKD kvs (.inr w) (valF F.n ps)))) (fun z c e => by
          rw [rd_fst]
          by_cases zt : z = t
          · subst zt
            rw [put_same] at e
            exact ⟨fun y => bt y.symm, trb, by rw [put_same]; exact e⟩
          · rw [put_ne zt] at e
            have za : z ≠ a := fun y => by
              rw [y, ma'] at e
              cases e
            have zb : z ≠ b := fun y => by
              rw [y, mb'] at e
              cases e
            have zra : z ∉ ra := fun y => by
              rw [S.mra z y] at e
              cases e
            have zrb : z ∉ rb := fun y => by
              rw [S.mrb z y] at e
              cases e
            refine ⟨zb, zrb, ?_⟩
            rw [put_ne zt]
            show (if z = a ∨ z ∈ ra then none else N z) = _
            rw [if_neg fun y => y.elim za zra]
            exact TT.sub z c zt e)
      rw [rd_lst lb] at fr
      exact fr), ?_⟩
    simp only [wipeD, items_tup, items_lst, items_rng, tupleD, seqA_tup, seqA_lst, tSq, tIf', tTs, tO, tV, tK, tTr, truD, tNo, tAn, tOr', tAnV, tOrV', tNoV, tIfE, tN0, tCo, tTu, tLs, tCl, tFn, tMh, tRt, tRt0, tNx, tEx, tSe, tAs, gN, gS, gT, gsc, gs0, tU, i2_ii, i2c_ii, rNegD, intC, absD, minD, isD, eqi, eqs, eqb, nei, nes, neb, DL.rIsD, DL.rIsnD, addi, muli, tMe, tMe0, tBk, tCt, outD, EndsD.xk, startD, optP_some, List.map_cons, List.map_nil, List.length_cons, List.length_nil, List.cons_append, List.nil_append, List.append_nil, List.set_cons_zero, List.set_cons_succ, List.set_nil, List.getElem?_cons_zero, List.getElem?_cons_succ, List.replicate_succ, List.replicate_zero, Nat.zero_add, Nat.reduceAdd, Nat.reduceSub, decide_eq_true_eq, Bool.not_eq_true', decide_eq_false_iff_not, gDs]
    refine hw _ _ ?_
    simp only [rAddD]
    refine ⟨by rw [sizeLine_eq]; show 1 + w.length ≤ _; omega, ?_⟩
    have pk : (putKD kvs (.inr w) (valF F.n ps)).length ≤ kvs.length + 1 := by
      unfold putKD
      split
      · rw [List.length_map]
        omega
      · rw [List.length_append]
        exact Nat.le_refl _
    rw [hw', putDD_eq put_same rfl (by rw [sizeLine_eq]; omega), put_put]
    exact fin _ _ _ _
  · obtain ⟨TT, d3, d7, rfl⟩ := hi
    obtain ⟨⟨x0, x1⟩, y0, y1⟩ := wp.rg p (by rw [hl]; exact List.mem_append_right _ List.mem_cons_self)
    refine ⟨rfl, ?_⟩
    obtain ⟨r, hr⟩ : ∃ r, ra[p.1.toNat]? = some r := ⟨_, List.getElem?_eq_getElem (by omega)⟩
    obtain ⟨s, hs⟩ : ∃ s, rb[p.2.toNat]? = some s := ⟨_, List.getElem?_eq_getElem (by omega)⟩
    have nr := TT.fa _ r hr
    have ns := TT.fb _ s hs
    rw [Int.toNat_of_nonneg x0] at nr
    rw [Int.toNat_of_nonneg y0] at ns
    have ar : atI (ra.map D.ref) p.1 = some (.ref r) := by
      rw [atI_in x0 (by rw [List.length_map]; omega), List.getElem?_map, hr]
      rfl
    have as : atI (rb.map D.ref) p.2 = some (.ref s) := by
      rw [atI_in y0 (by rw [List.length_map]; omega), List.getElem?_map, hs]
      rfl
    have lf : (forthL pre p.1).length ≤ 1000 := by
      have z := wp.sz
      rw [hl, List.length_append] at z
      unfold forthL
      rw [List.length_map]
      have := List.length_filter_le (fun q : Int × Int => decide (q.1 = p.1)) pre
      omega
    have lb' : (backL pre p.2).length ≤ 1000 := by
      have z := wp.sz
      rw [hl, List.length_append] at z
      unfold backL
      rw [List.length_map]
      have := List.length_filter_le (fun q : Int × Int => decide (q.2 = p.2)) pre
      omega
    simp only [pD, wipeD, items_tup, items_lst, items_rng, tupleD, seqA_tup, seqA_lst, tSq, tIf', tTs, tO, tV, tK, tTr, truD, tNo, tAn, tOr', tAnV, tOrV', tNoV, tIfE, tN0, tCo, tTu, tLs, tCl, tFn, tMh, tRt, tRt0, tNx, tEx, tSe, tAs, gN, gS, gT, gsc, gs0, tU, i2_ii, i2c_ii, rNegD, intC, absD, minD, isD, eqi, eqs, eqb, nei, nes, neb, DL.rIsD, DL.rIsnD, addi, muli, tMe, tMe0, tBk, tCt, outD, EndsD.xk, startD, optP_some, List.map_cons, List.map_nil, List.length_cons, List.length_nil, List.cons_append, List.nil_append, List.append_nil, List.set_cons_zero, List.set_cons_succ, List.set_nil, List.getElem?_cons_zero, List.getElem?_cons_succ, List.replicate_succ, List.replicate_zero, Nat.zero_add, Nat.reduceAdd, Nat.reduceSub, decide_eq_true_eq, Bool.not_eq_true', decide_eq_false_iff_not, ix_eq (seqA_ref TT.na) ar]
    refine ⟨trivial, isLs_ref nr, ?_⟩
    rw [app_eq nr, app_ints]
    refine ⟨by rw [iL_len, sizeLine_eq]; omega, ?_⟩
    have br : b ≠ r := fun z => S.bra.1 (by rw [z]; exact List.mem_of_getElem? hr)
    have sr : s ≠ r := fun z => dis r (List.mem_of_getElem? hr) (by rw [← z]; exact List.mem_of_getElem? hs)
    have nb' : put N r (.lst (iL (forthL pre p.1 ++ [p.2]))) b = some (.lst (rb.map D.ref)) := by rw [put_ne br, TT.nb]
    have ns' : put N r (.lst (iL (forthL pre p.1 ++ [p.2]))) s = some (.lst (iL (backL pre p.2))) := by rw [put_ne sr, ns]
    simp only [wipeD, items_tup, items_lst, items_rng, tupleD, seqA_tup, seqA_lst, tSq, tIf', tTs, tO, tV, tK, tTr, truD, tNo, tAn, tOr', tAnV, tOrV', tNoV, tIfE, tN0, tCo, tTu, tLs, tCl, tFn, tMh, tRt, tRt0, tNx, tEx, tSe, tAs, gN, gS, gT, gsc, gs0, tU, i2_ii, i2c_ii, rNegD, intC, absD, minD, isD, eqi, eqs, eqb, nei, nes, neb, DL.rIsD, DL.rIsnD, addi, muli, tMe, tMe0, tBk, tCt, outD, EndsD.xk, startD, optP_some, List.map_cons, List.map_nil, List.length_cons, List.length_nil, List.cons_append, List.nil_append, List.append_nil, List.set_cons_zero, List.set_cons_succ, List.set_nil, List.getElem?_cons_zero, List.getElem?_cons_succ, List.replicate_succ, List.replicate_zero, Nat.zero_add, Nat.reduceAdd, Nat.reduceSub, decide_eq_true_eq, Bool.not_eq_true', decide_eq_false_iff_not, ix_eq (seqA_ref nb') as]
    refine ⟨isLs_ref ns', ?_⟩
    rw [app_eq ns', app_ints]
    refine ⟨by rw [iL_len, sizeLine_eq]; omega, ?_⟩
    exact hR _ _ ⟨TT.step S x0 y0 hr hs, _, _, rfl⟩
end K15
namespace K15
open PySem PySem.Spec PyProof.Rows L2 DL
variable [B : Obs] {K : PySem.W.Frag} {mg : Str → Option Value} {P : Program} {ds : List D} {M : Md} {Q : VD} {X : XD}
def allV (n : Int) : D := .lst ((rgI n).map fun _ => .lst (iL (rgI n)))
theorem t_lt : t__law_table K = tSq (tSe (tDi [(tK (.str "all"), tLcF (.one 3) (tIR1 (tCo (tV 0) tN0)) tYs (tLsRg false (tV 0)) [3])]) 2) (tSq (tFo (tIR1 (tCo (tK (.int 3)) tN0)) (gN 4) bodyT) (tRt (tV 2))) := rfl
theorem put7t (v0 v1 v2 v3 v4 v5 v6 : D) : putKD (putKD (putKD (putKD (putKD (putKD [(.inr "all", v0)] (.inr "a") v1) (.inr "~a") v2) (.inr "b") v3) (.inr "~b") v4) (.inr "c") v5) (.inr "~c") v6 = [(.inr "all", v0), (.inr "a", v1), (.inr "~a", v2), (.inr "b", v3), (.inr "~b", v4), (.inr "c", v5), (.inr "~c", v6)] := rfl
theorem abc0 (N : Md) (Q : VD) (h : Q (.str "a") N) : DL.rIxD (.str "abc") (.int 0) N Q := ⟨by decide +kernel, h⟩
theorem abc1 (N : Md) (Q : VD) (h : Q (.str "b") N) : DL.rIxD (.str "abc") (.int 1) N Q := ⟨by decide +kernel, h⟩
theorem abc2 (N : Md) (Q : VD) (h : Q (.str "c") N) : DL.rIxD (.str "abc") (.int 2) N Q := ⟨by decide +kernel, h⟩
theorem p__law_table (h : sp__law_table K ds M Q X) : t__law_table K (outD Q X) (startD N__law_table ds) M := by
  obtain ⟨F, rfl, wf, h⟩ := h
  have lo := wf.lo
  have hi := wf.hi
  rw [t_lt]
  simp only [N__law_table, startD, List.map_cons, List.map_nil, List.length_cons, List.length_nil, Nat.zero_add, Nat.reduceAdd, Nat.reduceSub, List.replicate_succ, List.replicate_zero, List.cons_append, List.nil_append]
  refine tSq_step fun T hT => ?_
  simp only [tDi, tPr, wipeD, items_tup, items_lst, items_rng, tupleD, seqA_tup, seqA_lst, tSq, tIf', tTs, tO, tV, tK, tTr, truD, tNo, tAn, tOr', tAnV, tOrV', tNoV, tIfE, tN0, tCo, tTu, tLs, tCl, tFn, tMh, tRt, tRt0, tNx, tEx, tSe, tAs, gN, gS, gT, gsc, gs0, tU, i2_ii, i2c_ii, rNegD, intC, absD, minD, isD, eqi, eqs, eqb, nei, nes, neb, DL.rIsD, DL.rIsnD, addi, muli, tMe, tMe0, tBk, tCt, outD, EndsD.xk, startD, optP_some, List.map_cons, List.map_nil, List.length_cons, List.length_nil, List.cons_append, List.nil_append, List.append_nil, List.set_cons_zero, List.set_cons_succ, List.set_nil, List.getElem?_cons_zero, List.getElem?_cons_succ, List.replicate_succ, List.replicate_zero, Nat.zero_add, Nat.reduceAdd, Nat.reduceSub, decide_eq_true_eq, Bool.not_eq_true', decide_eq_false_iff_not]
  intro t ht
  refine tLcF_rng1 (n := F.n) (f := fun _ => .lst (iL (rgI F.n))) (fun R hR => hR) (by omega) (by omega) (fun x x0 x1 p c hp Q' hQ => ?_) ?_
  · simp only [tLsRg, wipeD, items_tup, items_lst, items_rng, tupleD, seqA_tup, seqA_lst, tSq, tIf', tTs, tO, tV, tK, tTr, truD, tNo, tAn, tOr', tAnV, tOrV', tNoV, tIfE, tN0, tCo, tTu, tLs, tCl, tFn, tMh, tRt, tRt0, tNx, tEx, tSe, tAs, gN, gS, gT, gsc, gs0, tU, i2_ii, i2c_ii, rNegD, intC, absD, minD, isD, eqi, eqs, eqb, nei, nes, neb, DL.rIsD, DL.rIsnD, addi, muli, tMe, tMe0, tBk, tCt, outD, EndsD.xk, startD, optP_some, List.map_cons, List.map_nil, List.length_cons, List.length_nil, List.cons_append, List.nil_append, List.append_nil, List.set_cons_zero, List.set_cons_succ, List.set_nil, List.getElem?_cons_zero, List.getElem?_cons_succ, List.replicate_succ, List.replicate_zero, Nat.zero_add, Nat.reduceAdd, Nat.reduceSub, decide_eq_true_eq, Bool.not_eq_true', decide_eq_false_iff_not, Bool.false_eq_true, if_false]
    refine ⟨by omega, by omega, ?_⟩
    have e : rgD F.n = iL (rgI F.n) := rg_map
    rw [e]
    exact hQ
  · refine ⟨put_same, [(.inr "all", allV F.n)], rfl, by exact (by decide : (1 : Nat) ≤ 15), ?_⟩
    rw [put_put]
    have em : mergeD [] [((Sum.inr "all" : Key), allV F.n)] = [((Sum.inr "all" : Key), allV F.n)] := rfl
    rw [em]
    subst hT
    refine tSq_step fun T hT => ?_
    simp only [tFo, tIR1, wipeD, items_tup, items_lst, items_rng, tupleD, seqA_tup, seqA_lst, tSq, tIf', tTs, tO, tV, tK, tTr, truD, tNo, tAn, tOr', tAnV, tOrV', tNoV, tIfE, tN0, tCo, tTu, tLs, tCl, tFn, tMh, tRt, tRt0, tNx, tEx, tSe, tAs, gN, gS, gT, gsc, gs0, tU, i2_ii, i2c_ii, rNegD, intC, absD, minD, isD, eqi, eqs, eqb, nei, nes, neb, DL.rIsD, DL.rIsnD, addi, muli, tMe, tMe0, tBk, tCt, outD, EndsD.xk, startD, optP_some, List.map_cons, List.map_nil, List.length_cons, List.length_nil, List.cons_append, List.nil_append, List.append_nil, List.set_cons_zero, List.set_cons_succ, List.set_nil, List.getElem?_cons_zero, List.getElem?_cons_succ, List.replicate_succ, List.replicate_zero, Nat.zero_add, Nat.reduceAdd, Nat.reduceSub, decide_eq_true_eq, Bool.not_eq_true', decide_eq_false_iff_not]
    refine ⟨⟨by decide, by decide⟩, ?_⟩
    show forGo _ _ _ _ [.int 0, .int 1, .int 2] _ _
    refine ⟨trivial, ?_⟩
    simp only [wipeD, items_tup, items_lst, items_rng, tupleD, seqA_tup, seqA_lst, tSq, tIf', tTs, tO, tV, tK, tTr, truD, tNo, tAn, tOr', tAnV, tOrV', tNoV, tIfE, tN0, tCo, tTu, tLs, tCl, tFn, tMh, tRt, tRt0, tNx, tEx, tSe, tAs, gN, gS, gT, gsc, gs0, tU, i2_ii, i2c_ii, rNegD, intC, absD, minD, isD, eqi, eqs, eqb, nei, nes, neb, DL.rIsD, DL.rIsnD, addi, muli, tMe, tMe0, tBk, tCt, outD, EndsD.xk, startD, optP_some, List.map_cons, List.map_nil, List.length_cons, List.length_nil, List.cons_append, List.nil_append, List.append_nil, List.set_cons_zero, List.set_cons_succ, List.set_nil, List.getElem?_cons_zero, List.getElem?_cons_succ, List.replicate_succ, List.replicate_zero, Nat.zero_add, Nat.reduceAdd, Nat.reduceSub, decide_eq_true_eq, Bool.not_eq_true', decide_eq_false_iff_not]
    refine one_turn (w := "a") (w' := "~a") lo hi wf.a atI_0 abc0 rfl (by decide) (by exact (by decide : (1 : Nat) ≤ 100)) ht fun _ _ _ _ => ?_
    refine ⟨trivial, ?_⟩
    simp only [wipeD, items_tup, items_lst, items_rng, tupleD, seqA_tup, seqA_lst, tSq, tIf', tTs, tO, tV, tK, tTr, truD, tNo, tAn, tOr', tAnV, tOrV', tNoV, tIfE, tN0, tCo, tTu, tLs, tCl, tFn, tMh, tRt, tRt0, tNx, tEx, tSe, tAs, gN, gS, gT, gsc, gs0, tU, i2_ii, i2c_ii, rNegD, intC, absD, minD, isD, eqi, eqs, eqb, nei, nes, neb, DL.rIsD, DL.rIsnD, addi, muli, tMe, tMe0, tBk, tCt, outD, EndsD.xk, startD, optP_some, List.map_cons, List.map_nil, List.length_cons, List.length_nil, List.cons_append, List.nil_append, List.append_nil, List.set_cons_zero, List.set_cons_succ, List.set_nil, List.getElem?_cons_zero, List.getElem?_cons_succ, List.replicate_succ, List.replicate_zero, Nat.zero_add, Nat.reduceAdd, Nat.reduceSub, decide_eq_true_eq, Bool.not_eq_true', decide_eq_false_iff_not]
    refine one_turn (w := "b") (w' := "~b") lo hi wf.b atI_1 abc1 rfl (by decide) (by exact (by decide : (3 : Nat) ≤ 100)) ht fun _ _ _ _ => ?_
    refine ⟨trivial, ?_⟩
    simp only [wipeD, items_tup, items_lst, items_rng, tupleD, seqA_tup, seqA_lst, tSq, tIf', tTs, tO, tV, tK, tTr, truD, tNo, tAn, tOr', tAnV, tOrV', tNoV, tIfE, tN0, tCo, tTu, tLs, tCl, tFn, tMh, tRt, tRt0, tNx, tEx, tSe, tAs, gN, gS, gT, gsc, gs0, tU, i2_ii, i2c_ii, rNegD, intC, absD, minD, isD, eqi, eqs, eqb, nei, nes, neb, DL.rIsD, DL.rIsnD, addi, muli, tMe, tMe0, tBk, tCt, outD, EndsD.xk, startD, optP_some, List.map_cons, List.map_nil, List.length_cons, List.length_nil, List.cons_append, List.nil_append, List.append_nil, List.set_cons_zero, List.set_cons_succ, List.set_nil, List.getElem?_cons_zero, List.getElem?_cons_succ, List.replicate_succ, List.replicate_zero, Nat.zero_add, Nat.reduceAdd, Nat.reduceSub, decide_eq_true_eq, Bool.not_eq_true', decide_eq_false_iff_not]
    refine one_turn (w := "c") (w' := "~c") lo hi wf.c atI_2 abc2 rfl (by decide) (by exact (by decide : (5 : Nat) ≤ 100)) ht fun _ _ _ _ => ?_
    refine ⟨trivial, ?_⟩
    subst hT
    try dsimp only
    simp only [wipeD, items_tup, items_lst, items_rng, tupleD, seqA_tup, seqA_lst, tSq, tIf', tTs, tO, tV, tK, tTr, truD, tNo, tAn, tOr', tAnV, tOrV', tNoV, tIfE, tN0, tCo, tTu, tLs, tCl, tFn, tMh, tRt, tRt0, tNx, tEx, tSe, tAs, gN, gS, gT, gsc, gs0, tU, i2_ii, i2c_ii, rNegD, intC, absD, minD, isD, eqi, eqs, eqb, nei, nes, neb, DL.rIsD, DL.rIsnD, addi, muli, tMe, tMe0, tBk, tCt, outD, EndsD.xk, startD, optP_some, List.map_cons, List.map_nil, List.length_cons, List.length_nil, List.cons_append, List.nil_append, List.append_nil, List.set_cons_zero, List.set_cons_succ, List.set_nil, List.getElem?_cons_zero, List.getElem?_cons_succ, List.replicate_succ, List.replicate_zero, Nat.zero_add, Nat.reduceAdd, Nat.reduceSub, decide_eq_true_eq, Bool.not_eq_true', decide_eq_false_iff_not]
    rw [put7t]
    refine ⟨M, tabD F, .trans (.dic put_same) (.less fun z e he => ?_), h⟩
    have zt : z ≠ t := fun y => by
      rw [y, ht] at he
      cases he
    rw [cut_ne zt, put_ne zt]
    exact he
end K15
namespace K15
open PySem PySem.Spec PyProof.Rows L2 DL
variable [B : Obs] {K : PySem.W.Frag} {mg : Str → Option Value} {P : Program} {ds : List D} {M : Md} {Q : VD} {X : XD}
def SubM (M N : Md) : Prop := ∀ z c, M z = some c → N z = some c
theorem ListAt.cases' {d : D} {f : List Int} (h : ListAt M d f) : d = .lst (iL f) ∨ ∃ a, d = .ref a ∧ M a = some (.lst (iL f)) := by
  have hl := h.l
  cases d with
  | lst xs =>
    cases hl
    exact .inl rfl
  | ref a =>
    have hl' : (match M a with
      | some (MC.lst xs) => some xs
      | _ => none) = some (iL f) := hl
    cases e : M a with
    | none =>
      rw [e] at hl'
      cases hl'
    | some c =>
      rw [e] at hl'
      cases c with
      | lst xs =>
        cases hl'
        exact .inr ⟨a, rfl, e⟩
      | _ => cases hl'
  | _ => cases hl
theorem ListAt.sub {d : D} {f : List Int} {N : Md} (h : ListAt M d f) (s : SubM M N) : ListAt N d f := by
  rcases h.cases' with rfl | ⟨a, rfl, e⟩
  · exact ⟨rfl⟩
  · exact ⟨seqL_cell (s a _ e)⟩
theorem ListAt.py {d : D} {f : List Int} (h : ListAt M d f) : Py M d (.list (f.map .int)) := by
  rcases h.cases' with rfl | ⟨a, rfl, e⟩
  · exact .lst (pys_ints f)
  · exact .cell e (pys_ints f)
theorem ne_list {d e : D} {a b : List Int} (h1 : ListAt M d a) (h2 : ListAt M e b) (h : Q (.bl (!decide (a = b))) M) : DL.rNeD d e M Q := by
  have z : ∃ p q, Py M d p ∧ Py M e q ∧ SeqAt.shaped p = true ∧ SeqAt.shaped q = true ∧ Q (.bl (!PyData.eqv p q)) M := ⟨_, _, h1.py, h2.py, sh_lst, sh_lst, by
    show Q (.bl (!PyData.eqvAll (a.map PyData.int) (b.map PyData.int))) M
    rw [eqv_ints]
    exact h⟩
  rcases h1.cases' with rfl | ⟨p, rfl, _⟩ <;> rcases h2.cases' with rfl | ⟨q, rfl, _⟩ <;> exact z
theorem eq_list {d e : D} {a b : List Int} (h1 : ListAt M d a) (h2 : ListAt M e b) (h : Q (.bl (decide (a = b))) M) : DL.rEqD d e M Q := by
  have z : ∃ p q, Py M d p ∧ Py M e q ∧ SeqAt.shaped p = true ∧ SeqAt.shaped q = true ∧ Q (.bl (PyData.eqv p q)) M := ⟨_, _, h1.py, h2.py, sh_lst, sh_lst, by
    show Q (.bl (PyData.eqvAll (a.map PyData.int) (b.map PyData.int))) M
    rw [eqv_ints]
    exact h⟩
  rcases h1.cases' with rfl | ⟨p, rfl, _⟩ <;> rcases h2.cases' with rfl | ⟨q, rfl, _⟩ <;> exact z
theorem bad_of {f : List Int} {n g : Int} (h : MapOk f n g) : badAt f n g = none := by
  unfold badAt
  rw [if_neg (by rw [h.len]; exact fun z => z rfl), List.findSome?_eq_none_iff]
  intro p hp
  have := h.rg p.1 (List.mem_of_getElem? (mem_zipIdx0 hp))
  exact if_neg (by omega)
/-! ### what is told -/
theorem told_in {w : Str} (h : w ∈ dirs6) : w ∈ toldL := by
  rcases dirs_cases h with rfl | rfl | rfl | rfl | rfl | rfl <;> decide
theorem tup_ok {w v : Str} {i j : Int} (hw : w ∈ toldL) (hv : v ∈ toldL) (hi : i.natAbs ≤ 1000000) (hj : j.natAbs ≤ 1000000) : okS (.tup [.str w, .str v, .int i, .int j]) := .inr (.inr (.inr ⟨w, v, i, j, rfl, hw, hv, hi, hj⟩))
theorem faultW_ok {f : List Int} {k w : Str} {x : Int} {A Bl : List Int} {r : D} (hw : w ∈ dirs6) (hx : x.natAbs ≤ 1000000) (hA : ∀ y ∈ A, y.natAbs ≤ 1000000) (hB : ∀ y ∈ Bl, y.natAbs ≤ 1000000) (h : faultW f k w x A Bl = some r) : okS r := by
  unfold faultW at h
  cases e : faultF f w x A Bl with
  | some z =>
    rw [e, Option.some_or] at h
    cases h
    obtain ⟨y, hy, q⟩ := List.exists_of_findSome?_eq_some e
    split at q
    · cases q
    · cases q
      exact tup_ok (by decide) (told_in hw) hx (hA y hy)
  | none =>
    rw [e, Option.none_or] at h
    obtain ⟨y, hy, q⟩ := List.exists_of_findSome?_eq_some h
    split at q
    · cases q
      exact tup_ok (by decide) (told_in hw) hx (hB y hy)
    · split at q
      · cases q
        exact tup_ok (by decide) (told_in hw) hx (hB y hy)
      · cases q
theorem mapF_ok {F G : Fr} {f : List Int} {k : Str} {r : D} (wf : WfF F) (wg : WfF G) (hl : f.length ≤ 1000) (h : mapF F G f k = some r) : okS r := by
  have hf := wf.hi
  have hg := wg.hi
  unfold mapF at h
  cases e : placeF F G f k with
  | some z =>
    rw [e, Option.some_or] at h
    cases h
    obtain ⟨x, hx, q⟩ := List.exists_of_findSome?_eq_some e
    have bx := rgI_mem hx
    obtain ⟨w, hw, q2⟩ := List.exists_of_findSome?_eq_some q
    refine faultW_ok (dirs_sub hw) (by omega) (fun y hy => ?_) (fun y hy => ?_) q2
    · have := (ok_leads wf w x).rg y hy
      omega
    · have := (ok_leads wg w (gi f x)).rg y hy
      omega
  | none =>
    rw [e, Option.none_or] at h
    cases e2 : missF f k G.n with
    | some z =>
      rw [e2, Option.some_or] at h
      cases h
      unfold missF at e2
      split at e2
      · obtain ⟨x, hx, q⟩ := List.exists_of_findSome?_eq_some e2
        have bx := rgI_mem hx
        split at q
        · cases q
        · cases q
          exact tup_ok (by decide) (by decide) (by omega) (by omega)
      · cases e2
    | none =>
      rw [e2, Option.none_or] at h
      unfold twiceF at h
      split at h
      · obtain ⟨x, hx, q⟩ := List.exists_of_findSome?_eq_some h
        have bx := rgI_mem hx
        split at q
        · cases q
          exact tup_ok (by decide) (by decide) (by omega) (by omega)
        · cases q
      · cases h
theorem due_ok {F G : Fr} {f : List Int} {k : Str} (wf : WfF F) (wg : WfF G) (hl : f.length ≤ 1000) : okS (orN (mapF F G f k) .non) := by
  cases e : mapF F G f k with
  | none => exact .inl rfl
  | some r => exact mapF_ok wf wg hl e
theorem due_non {F G : Fr} {f : List Int} {k : Str} : DL.isNon (orN (mapF F G f k) .non) = (mapF F G f k).isNone := by
  cases e : mapF F G f k with
  | none => rfl
  | some r =>
    obtain ⟨l, rfl⟩ := mapF_tup e
    rfl
theorem rIs_non {d : D} : DL.rIsD d .non M Q = Q (.bl (DL.isNon d)) M := rfl
theorem p__law_asked (h : sp__law_asked K ds M Q X) : t__law_asked K (outD Q X) (startD N__law_asked ds) M := by
  obtain ⟨F, G, df, f, rfl, wf, wg, hl, hm, h⟩ := h
  have hfl := hm.len
  have hf := wf.hi
  have l5 : 5 ≤ sizeLine := by rw [sizeLine_eq]; decide
  simp only [N__law_asked, startD, List.map_cons, List.map_nil, List.length_cons, List.length_nil, Nat.zero_add, Nat.reduceAdd, Nat.reduceSub, List.replicate_succ, List.replicate_zero, List.cons_append, List.nil_append]
  unfold t__law_asked
  refine tSq_step fun T hT => ?_
  simp only [wipeD, items_tup, items_lst, items_rng, tupleD, seqA_tup, seqA_lst, tSq, tIf', tTs, tO, tV, tK, tTr, truD, tNo, tAn, tOr', tAnV, tOrV', tNoV, tIfE, tN0, tCo, tTu, tLs, tCl, tFn, tMh, tRt, tRt0, tNx, tEx, tSe, tAs, gN, gS, gT, gsc, gs0, tU, i2_ii, i2c_ii, rNegD, intC, absD, minD, isD, eqi, eqs, eqb, nei, nes, neb, DL.rIsD, DL.rIsnD, addi, muli, tMe, tMe0, tBk, tCt, outD, EndsD.xk, startD, optP_some, List.map_cons, List.map_nil, List.length_cons, List.length_nil, List.cons_append, List.nil_append, List.append_nil, List.set_cons_zero, List.set_cons_succ, List.set_nil, List.getElem?_cons_zero, List.getElem?_cons_succ, List.replicate_succ, List.replicate_zero, Nat.zero_add, Nat.reduceAdd, Nat.reduceSub, decide_eq_true_eq, Bool.not_eq_true', decide_eq_false_iff_not]
  refine ⟨F, rfl, wf, fun t => ?_⟩
  subst hT
  refine tSq_step fun T hT => ?_
  simp only [wipeD, items_tup, items_lst, items_rng, tupleD, seqA_tup, seqA_lst, tSq, tIf', tTs, tO, tV, tK, tTr, truD, tNo, tAn, tOr', tAnV, tOrV', tNoV, tIfE, tN0, tCo, tTu, tLs, tCl, tFn, tMh, tRt, tRt0, tNx, tEx, tSe, tAs, gN, gS, gT, gsc, gs0, tU, i2_ii, i2c_ii, rNegD, intC, absD, minD, isD, eqi, eqs, eqb, nei, nes, neb, DL.rIsD, DL.rIsnD, addi, muli, tMe, tMe0, tBk, tCt, outD, EndsD.xk, startD, optP_some, List.map_cons, List.map_nil, List.length_cons, List.length_nil, List.cons_append, List.nil_append, List.append_nil, List.set_cons_zero, List.set_cons_succ, List.set_nil, List.getElem?_cons_zero, List.getElem?_cons_succ, List.replicate_succ, List.replicate_zero, Nat.zero_add, Nat.reduceAdd, Nat.reduceSub, decide_eq_true_eq, Bool.not_eq_true', decide_eq_false_iff_not]
  refine ⟨G, rfl, wg, fun u => ?_⟩
  subst hT
  refine tSq_step fun T hT => ?_
  simp only [worldD, wipeD, items_tup, items_lst, items_rng, tupleD, seqA_tup, seqA_lst, tSq, tIf', tTs, tO, tV, tK, tTr, truD, tNo, tAn, tOr', tAnV, tOrV', tNoV, tIfE, tN0, tCo, tTu, tLs, tCl, tFn, tMh, tRt, tRt0, tNx, tEx, tSe, tAs, gN, gS, gT, gsc, gs0, tU, i2_ii, i2c_ii, rNegD, intC, absD, minD, isD, eqi, eqs, eqb, nei, nes, neb, DL.rIsD, DL.rIsnD, addi, muli, tMe, tMe0, tBk, tCt, outD, EndsD.xk, startD, optP_some, List.map_cons, List.map_nil, List.length_cons, List.length_nil, List.cons_append, List.nil_append, List.append_nil, List.set_cons_zero, List.set_cons_succ, List.set_nil, List.getElem?_cons_zero, List.getElem?_cons_succ, List.replicate_succ, List.replicate_zero, Nat.zero_add, Nat.reduceAdd, Nat.reduceSub, decide_eq_true_eq, Bool.not_eq_true', decide_eq_false_iff_not, rIx_tup, atI_0, atI_1]
  refine ⟨F, rfl, wf, ?_⟩
  subst hT
  refine tSq_step fun T hT => ?_
  simp only [wipeD, items_tup, items_lst, items_rng, tupleD, seqA_tup, seqA_lst, tSq, tIf', tTs, tO, tV, tK, tTr, truD, tNo, tAn, tOr', tAnV, tOrV', tNoV, tIfE, tN0, tCo, tTu, tLs, tCl, tFn, tMh, tRt, tRt0, tNx, tEx, tSe, tAs, gN, gS, gT, gsc, gs0, tU, i2_ii, i2c_ii, rNegD, intC, absD, minD, isD, eqi, eqs, eqb, nei, nes, neb, DL.rIsD, DL.rIsnD, addi, muli, tMe, tMe0, tBk, tCt, outD, EndsD.xk, startD, optP_some, List.map_cons, List.map_nil, List.length_cons, List.length_nil, List.cons_append, List.nil_append, List.append_nil, List.set_cons_zero, List.set_cons_succ, List.set_nil, List.getElem?_cons_zero, List.getElem?_cons_succ, List.replicate_succ, List.replicate_zero, Nat.zero_add, Nat.reduceAdd, Nat.reduceSub, decide_eq_true_eq, Bool.not_eq_true', decide_eq_false_iff_not, rIx_tup, atI_0, atI_1]
  refine ⟨G, rfl, wg, ?_⟩
  subst hT
  refine tSq_step fun T hT => ?_
  simp only [tFo, tIS, wipeD, items_tup, items_lst, items_rng, tupleD, seqA_tup, seqA_lst, tSq, tIf', tTs, tO, tV, tK, tTr, truD, tNo, tAn, tOr', tAnV, tOrV', tNoV, tIfE, tN0, tCo, tTu, tLs, tCl, tFn, tMh, tRt, tRt0, tNx, tEx, tSe, tAs, gN, gS, gT, gsc, gs0, tU, i2_ii, i2c_ii, rNegD, intC, absD, minD, isD, eqi, eqs, eqb, nei, nes, neb, DL.rIsD, DL.rIsnD, addi, muli, tMe, tMe0, tBk, tCt, outD, EndsD.xk, startD, optP_some, List.map_cons, List.map_nil, List.length_cons, List.length_nil, List.cons_append, List.nil_append, List.append_nil, List.set_cons_zero, List.set_cons_succ, List.set_nil, List.getElem?_cons_zero, List.getElem?_cons_succ, List.replicate_succ, List.replicate_zero, Nat.zero_add, Nat.reduceAdd, Nat.reduceSub, decide_eq_true_eq, Bool.not_eq_true', decide_eq_false_iff_not]
  refine ⟨l5, ?_⟩
  refine forGo_pre (α := Str) (e := .str) (l := kindsL) (P := fun pre δ N => SubM M N ∧ ∃ a b c, δ = [some (worldD F), some (worldD G), some df, some (frameD K F t), some (frameD K G u), some (tabD F), some (tabD G), a, b, c]) (fun δ N hi => ?_) (fun pre k post hkl δ N hi R hR => ?_) ⟨fun _ _ z => z, _, _, _, rfl⟩
  · obtain ⟨s, a, b, c, rfl⟩ := hi
    refine ⟨rfl, ?_⟩
    subst hT
    try dsimp only
    simp only [wipeD, items_tup, items_lst, items_rng, tupleD, seqA_tup, seqA_lst, tSq, tIf', tTs, tO, tV, tK, tTr, truD, tNo, tAn, tOr', tAnV, tOrV', tNoV, tIfE, tN0, tCo, tTu, tLs, tCl, tFn, tMh, tRt, tRt0, tNx, tEx, tSe, tAs, gN, gS, gT, gsc, gs0, tU, i2_ii, i2c_ii, rNegD, intC, absD, minD, isD, eqi, eqs, eqb, nei, nes, neb, DL.rIsD, DL.rIsnD, addi, muli, tMe, tMe0, tBk, tCt, outD, EndsD.xk, startD, optP_some, List.map_cons, List.map_nil, List.length_cons, List.length_nil, List.cons_append, List.nil_append, List.append_nil, List.set_cons_zero, List.set_cons_succ, List.set_nil, List.getElem?_cons_zero, List.getElem?_cons_succ, List.replicate_succ, List.replicate_zero, Nat.zero_add, Nat.reduceAdd, Nat.reduceSub, decide_eq_true_eq, Bool.not_eq_true', decide_eq_false_iff_not]
    exact ⟨M, _, .less s, h⟩
  · obtain ⟨s, a, b, c, rfl⟩ := hi
    have hk : k ∈ kindsL := by rw [hkl]; exact List.mem_append_right _ List.mem_cons_self
    have hl1 := hl.sub s
    refine ⟨rfl, ?_⟩
    refine tSq_step fun T2 hT2 => ?_
    simp only [wipeD, items_tup, items_lst, items_rng, tupleD, seqA_tup, seqA_lst, tSq, tIf', tTs, tO, tV, tK, tTr, truD, tNo, tAn, tOr', tAnV, tOrV', tNoV, tIfE, tN0, tCo, tTu, tLs, tCl, tFn, tMh, tRt, tRt0, tNx, tEx, tSe, tAs, gN, gS, gT, gsc, gs0, tU, i2_ii, i2c_ii, rNegD, intC, absD, minD, isD, eqi, eqs, eqb, nei, nes, neb, DL.rIsD, DL.rIsnD, addi, muli, tMe, tMe0, tBk, tCt, outD, EndsD.xk, startD, optP_some, List.map_cons, List.map_nil, List.length_cons, List.length_nil, List.cons_append, List.nil_append, List.append_nil, List.set_cons_zero, List.set_cons_succ, List.set_nil, List.getElem?_cons_zero, List.getElem?_cons_succ, List.replicate_succ, List.replicate_zero, Nat.zero_add, Nat.reduceAdd, Nat.reduceSub, decide_eq_true_eq, Bool.not_eq_true', decide_eq_false_iff_not, listF, hl1.img.n, (show seqA N df = some (iL f) from hl1.img.n)]
    subst hT2
    refine tSq_step fun T2 hT2 => ?_
    simp only [wipeD, items_tup, items_lst, items_rng, tupleD, seqA_tup, seqA_lst, tSq, tIf', tTs, tO, tV, tK, tTr, truD, tNo, tAn, tOr', tAnV, tOrV', tNoV, tIfE, tN0, tCo, tTu, tLs, tCl, tFn, tMh, tRt, tRt0, tNx, tEx, tSe, tAs, gN, gS, gT, gsc, gs0, tU, i2_ii, i2c_ii, rNegD, intC, absD, minD, isD, eqi, eqs, eqb, nei, nes, neb, DL.rIsD, DL.rIsnD, addi, muli, tMe, tMe0, tBk, tCt, outD, EndsD.xk, startD, optP_some, List.map_cons, List.map_nil, List.length_cons, List.length_nil, List.cons_append, List.nil_append, List.append_nil, List.set_cons_zero, List.set_cons_succ, List.set_nil, List.getElem?_cons_zero, List.getElem?_cons_succ, List.replicate_succ, List.replicate_zero, Nat.zero_add, Nat.reduceAdd, Nat.reduceSub, decide_eq_true_eq, Bool.not_eq_true', decide_eq_false_iff_not]
    refine ⟨F, G, df, f, k, rfl, wf, wg, hl1, hm, hk, ?_⟩
    subst hT2
    refine tSq_step fun T2 hT2 => ?_
    simp only [wipeD, items_tup, items_lst, items_rng, tupleD, seqA_tup, seqA_lst, tSq, tIf', tTs, tO, tV, tK, tTr, truD, tNo, tAn, tOr', tAnV, tOrV', tNoV, tIfE, tN0, tCo, tTu, tLs, tCl, tFn, tMh, tRt, tRt0, tNx, tEx, tSe, tAs, gN, gS, gT, gsc, gs0, tU, i2_ii, i2c_ii, rNegD, intC, absD, minD, isD, eqi, eqs, eqb, nei, nes, neb, DL.rIsD, DL.rIsnD, addi, muli, tMe, tMe0, tBk, tCt, outD, EndsD.xk, startD, optP_some, List.map_cons, List.map_nil, List.length_cons, List.length_nil, List.cons_append, List.nil_append, List.append_nil, List.set_cons_zero, List.set_cons_succ, List.set_nil, List.getElem?_cons_zero, List.getElem?_cons_succ, List.replicate_succ, List.replicate_zero, Nat.zero_add, Nat.reduceAdd, Nat.reduceSub, decide_eq_true_eq, Bool.not_eq_true', decide_eq_false_iff_not]
    refine ⟨F, G, t, u, .lst (iL f), f, k, rfl, wf, wg, hk, ⟨rfl, .inl ⟨_, rfl⟩⟩, by omega, ?_⟩
    rw [bad_of hm]
    simp only [wipeD, items_tup, items_lst, items_rng, tupleD, seqA_tup, seqA_lst, tSq, tIf', tTs, tO, tV, tK, tTr, truD, tNo, tAn, tOr', tAnV, tOrV', tNoV, tIfE, tN0, tCo, tTu, tLs, tCl, tFn, tMh, tRt, tRt0, tNx, tEx, tSe, tAs, gN, gS, gT, gsc, gs0, tU, i2_ii, i2c_ii, rNegD, intC, absD, minD, isD, eqi, eqs, eqb, nei, nes, neb, DL.rIsD, DL.rIsnD, addi, muli, tMe, tMe0, tBk, tCt, outD, EndsD.xk, startD, optP_some, List.map_cons, List.map_nil, List.length_cons, List.length_nil, List.cons_append, List.nil_append, List.append_nil, List.set_cons_zero, List.set_cons_succ, List.set_nil, List.getElem?_cons_zero, List.getElem?_cons_succ, List.replicate_succ, List.replicate_zero, Nat.zero_add, Nat.reduceAdd, Nat.reduceSub, decide_eq_true_eq, Bool.not_eq_true', decide_eq_false_iff_not]
    refine ⟨_, rfl, due_ok wf wg (by omega), ?_⟩
    simp only [wipeD, items_tup, items_lst, items_rng, tupleD, seqA_tup, seqA_lst, tSq, tIf', tTs, tO, tV, tK, tTr, truD, tNo, tAn, tOr', tAnV, tOrV', tNoV, tIfE, tN0, tCo, tTu, tLs, tCl, tFn, tMh, tRt, tRt0, tNx, tEx, tSe, tAs, gN, gS, gT, gsc, gs0, tU, i2_ii, i2c_ii, rNegD, intC, absD, minD, isD, eqi, eqs, eqb, nei, nes, neb, DL.rIsD, DL.rIsnD, addi, muli, tMe, tMe0, tBk, tCt, outD, EndsD.xk, startD, optP_some, List.map_cons, List.map_nil, List.length_cons, List.length_nil, List.cons_append, List.nil_append, List.append_nil, List.set_cons_zero, List.set_cons_succ, List.set_nil, List.getElem?_cons_zero, List.getElem?_cons_succ, List.replicate_succ, List.replicate_zero, Nat.zero_add, Nat.reduceAdd, Nat.reduceSub, decide_eq_true_eq, Bool.not_eq_true', decide_eq_false_iff_not, Bool.not_true, Bool.false_eq_true, if_false]
    subst hT2
    try dsimp only
    rw [if_neg (by decide)]
    refine tSq_step fun T2 hT2 => ?_
    simp only [wipeD, items_tup, items_lst, items_rng, tupleD, seqA_tup, seqA_lst, tSq, tIf', tTs, tO, tV, tK, tTr, truD, tNo, tAn, tOr', tAnV, tOrV', tNoV, tIfE, tN0, tCo, tTu, tLs, tCl, tFn, tMh, tRt, tRt0, tNx, tEx, tSe, tAs, gN, gS, gT, gsc, gs0, tU, i2_ii, i2c_ii, rNegD, intC, absD, minD, isD, eqi, eqs, eqb, nei, nes, neb, DL.rIsD, DL.rIsnD, addi, muli, tMe, tMe0, tBk, tCt, outD, EndsD.xk, startD, optP_some, List.map_cons, List.map_nil, List.length_cons, List.length_nil, List.cons_append, List.nil_append, List.append_nil, List.set_cons_zero, List.set_cons_succ, List.set_nil, List.getElem?_cons_zero, List.getElem?_cons_succ, List.replicate_succ, List.replicate_zero, Nat.zero_add, Nat.reduceAdd, Nat.reduceSub, decide_eq_true_eq, Bool.not_eq_true', decide_eq_false_iff_not, tupleM, hl1.l]
    intro p hp
    refine ⟨F, G, t, u, .ref p, f, k, rfl, wf, wg, hk, ⟨?_, .inr ⟨p, _, rfl, put_same⟩⟩, by omega, ?_⟩
    · show (match put N p (.tux (iL f)) p with
        | some (MC.lst xs) => some xs
        | some (MC.tux xs) => some xs
        | _ => none) = _
      rw [put_same]
    rw [bad_of hm]
    have s2 : SubM M (put N p (.tux (iL f))) := fun z c e => by
      rw [put_ne fun y => by rw [y] at e; rw [s p c e] at hp; cases hp]
      exact s z c e
    have hl2 := hl.sub s2
    simp only [wipeD, items_tup, items_lst, items_rng, tupleD, seqA_tup, seqA_lst, tSq, tIf', tTs, tO, tV, tK, tTr, truD, tNo, tAn, tOr', tAnV, tOrV', tNoV, tIfE, tN0, tCo, tTu, tLs, tCl, tFn, tMh, tRt, tRt0, tNx, tEx, tSe, tAs, gN, gS, gT, gsc, gs0, tU, i2_ii, i2c_ii, rNegD, intC, absD, minD, isD, eqi, eqs, eqb, nei, nes, neb, DL.rIsD, DL.rIsnD, addi, muli, tMe, tMe0, tBk, tCt, outD, EndsD.xk, startD, optP_some, List.map_cons, List.map_nil, List.length_cons, List.length_nil, List.cons_append, List.nil_append, List.append_nil, List.set_cons_zero, List.set_cons_succ, List.set_nil, List.getElem?_cons_zero, List.getElem?_cons_succ, List.replicate_succ, List.replicate_zero, Nat.zero_add, Nat.reduceAdd, Nat.reduceSub, decide_eq_true_eq, Bool.not_eq_true', decide_eq_false_iff_not, rIs_non, due_non]
    refine ⟨_, rfl, .inr (.inl ⟨_, rfl⟩), ?_⟩
    simp only [wipeD, items_tup, items_lst, items_rng, tupleD, seqA_tup, seqA_lst, tSq, tIf', tTs, tO, tV, tK, tTr, truD, tNo, tAn, tOr', tAnV, tOrV', tNoV, tIfE, tN0, tCo, tTu, tLs, tCl, tFn, tMh, tRt, tRt0, tNx, tEx, tSe, tAs, gN, gS, gT, gsc, gs0, tU, i2_ii, i2c_ii, rNegD, intC, absD, minD, isD, eqi, eqs, eqb, nei, nes, neb, DL.rIsD, DL.rIsnD, addi, muli, tMe, tMe0, tBk, tCt, outD, EndsD.xk, startD, optP_some, List.map_cons, List.map_nil, List.length_cons, List.length_nil, List.cons_append, List.nil_append, List.append_nil, List.set_cons_zero, List.set_cons_succ, List.set_nil, List.getElem?_cons_zero, List.getElem?_cons_succ, List.replicate_succ, List.replicate_zero, Nat.zero_add, Nat.reduceAdd, Nat.reduceSub, decide_eq_true_eq, Bool.not_eq_true', decide_eq_false_iff_not, Bool.not_true, Bool.false_eq_true, if_false]
    subst hT2
    try dsimp only
    rw [if_neg (by decide)]
    simp only [wipeD, items_tup, items_lst, items_rng, tupleD, seqA_tup, seqA_lst, tSq, tIf', tTs, tO, tV, tK, tTr, truD, tNo, tAn, tOr', tAnV, tOrV', tNoV, tIfE, tN0, tCo, tTu, tLs, tCl, tFn, tMh, tRt, tRt0, tNx, tEx, tSe, tAs, gN, gS, gT, gsc, gs0, tU, i2_ii, i2c_ii, rNegD, intC, absD, minD, isD, eqi, eqs, eqb, nei, nes, neb, DL.rIsD, DL.rIsnD, addi, muli, tMe, tMe0, tBk, tCt, outD, EndsD.xk, startD, optP_some, List.map_cons, List.map_nil, List.length_cons, List.length_nil, List.cons_append, List.nil_append, List.append_nil, List.set_cons_zero, List.set_cons_succ, List.set_nil, List.getElem?_cons_zero, List.getElem?_cons_succ, List.replicate_succ, List.replicate_zero, Nat.zero_add, Nat.reduceAdd, Nat.reduceSub, decide_eq_true_eq, Bool.not_eq_true', decide_eq_false_iff_not]
    refine ne_list (a := f) (b := f) ⟨rfl⟩ hl2 ?_
    simp only [decide_true, Bool.not_true, Bool.false_eq_true, if_false]
    exact hR _ _ ⟨s2, _, _, _, rfl⟩
end K15
namespace K15
open PySem PySem.Spec PyProof.Rows L2 DL
variable [B : Obs] {K : PySem.W.Frag} {mg : Str → Option Value} {P : Program} {ds : List D} {M : Md} {Q : VD} {X : XD}
theorem kit_self {C : Addr} : PySem.W.kitOne K (.ref C) (.ref C) = some true := by
  unfold PySem.W.kitOne
  rw [if_pos (by simp)]
theorem p__law_told (Z : Fc P K mg) {a : Addr} {cls : Value} {d : Option Addr} (h : spx__law_told K a cls d ds M Q X) : t__law_told K a cls d (outD Q X0) (startD N__law_told ds) M := by
  obtain ⟨dd, i, rfl, rfl, rfl, hi, h⟩ := h
  have a1 : isAns K (He.ga K "BadMap") (.ref (He.ga K "BadMap")) = some true := kit_self
  have a2 : isAns K (He.ga K "BadMap") (.ty "ValueError") = some true := Z.k_BadMap_ValueError
  have a3 : isAns K (He.ga K "BadMap") (.tup [.ref (He.ga K "Apart"), .ref (He.ga K "BadCount"), .ref (He.ga K "BadPlace"), .ref (He.ga K "BadSize"), .ref (He.ga K "BadWord"), .ref (He.ga K "TooLarge"), .ref (He.ga K "TooWide")]) = some false := by
    show PySem.W.kitAny K (.ref (He.ga K "BadMap")) [.ref (He.ga K "Apart"), .ref (He.ga K "BadCount"), .ref (He.ga K "BadPlace"), .ref (He.ga K "BadSize"), .ref (He.ga K "BadWord"), .ref (He.ga K "TooLarge"), .ref (He.ga K "TooWide")] = some false
    simp only [PySem.W.kitAny, Z.k_BadMap_Apart, Z.k_BadMap_BadCount, Z.k_BadMap_BadPlace, Z.k_BadMap_BadSize, Z.k_BadMap_BadWord, Z.k_BadMap_TooLarge, Z.k_BadMap_TooWide]
  have ok : okE K (He.ga K "BadMap") := rfl
  have l7 : 7 ≤ sizeLine := by rw [sizeLine_eq]; decide
  simp only [t__law_told, N__law_told, tIsX, wipeD, items_tup, items_lst, items_rng, tupleD, seqA_tup, seqA_lst, tSq, tIf', tTs, tO, tV, tK, tTr, truD, tNo, tAn, tOr', tAnV, tOrV', tNoV, tIfE, tN0, tCo, tTu, tLs, tCl, tFn, tMh, tRt, tRt0, tNx, tEx, tSe, tAs, gN, gS, gT, gsc, gs0, tU, i2_ii, i2c_ii, rNegD, intC, absD, minD, isD, eqi, eqs, eqb, nei, nes, neb, DL.rIsD, DL.rIsnD, addi, muli, tMe, tMe0, tBk, tCt, outD, EndsD.xk, startD, optP_some, List.map_cons, List.map_nil, List.length_cons, List.length_nil, List.cons_append, List.nil_append, List.append_nil, List.set_cons_zero, List.set_cons_succ, List.set_nil, List.getElem?_cons_zero, List.getElem?_cons_succ, List.replicate_succ, List.replicate_zero, Nat.zero_add, Nat.reduceAdd, Nat.reduceSub, decide_eq_true_eq, Bool.not_eq_true', decide_eq_false_iff_not, true_and]
  refine ⟨ok, true, a1, ?_⟩
  simp only [wipeD, items_tup, items_lst, items_rng, tupleD, seqA_tup, seqA_lst, tSq, tIf', tTs, tO, tV, tK, tTr, truD, tNo, tAn, tOr', tAnV, tOrV', tNoV, tIfE, tN0, tCo, tTu, tLs, tCl, tFn, tMh, tRt, tRt0, tNx, tEx, tSe, tAs, gN, gS, gT, gsc, gs0, tU, i2_ii, i2c_ii, rNegD, intC, absD, minD, isD, eqi, eqs, eqb, nei, nes, neb, DL.rIsD, DL.rIsnD, addi, muli, tMe, tMe0, tBk, tCt, outD, EndsD.xk, startD, optP_some, List.map_cons, List.map_nil, List.length_cons, List.length_nil, List.cons_append, List.nil_append, List.append_nil, List.set_cons_zero, List.set_cons_succ, List.set_nil, List.getElem?_cons_zero, List.getElem?_cons_succ, List.replicate_succ, List.replicate_zero, Nat.zero_add, Nat.reduceAdd, Nat.reduceSub, decide_eq_true_eq, Bool.not_eq_true', decide_eq_false_iff_not, Bool.true_eq_false, if_false, true_and]
  refine ⟨ok, true, a2, ?_⟩
  simp only [wipeD, items_tup, items_lst, items_rng, tupleD, seqA_tup, seqA_lst, tSq, tIf', tTs, tO, tV, tK, tTr, truD, tNo, tAn, tOr', tAnV, tOrV', tNoV, tIfE, tN0, tCo, tTu, tLs, tCl, tFn, tMh, tRt, tRt0, tNx, tEx, tSe, tAs, gN, gS, gT, gsc, gs0, tU, i2_ii, i2c_ii, rNegD, intC, absD, minD, isD, eqi, eqs, eqb, nei, nes, neb, DL.rIsD, DL.rIsnD, addi, muli, tMe, tMe0, tBk, tCt, outD, EndsD.xk, startD, optP_some, List.map_cons, List.map_nil, List.length_cons, List.length_nil, List.cons_append, List.nil_append, List.append_nil, List.set_cons_zero, List.set_cons_succ, List.set_nil, List.getElem?_cons_zero, List.getElem?_cons_succ, List.replicate_succ, List.replicate_zero, Nat.zero_add, Nat.reduceAdd, Nat.reduceSub, decide_eq_true_eq, Bool.not_eq_true', decide_eq_false_iff_not, Bool.true_eq_false, if_false, true_and]
  refine ⟨l7, ok, false, a3, ?_⟩
  simp only [wipeD, items_tup, items_lst, items_rng, tupleD, seqA_tup, seqA_lst, tSq, tIf', tTs, tO, tV, tK, tTr, truD, tNo, tAn, tOr', tAnV, tOrV', tNoV, tIfE, tN0, tCo, tTu, tLs, tCl, tFn, tMh, tRt, tRt0, tNx, tEx, tSe, tAs, gN, gS, gT, gsc, gs0, tU, i2_ii, i2c_ii, rNegD, intC, absD, minD, isD, eqi, eqs, eqb, nei, nes, neb, DL.rIsD, DL.rIsnD, addi, muli, tMe, tMe0, tBk, tCt, outD, EndsD.xk, startD, optP_some, List.map_cons, List.map_nil, List.length_cons, List.length_nil, List.cons_append, List.nil_append, List.append_nil, List.set_cons_zero, List.set_cons_succ, List.set_nil, List.getElem?_cons_zero, List.getElem?_cons_succ, List.replicate_succ, List.replicate_zero, Nat.zero_add, Nat.reduceAdd, Nat.reduceSub, decide_eq_true_eq, Bool.not_eq_true', decide_eq_false_iff_not, Bool.false_eq_true, if_false, true_and, tXfd]
  refine ⟨ok, .int i, rfl, _, rfl, .inr (.inr (.inl ⟨i, rfl, hi⟩)), out_ret h⟩
end K15
namespace K15
open PySem PySem.Spec PyProof.Rows L2 DL
variable [B : Obs] {K : PySem.W.Frag} {mg : Str → Option Value} {P : Program} {ds : List D} {M : Md} {Q : VD} {X : XD}
def sayL (K : PySem.W.Frag) : List ClaD := [⟨.ref (He.ga K "SayError"), some 7, fun a cls d => tSe (tO rAddD (tV 6) (tCl intC (tCo (tFn (spx__law_told K a cls d) [] (tCo (tV 7) (tCo (tV 4) tN0))) tN0))) 6⟩]
theorem say_suite (Z : Fc P K mg) {E : EndsD} {i g : Int} {d0 d1 d2 d3 d5 d7 : Option D} (hi : i.natAbs ≤ 1000000) (h : E.nx [d0, d1, d2, d3, some (.int i), d5, some (.int (g + 1)), none] M) : wAllD K E (sayL K) (He.ga K "BadMap") [("at", .int i)] [d0, d1, d2, d3, some (.int i), d5, some (.int g), d7] M := by
  refine ⟨true, Z.x_BadMap_SayError, fun _ a dx hdx => ?_, fun e => nomatch e⟩
  cases dx with
  | none => exact absurd (hdx rfl) (by simp)
  | some dd =>
    show tSe (tO rAddD (tV 6) (tCl intC (tCo (tFn (spx__law_told K a _ _) [] (tCo (tV 7) (tCo (tV 4) tN0))) tN0))) 6 (endCd (some 7) E) [d0, d1, d2, d3, some (.int i), d5, some (.int g), some (.exc a (He.ga K "BadMap") dd ["at"] [.int i])] M
    simp only [wipeD, items_tup, items_lst, items_rng, tupleD, seqA_tup, seqA_lst, tSq, tIf', tTs, tO, tV, tK, tTr, truD, tNo, tAn, tOr', tAnV, tOrV', tNoV, tIfE, tN0, tCo, tTu, tLs, tCl, tFn, tMh, tRt, tRt0, tNx, tEx, tSe, tAs, gN, gS, gT, gsc, gs0, tU, i2_ii, i2c_ii, rNegD, intC, absD, minD, isD, eqi, eqs, eqb, nei, nes, neb, DL.rIsD, DL.rIsnD, addi, muli, tMe, tMe0, tBk, tCt, outD, EndsD.xk, startD, optP_some, List.map_cons, List.map_nil, List.length_cons, List.length_nil, List.cons_append, List.nil_append, List.append_nil, List.set_cons_zero, List.set_cons_succ, List.set_nil, List.getElem?_cons_zero, List.getElem?_cons_succ, List.replicate_succ, List.replicate_zero, Nat.zero_add, Nat.reduceAdd, Nat.reduceSub, decide_eq_true_eq, Bool.not_eq_true', decide_eq_false_iff_not]
    refine ⟨dd, i, rfl, rfl, rfl, hi, ?_⟩
    exact h
theorem bad_small {f : List Int} {n g i : Int} (hl : f.length ≤ 1000) (h : badAt f n g = some i) : i.natAbs ≤ 1000000 := by
  unfold badAt at h
  split at h
  · cases h
    omega
  · obtain ⟨p, hp, e⟩ := List.exists_of_findSome?_eq_some h
    split at e
    · cases e
      have := (List.getElem?_eq_some_iff.mp (mem_zipIdx0 hp)).1
      omega
    · cases e
theorem p__law_refused (Z : Fc P K mg) (h : sp__law_refused K ds M Q X) : t__law_refused K (outD Q X) (startD N__law_refused ds) M := by
  obtain ⟨F, G, t, u, f, k, i, rfl, wf, wg, hk, hl, hb, h⟩ := h
  have hi := bad_small hl hb
  have im : ImgAt M (.lst (iL f)) f := ⟨rfl, .inl ⟨_, rfl⟩⟩
  simp only [N__law_refused, startD, List.map_cons, List.map_nil, List.length_cons, List.length_nil, Nat.zero_add, Nat.reduceAdd, Nat.reduceSub, List.replicate_succ, List.replicate_zero, List.cons_append, List.nil_append]
  unfold t__law_refused
  rw [show [(⟨.ref (He.ga K "SayError"), some 7, fun a cls d => tSe (tO rAddD (tV 6) (tCl intC (tCo (tFn (spx__law_told K a cls d) [] (tCo (tV 7) (tCo (tV 4) tN0))) tN0))) 6⟩ : ClaD)] = sayL K from rfl]
  refine tSq_step fun T hT => ?_
  simp only [listF, wipeD, items_tup, items_lst, items_rng, tupleD, seqA_tup, seqA_lst, tSq, tIf', tTs, tO, tV, tK, tTr, truD, tNo, tAn, tOr', tAnV, tOrV', tNoV, tIfE, tN0, tCo, tTu, tLs, tCl, tFn, tMh, tRt, tRt0, tNx, tEx, tSe, tAs, gN, gS, gT, gsc, gs0, tU, i2_ii, i2c_ii, rNegD, intC, absD, minD, isD, eqi, eqs, eqb, nei, nes, neb, DL.rIsD, DL.rIsnD, addi, muli, tMe, tMe0, tBk, tCt, outD, EndsD.xk, startD, optP_some, List.map_cons, List.map_nil, List.length_cons, List.length_nil, List.cons_append, List.nil_append, List.append_nil, List.set_cons_zero, List.set_cons_succ, List.set_nil, List.getElem?_cons_zero, List.getElem?_cons_succ, List.replicate_succ, List.replicate_zero, Nat.zero_add, Nat.reduceAdd, Nat.reduceSub, decide_eq_true_eq, Bool.not_eq_true', decide_eq_false_iff_not]
  subst hT
  refine tSq_step fun T hT => ?_
  simp only [wipeD, items_tup, items_lst, items_rng, tupleD, seqA_tup, seqA_lst, tSq, tIf', tTs, tO, tV, tK, tTr, truD, tNo, tAn, tOr', tAnV, tOrV', tNoV, tIfE, tN0, tCo, tTu, tLs, tCl, tFn, tMh, tRt, tRt0, tNx, tEx, tSe, tAs, gN, gS, gT, gsc, gs0, tU, i2_ii, i2c_ii, rNegD, intC, absD, minD, isD, eqi, eqs, eqb, nei, nes, neb, DL.rIsD, DL.rIsnD, addi, muli, tMe, tMe0, tBk, tCt, outD, EndsD.xk, startD, optP_some, List.map_cons, List.map_nil, List.length_cons, List.length_nil, List.cons_append, List.nil_append, List.append_nil, List.set_cons_zero, List.set_cons_succ, List.set_nil, List.getElem?_cons_zero, List.getElem?_cons_succ, List.replicate_succ, List.replicate_zero, Nat.zero_add, Nat.reduceAdd, Nat.reduceSub, decide_eq_true_eq, Bool.not_eq_true', decide_eq_false_iff_not]
  subst hT
  refine tSq_step fun T hT => ?_
  simp only [tTry, wipeD, items_tup, items_lst, items_rng, tupleD, seqA_tup, seqA_lst, tSq, tIf', tTs, tO, tV, tK, tTr, truD, tNo, tAn, tOr', tAnV, tOrV', tNoV, tIfE, tN0, tCo, tTu, tLs, tCl, tFn, tMh, tRt, tRt0, tNx, tEx, tSe, tAs, gN, gS, gT, gsc, gs0, tU, i2_ii, i2c_ii, rNegD, intC, absD, minD, isD, eqi, eqs, eqb, nei, nes, neb, DL.rIsD, DL.rIsnD, addi, muli, tMe, tMe0, tBk, tCt, outD, EndsD.xk, startD, optP_some, List.map_cons, List.map_nil, List.length_cons, List.length_nil, List.cons_append, List.nil_append, List.append_nil, List.set_cons_zero, List.set_cons_succ, List.set_nil, List.getElem?_cons_zero, List.getElem?_cons_succ, List.replicate_succ, List.replicate_zero, Nat.zero_add, Nat.reduceAdd, Nat.reduceSub, decide_eq_true_eq, Bool.not_eq_true', decide_eq_false_iff_not]
  refine ⟨F, G, t, u, .lst (iL f), f, k, rfl, wf, wg, hk, im, hl, ?_⟩
  rw [hb]
  refine say_suite Z hi ?_
  subst hT
  try dsimp only
  refine tSq_step fun T hT => ?_
  simp only [tTry, wipeD, items_tup, items_lst, items_rng, tupleD, seqA_tup, seqA_lst, tSq, tIf', tTs, tO, tV, tK, tTr, truD, tNo, tAn, tOr', tAnV, tOrV', tNoV, tIfE, tN0, tCo, tTu, tLs, tCl, tFn, tMh, tRt, tRt0, tNx, tEx, tSe, tAs, gN, gS, gT, gsc, gs0, tU, i2_ii, i2c_ii, rNegD, intC, absD, minD, isD, eqi, eqs, eqb, nei, nes, neb, DL.rIsD, DL.rIsnD, addi, muli, tMe, tMe0, tBk, tCt, outD, EndsD.xk, startD, optP_some, List.map_cons, List.map_nil, List.length_cons, List.length_nil, List.cons_append, List.nil_append, List.append_nil, List.set_cons_zero, List.set_cons_succ, List.set_nil, List.getElem?_cons_zero, List.getElem?_cons_succ, List.replicate_succ, List.replicate_zero, Nat.zero_add, Nat.reduceAdd, Nat.reduceSub, decide_eq_true_eq, Bool.not_eq_true', decide_eq_false_iff_not]
  refine ⟨F, G, t, u, .lst (iL f), f, k, rfl, wf, wg, hk, im, hl, ?_⟩
  rw [hb]
  refine say_suite Z hi ?_
  subst hT
  try dsimp only
  simp only [wipeD, items_tup, items_lst, items_rng, tupleD, seqA_tup, seqA_lst, tSq, tIf', tTs, tO, tV, tK, tTr, truD, tNo, tAn, tOr', tAnV, tOrV', tNoV, tIfE, tN0, tCo, tTu, tLs, tCl, tFn, tMh, tRt, tRt0, tNx, tEx, tSe, tAs, gN, gS, gT, gsc, gs0, tU, i2_ii, i2c_ii, rNegD, intC, absD, minD, isD, eqi, eqs, eqb, nei, nes, neb, DL.rIsD, DL.rIsnD, addi, muli, tMe, tMe0, tBk, tCt, outD, EndsD.xk, startD, optP_some, List.map_cons, List.map_nil, List.length_cons, List.length_nil, List.cons_append, List.nil_append, List.append_nil, List.set_cons_zero, List.set_cons_succ, List.set_nil, List.getElem?_cons_zero, List.getElem?_cons_succ, List.replicate_succ, List.replicate_zero, Nat.zero_add, Nat.reduceAdd, Nat.reduceSub, decide_eq_true_eq, Bool.not_eq_true', decide_eq_false_iff_not]
  rw [if_pos (by decide)]
  refine eq_lst ?_
  simp only [decide_true]
  exact out_ret h
end K15
namespace K15
open PySem PySem.Spec PyProof.Rows L2 DL
variable [B : Obs] {K : PySem.W.Frag} {mg : Str → Option Value} {P : Program} {ds : List D} {M : Md} {Q : VD} {X : XD}
theorem wf_nil (n : Int) : WfP n [] := ⟨.nil, (fun p h => by cases h), by decide⟩
theorem p__law_told_pairs (h : sp__law_told_pairs K ds M Q X) : t__law_told_pairs K (outD Q X) (startD N__law_told_pairs ds) M := by
  obtain ⟨_, rfl, h⟩ := h
  have l0 : 0 ≤ sizeLine := Nat.zero_le _
  have l1 : 1 ≤ sizeLine := by rw [sizeLine_eq]; decide
  have l2 : 2 ≤ sizeLine := two
  have l3 : 3 ≤ sizeLine := by rw [sizeLine_eq]; decide
  have w1 : WfF ⟨1, [], [], []⟩ := ⟨by decide, by decide, wf_nil 1, wf_nil 1, wf_nil 1⟩
  have w2 : WfF ⟨2, [], [], []⟩ := ⟨by decide, by decide, wf_nil 2, wf_nil 2, wf_nil 2⟩
  have w3 : WfF ⟨3, [(0, 1), (0, 2)], [], []⟩ := ⟨by decide, by decide, ⟨by simp [ltI], by decide, by decide⟩, wf_nil 3, wf_nil 3⟩
  have w4 : WfF ⟨2, [(0, 1)], [], []⟩ := ⟨by decide, by decide, ⟨by simp, by decide, by decide⟩, wf_nil 2, wf_nil 2⟩
  simp only [N__law_told_pairs, startD, List.map_cons, List.map_nil, List.length_cons, List.length_nil, Nat.zero_add, Nat.reduceAdd, Nat.reduceSub, List.replicate_succ, List.replicate_zero, List.cons_append, List.nil_append]
  unfold t__law_told_pairs
  refine tSq_step fun T hT => ?_
  simp only [wipeD, items_tup, items_lst, items_rng, tupleD, seqA_tup, seqA_lst, tSq, tIf', tTs, tO, tV, tK, tTr, truD, tNo, tAn, tOr', tAnV, tOrV', tNoV, tIfE, tN0, tCo, tTu, tLs, tCl, tFn, tMh, tRt, tRt0, tNx, tEx, tSe, tAs, gN, gS, gT, gsc, gs0, tU, i2_ii, i2c_ii, rNegD, intC, absD, minD, isD, eqi, eqs, eqb, nei, nes, neb, DL.rIsD, DL.rIsnD, addi, muli, tMe, tMe0, tBk, tCt, outD, EndsD.xk, startD, optP_some, List.map_cons, List.map_nil, List.length_cons, List.length_nil, List.cons_append, List.nil_append, List.append_nil, List.set_cons_zero, List.set_cons_succ, List.set_nil, List.getElem?_cons_zero, List.getElem?_cons_succ, List.replicate_succ, List.replicate_zero, Nat.zero_add, Nat.reduceAdd, Nat.reduceSub, decide_eq_true_eq, Bool.not_eq_true', decide_eq_false_iff_not]
  refine ⟨l0, l0, l0, l3, ?_⟩
  subst hT
  refine tSq_step fun T hT => ?_
  simp only [wipeD, items_tup, items_lst, items_rng, tupleD, seqA_tup, seqA_lst, tSq, tIf', tTs, tO, tV, tK, tTr, truD, tNo, tAn, tOr', tAnV, tOrV', tNoV, tIfE, tN0, tCo, tTu, tLs, tCl, tFn, tMh, tRt, tRt0, tNx, tEx, tSe, tAs, gN, gS, gT, gsc, gs0, tU, i2_ii, i2c_ii, rNegD, intC, absD, minD, isD, eqi, eqs, eqb, nei, nes, neb, DL.rIsD, DL.rIsnD, addi, muli, tMe, tMe0, tBk, tCt, outD, EndsD.xk, startD, optP_some, List.map_cons, List.map_nil, List.length_cons, List.length_nil, List.cons_append, List.nil_append, List.append_nil, List.set_cons_zero, List.set_cons_succ, List.set_nil, List.getElem?_cons_zero, List.getElem?_cons_succ, List.replicate_succ, List.replicate_zero, Nat.zero_add, Nat.reduceAdd, Nat.reduceSub, decide_eq_true_eq, Bool.not_eq_true', decide_eq_false_iff_not]
  refine ⟨l2, l2, l1, ⟨1, [], [], []⟩, ⟨2, [], [], []⟩, _, [0], rfl, w1, w2, ⟨rfl⟩, ⟨rfl, by decide⟩, ?_⟩
  simp only [wipeD, items_tup, items_lst, items_rng, tupleD, seqA_tup, seqA_lst, tSq, tIf', tTs, tO, tV, tK, tTr, truD, tNo, tAn, tOr', tAnV, tOrV', tNoV, tIfE, tN0, tCo, tTu, tLs, tCl, tFn, tMh, tRt, tRt0, tNx, tEx, tSe, tAs, gN, gS, gT, gsc, gs0, tU, i2_ii, i2c_ii, rNegD, intC, absD, minD, isD, eqi, eqs, eqb, nei, nes, neb, DL.rIsD, DL.rIsnD, addi, muli, tMe, tMe0, tBk, tCt, outD, EndsD.xk, startD, optP_some, List.map_cons, List.map_nil, List.length_cons, List.length_nil, List.cons_append, List.nil_append, List.append_nil, List.set_cons_zero, List.set_cons_succ, List.set_nil, List.getElem?_cons_zero, List.getElem?_cons_succ, List.replicate_succ, List.replicate_zero, Nat.zero_add, Nat.reduceAdd, Nat.reduceSub, decide_eq_true_eq, Bool.not_eq_true', decide_eq_false_iff_not, Bool.true_eq_false, if_false]
  subst hT
  try dsimp only
  refine tSq_step fun T hT => ?_
  simp only [wipeD, items_tup, items_lst, items_rng, tupleD, seqA_tup, seqA_lst, tSq, tIf', tTs, tO, tV, tK, tTr, truD, tNo, tAn, tOr', tAnV, tOrV', tNoV, tIfE, tN0, tCo, tTu, tLs, tCl, tFn, tMh, tRt, tRt0, tNx, tEx, tSe, tAs, gN, gS, gT, gsc, gs0, tU, i2_ii, i2c_ii, rNegD, intC, absD, minD, isD, eqi, eqs, eqb, nei, nes, neb, DL.rIsD, DL.rIsnD, addi, muli, tMe, tMe0, tBk, tCt, outD, EndsD.xk, startD, optP_some, List.map_cons, List.map_nil, List.length_cons, List.length_nil, List.cons_append, List.nil_append, List.append_nil, List.set_cons_zero, List.set_cons_succ, List.set_nil, List.getElem?_cons_zero, List.getElem?_cons_succ, List.replicate_succ, List.replicate_zero, Nat.zero_add, Nat.reduceAdd, Nat.reduceSub, decide_eq_true_eq, Bool.not_eq_true', decide_eq_false_iff_not]
  refine ⟨l2, l2, l2, ⟨2, [], [], []⟩, ⟨1, [], [], []⟩, _, [0, 0], rfl, w2, w1, ⟨rfl⟩, ⟨rfl, by decide⟩, ?_⟩
  simp only [wipeD, items_tup, items_lst, items_rng, tupleD, seqA_tup, seqA_lst, tSq, tIf', tTs, tO, tV, tK, tTr, truD, tNo, tAn, tOr', tAnV, tOrV', tNoV, tIfE, tN0, tCo, tTu, tLs, tCl, tFn, tMh, tRt, tRt0, tNx, tEx, tSe, tAs, gN, gS, gT, gsc, gs0, tU, i2_ii, i2c_ii, rNegD, intC, absD, minD, isD, eqi, eqs, eqb, nei, nes, neb, DL.rIsD, DL.rIsnD, addi, muli, tMe, tMe0, tBk, tCt, outD, EndsD.xk, startD, optP_some, List.map_cons, List.map_nil, List.length_cons, List.length_nil, List.cons_append, List.nil_append, List.append_nil, List.set_cons_zero, List.set_cons_succ, List.set_nil, List.getElem?_cons_zero, List.getElem?_cons_succ, List.replicate_succ, List.replicate_zero, Nat.zero_add, Nat.reduceAdd, Nat.reduceSub, decide_eq_true_eq, Bool.not_eq_true', decide_eq_false_iff_not, Bool.true_eq_false, if_false]
  subst hT
  try dsimp only
  refine tSq_step fun T hT => ?_
  simp only [wipeD, items_tup, items_lst, items_rng, tupleD, seqA_tup, seqA_lst, tSq, tIf', tTs, tO, tV, tK, tTr, truD, tNo, tAn, tOr', tAnV, tOrV', tNoV, tIfE, tN0, tCo, tTu, tLs, tCl, tFn, tMh, tRt, tRt0, tNx, tEx, tSe, tAs, gN, gS, gT, gsc, gs0, tU, i2_ii, i2c_ii, rNegD, intC, absD, minD, isD, eqi, eqs, eqb, nei, nes, neb, DL.rIsD, DL.rIsnD, addi, muli, tMe, tMe0, tBk, tCt, outD, EndsD.xk, startD, optP_some, List.map_cons, List.map_nil, List.length_cons, List.length_nil, List.cons_append, List.nil_append, List.append_nil, List.set_cons_zero, List.set_cons_succ, List.set_nil, List.getElem?_cons_zero, List.getElem?_cons_succ, List.replicate_succ, List.replicate_zero, Nat.zero_add, Nat.reduceAdd, Nat.reduceSub, decide_eq_true_eq, Bool.not_eq_true', decide_eq_false_iff_not]
  refine ⟨l2, l2, l2, l0, l0, l3, ?_⟩
  subst hT
  try dsimp only
  simp only [wipeD, items_tup, items_lst, items_rng, tupleD, seqA_tup, seqA_lst, tSq, tIf', tTs, tO, tV, tK, tTr, truD, tNo, tAn, tOr', tAnV, tOrV', tNoV, tIfE, tN0, tCo, tTu, tLs, tCl, tFn, tMh, tRt, tRt0, tNx, tEx, tSe, tAs, gN, gS, gT, gsc, gs0, tU, i2_ii, i2c_ii, rNegD, intC, absD, minD, isD, eqi, eqs, eqb, nei, nes, neb, DL.rIsD, DL.rIsnD, addi, muli, tMe, tMe0, tBk, tCt, outD, EndsD.xk, startD, optP_some, List.map_cons, List.map_nil, List.length_cons, List.length_nil, List.cons_append, List.nil_append, List.append_nil, List.set_cons_zero, List.set_cons_succ, List.set_nil, List.getElem?_cons_zero, List.getElem?_cons_succ, List.replicate_succ, List.replicate_zero, Nat.zero_add, Nat.reduceAdd, Nat.reduceSub, decide_eq_true_eq, Bool.not_eq_true', decide_eq_false_iff_not]
  refine ⟨l2, l2, l1, l0, l0, l3, l2, l3, ?_⟩
  exact ⟨⟨3, [(0, 1), (0, 2)], [], []⟩, ⟨2, [(0, 1)], [], []⟩, _, [0, 1, 1], rfl, w3, w4, ⟨rfl⟩, ⟨rfl, by decide⟩, out_ret h⟩
end K15
namespace K15
open PySem PySem.Spec PyProof.Rows L2 DL
variable [B : Obs] {K : PySem.W.Frag} {mg : Str → Option Value} {P : Program} {ds : List D} {M : Md} {Q : VD} {X : XD}
theorem Off.refl {st cs : Addr} : Off st cs M M := fun _ _ _ => rfl
theorem Off.trans {st cs : Addr} {M N O : Md} (p : Off st cs M N) (q : Off st cs N O) : Off st cs M O := fun a h1 h2 => (q a h1 h2).trans (p a h1 h2)
theorem StOk.not {st cs p : Addr} {N : Md} (s : StOk N st cs) (h : N p = none) : p ≠ st ∧ p ≠ cs := by
  obtain ⟨ns, i, c, h1, h2, _⟩ := s.ex
  refine ⟨fun z => ?_, fun z => ?_⟩
  · subst z
    rw [h1] at h
    cases h
  · subst z
    rw [h2] at h
    cases h
theorem StOk.keep {st cs : Addr} {M N : Md} (s : StOk M st cs) (h1 : N st = M st) (h2 : N cs = M cs) : StOk N st cs := by
  obtain ⟨ns, i, c, e1, e2, e3⟩ := s.ex
  exact ⟨s.ne, ns, i, c, h1.trans e1, h2.trans e2, e3⟩
/-- [.. for x in range(n)], each element draws -/
theorem draws_F {st cs : Addr} {R0 : D → Prop} {Xd : XD} {ta : TAd} {te : TEd} {i : Nat} {vs : List Nat} {n : Int} {δ : SD} (S : StOk M st cs) (h0 : ∀ R : List D → Md → Prop, R [.int n] M → ta Xd δ M R) (hb : 0 ≤ n) (hz : n ≤ 1000000)
    (he : ∀ x N, StOk N st cs → ∀ Q' : VD, (∀ y N', R0 y → Off st cs N N' → StOk N' st cs → Q' y N') → te X0 ((wipeD δ vs).set i (some (.int x))) N Q')
    (h : ∀ (ys : List D) (N : Md), ys.length = n.toNat → (∀ y ∈ ys, R0 y) → Off st cs M N → StOk N st cs → Q (.lst ys) N) : tLcF (.one i) (tIR1 ta) tYs te vs Xd δ M Q := by
  refine h0 _ ⟨⟨by omega, by omega⟩, fun p hp => ?_⟩
  obtain ⟨p1, p2⟩ := S.not hp
  show lcGo (.one i) tYs te (fun _ => True) _ p _ ((List.range n.toNat).map fun i => D.int ((i : Nat) : Int)) _
  have hlen : ((List.range n.toNat).map fun i => D.int ((i : Nat) : Int)).length = n.toNat := by rw [List.length_map, List.length_range]
  refine lcGo_at (I := fun acc N => (∀ y ∈ acc, R0 y) ∧ StOk N st cs ∧ ∀ a, a ≠ st → a ≠ cs → a ≠ p → N a = M a) (by rw [hlen, sizeLine_eq]; omega) (fun _ _ _ _ => trivial) (fun k hk acc N hl hN hI R hR => ?_) (fun acc N hl hN hI => ?_) put_same ⟨(fun y z => by cases z), S.keep (put_ne p1.symm) (put_ne p2.symm), fun a _ _ ha => put_ne ha⟩
  · obtain ⟨i1, i2, i3⟩ := hI
    have ek : ((List.range n.toNat).map fun i => D.int ((i : Nat) : Int))[k] = .int ((k : Nat) : Int) := by simp
    rw [ek]
    refine he _ N i2 R fun y N' hy o s => hR y N' (by rw [o p p1 p2]; exact hN) ⟨fun z hz => ?_, s.keep (put_ne p1.symm) (put_ne p2.symm), fun a a1 a2 a3 => by rw [put_ne a3, o a a1 a2, i3 a a1 a2 a3]⟩
    rcases List.mem_append.mp hz with hz | hz
    · exact i1 z hz
    · rw [List.mem_singleton] at hz
      rw [hz]
      exact hy
  · obtain ⟨i1, i2, i3⟩ := hI
    rw [hlen] at hl
    refine ⟨acc, hN, h acc _ hl i1 (fun a a1 a2 => ?_) (i2.keep (cut_ne p1.symm) (cut_ne p2.symm))⟩
    by_cases z : a = p
    · rw [z, cut_same, hp]
    · rw [cut_ne z, i3 a a1 a2 z]
theorem add_ints {a b : List Int} (hz : a.length + b.length ≤ 16777216) (h : Q (.lst (iL (a ++ b))) M) : rAddD (.lst (iL a)) (.lst (iL b)) M Q := ⟨iL a, iL b, rfl, rfl, by rw [iL_len, iL_len, sizeLine_eq]; exact hz, by
  unfold iL at h ⊢
  rw [List.map_append] at h
  exact h⟩
theorem sl_to {f : List Int} {x : Int} (x0 : 0 ≤ x) (x1 : x ≤ f.length) (k : Q (.lst (iL (f.take x.toNat))) M) : rSlD (.lst (iL f)) none (some x) M Q := slice_to ⟨rfl⟩ x0 x1 k
theorem sl_last {f : List Int} (hf : 1 ≤ f.length) (k : Q (.lst (iL (f.take (f.length - 1)))) M) : rSlD (.lst (iL f)) none (some (-1)) M Q := by
  refine ⟨iL f, rfl, ?_⟩
  have e : DL.cutD (iL f) none (some (-1)) = iL (f.take (f.length - 1)) := by
    unfold DL.cutD
    have s0 : HT.sIx (iL f).length 0 none = 0 := rfl
    have s1 : HT.sIx (iL f).length (iL f).length (some (-1)) = f.length - 1 := by
      rw [iL_len]
      show (if (-1 : Int) < 0 then ((-1 : Int) + (f.length : Int)).toNat else min (-1 : Int).toNat f.length) = f.length - 1
      rw [if_pos (by decide)]
      omega
    rw [s0, s1, List.drop_zero, Nat.sub_zero]
    unfold iL
    rw [List.map_take]
  rw [e]
  exact k
theorem sl_from {f : List Int} {x : Int} (x0 : 0 ≤ x) (x1 : x ≤ f.length) (k : Q (.lst (iL (f.drop x.toNat))) M) : rSlD (.lst (iL f)) (some x) none M Q := by
  refine ⟨iL f, rfl, ?_⟩
  have e : DL.cutD (iL f) (some x) none = iL (f.drop x.toNat) := by
    unfold DL.cutD
    have s0 : HT.sIx (iL f).length 0 (some x) = x.toNat := by
      rw [iL_len]
      show (if x < 0 then (x + (f.length : Int)).toNat else min x.toNat f.length) = x.toNat
      rw [if_neg (by omega)]
      omega
    have s1 : HT.sIx (iL f).length (iL f).length none = f.length := iL_len
    rw [s0, s1]
    unfold iL
    rw [← List.map_drop, ← List.map_take, List.take_of_length_le (by rw [List.length_drop]; omega)]
  rw [e]
  exact k
/-! ### wrong maps -/
theorem bad_len {f : List Int} {n g : Int} (h : (f.length : Int) ≠ n) : badAt f n g = some (f.length : Int) := if_pos h
theorem bad_first {pre post : List Int} {b n g : Int} (hl : ((pre ++ b :: post).length : Int) = n) (hp : ∀ y ∈ pre, 0 ≤ y ∧ y < g) (hb : b < 0 ∨ g ≤ b) : badAt (pre ++ b :: post) n g = some (pre.length : Int) := by
  unfold badAt
  rw [if_neg (fun z => z hl), List.zipIdx_append, List.findSome?_append]
  have e : (pre.zipIdx.findSome? fun p => if p.1 < 0 ∨ g ≤ p.1 then some ((p.2 : Nat) : Int) else none) = none := by
    rw [List.findSome?_eq_none_iff]
    intro p hp'
    have := hp p.1 (List.mem_of_getElem? (mem_zipIdx0 hp'))
    exact if_neg (by omega)
  rw [e, Option.none_or, List.zipIdx_cons, List.findSome?_cons]
  rw [if_pos hb, Nat.zero_add]
theorem kind_at {r : Int} (r0 : 0 ≤ r) (r1 : r < 5) : ∃ k ∈ kindsL, atI [D.str "plain", .str "turned", .str "counted", .str "all", .str "full"] r = some (.str k) := by
  have e : [D.str "plain", .str "turned", .str "counted", .str "all", .str "full"] = kindsL.map .str := rfl
  have hl : r.toNat < kindsL.length := by
    show r.toNat < 5
    omega
  refine ⟨kindsL[r.toNat], List.getElem_mem hl, ?_⟩
  rw [e, atI_in r0 (by rw [List.length_map]; show r < 5; omega), List.getElem?_map, List.getElem?_eq_getElem hl]
  rfl
def rowE (p : List Int × Int) : D := .tup [.lst (iL p.1), .int p.2]
end K15
namespace K15
open PySem PySem.Spec PyProof.Rows L2 DL
variable [B : Obs] {K : PySem.W.Frag} {mg : Str → Option Value} {P : Program} {ds : List D} {M : Md} {Q : VD} {X : XD}
theorem ints_of {R : Int → Prop} : ∀ {ys : List D}, (∀ y ∈ ys, ∃ b, y = .int b ∧ R b) → ∃ L : List Int, ys = iL L ∧ ∀ b ∈ L, R b
  | [], _ => ⟨[], rfl, fun b h => by cases h⟩
  | y :: ys, h => by
    obtain ⟨b, rfl, hb⟩ := h y List.mem_cons_self
    obtain ⟨L, rfl, hL⟩ := ints_of fun z hz => h z (List.mem_cons_of_mem _ hz)
    refine ⟨b :: L, rfl, fun c hc => ?_⟩
    rcases List.mem_cons.mp hc with e | hc
    · rw [e]
      exact hb
    · exact hL c hc
theorem p__law_wrong_maps (h : sp__law_wrong_maps K ds M Q X) : t__law_wrong_maps K (outD Q X) (startD N__law_wrong_maps ds) M := by
  obtain ⟨st, cs, F, G, f, rfl, S, wf, wg, hm, h⟩ := h
  have lo := wf.lo
  have hi := wf.hi
  have lg := wg.lo
  have hg := wg.hi
  have hfl := hm.len
  have l1 : 1 ≤ sizeLine := by rw [sizeLine_eq]; decide
  have l2 := two
  have l5 : 5 ≤ sizeLine := by rw [sizeLine_eq]; decide
  simp only [N__law_wrong_maps, startD, List.map_cons, List.map_nil, List.length_cons, List.length_nil, Nat.zero_add, Nat.reduceAdd, Nat.reduceSub, List.replicate_succ, List.replicate_zero, List.cons_append, List.nil_append]
  unfold t__law_wrong_maps
  refine tSq_step fun T hT => ?_
  simp only [worldD, wipeD, items_tup, items_lst, items_rng, tupleD, seqA_tup, seqA_lst, tSq, tIf', tTs, tO, tV, tK, tTr, truD, tNo, tAn, tOr', tAnV, tOrV', tNoV, tIfE, tN0, tCo, tTu, tLs, tCl, tFn, tMh, tRt, tRt0, tNx, tEx, tSe, tAs, gN, gS, gT, gsc, gs0, tU, i2_ii, i2c_ii, rNegD, intC, absD, minD, isD, eqi, eqs, eqb, nei, nes, neb, DL.rIsD, DL.rIsnD, addi, muli, tMe, tMe0, tBk, tCt, outD, EndsD.xk, startD, optP_some, List.map_cons, List.map_nil, List.length_cons, List.length_nil, List.cons_append, List.nil_append, List.append_nil, List.set_cons_zero, List.set_cons_succ, List.set_nil, List.getElem?_cons_zero, List.getElem?_cons_succ, List.replicate_succ, List.replicate_zero, Nat.zero_add, Nat.reduceAdd, Nat.reduceSub, decide_eq_true_eq, Bool.not_eq_true', decide_eq_false_iff_not, rIx_tup, atI_0]
  subst hT
  refine tSq_step fun T hT => ?_
  simp only [wipeD, items_tup, items_lst, items_rng, tupleD, seqA_tup, seqA_lst, tSq, tIf', tTs, tO, tV, tK, tTr, truD, tNo, tAn, tOr', tAnV, tOrV', tNoV, tIfE, tN0, tCo, tTu, tLs, tCl, tFn, tMh, tRt, tRt0, tNx, tEx, tSe, tAs, gN, gS, gT, gsc, gs0, tU, i2_ii, i2c_ii, rNegD, intC, absD, minD, isD, eqi, eqs, eqb, nei, nes, neb, DL.rIsD, DL.rIsnD, addi, muli, tMe, tMe0, tBk, tCt, outD, EndsD.xk, startD, optP_some, List.map_cons, List.map_nil, List.length_cons, List.length_nil, List.cons_append, List.nil_append, List.append_nil, List.set_cons_zero, List.set_cons_succ, List.set_nil, List.getElem?_cons_zero, List.getElem?_cons_succ, List.replicate_succ, List.replicate_zero, Nat.zero_add, Nat.reduceAdd, Nat.reduceSub, decide_eq_true_eq, Bool.not_eq_true', decide_eq_false_iff_not, rIx_tup, atI_0]
  subst hT
  refine tSq_step fun T hT => ?_
  simp only [wipeD, items_tup, items_lst, items_rng, tupleD, seqA_tup, seqA_lst, tSq, tIf', tTs, tO, tV, tK, tTr, truD, tNo, tAn, tOr', tAnV, tOrV', tNoV, tIfE, tN0, tCo, tTu, tLs, tCl, tFn, tMh, tRt, tRt0, tNx, tEx, tSe, tAs, gN, gS, gT, gsc, gs0, tU, i2_ii, i2c_ii, rNegD, intC, absD, minD, isD, eqi, eqs, eqb, nei, nes, neb, DL.rIsD, DL.rIsnD, addi, muli, tMe, tMe0, tBk, tCt, outD, EndsD.xk, startD, optP_some, List.map_cons, List.map_nil, List.length_cons, List.length_nil, List.cons_append, List.nil_append, List.append_nil, List.set_cons_zero, List.set_cons_succ, List.set_nil, List.getElem?_cons_zero, List.getElem?_cons_succ, List.replicate_succ, List.replicate_zero, Nat.zero_add, Nat.reduceAdd, Nat.reduceSub, decide_eq_true_eq, Bool.not_eq_true', decide_eq_false_iff_not]
  refine ⟨l5, st, cs, 5, rfl, S, by decide, by decide, fun r N r0 r1 o1 S => ?_⟩
  obtain ⟨k, hk, ek⟩ := kind_at r0 r1
  simp only [rIx_lst, ek, optP_some]
  subst hT
  refine tSq_step fun T hT => ?_
  simp only [wipeD, items_tup, items_lst, items_rng, tupleD, seqA_tup, seqA_lst, tSq, tIf', tTs, tO, tV, tK, tTr, truD, tNo, tAn, tOr', tAnV, tOrV', tNoV, tIfE, tN0, tCo, tTu, tLs, tCl, tFn, tMh, tRt, tRt0, tNx, tEx, tSe, tAs, gN, gS, gT, gsc, gs0, tU, i2_ii, i2c_ii, rNegD, intC, absD, minD, isD, eqi, eqs, eqb, nei, nes, neb, DL.rIsD, DL.rIsnD, addi, muli, tMe, tMe0, tBk, tCt, outD, EndsD.xk, startD, optP_some, List.map_cons, List.map_nil, List.length_cons, List.length_nil, List.cons_append, List.nil_append, List.append_nil, List.set_cons_zero, List.set_cons_succ, List.set_nil, List.getElem?_cons_zero, List.getElem?_cons_succ, List.replicate_succ, List.replicate_zero, Nat.zero_add, Nat.reduceAdd, Nat.reduceSub, decide_eq_true_eq, Bool.not_eq_true', decide_eq_false_iff_not]
  refine ⟨st, cs, F.n, rfl, S, by omega, by omega, fun at' N2 a0 a1 o2 S => ?_⟩
  subst hT
  refine tSq_step fun T hT => ?_
  simp only [wipeD, items_tup, items_lst, items_rng, tupleD, seqA_tup, seqA_lst, tSq, tIf', tTs, tO, tV, tK, tTr, truD, tNo, tAn, tOr', tAnV, tOrV', tNoV, tIfE, tN0, tCo, tTu, tLs, tCl, tFn, tMh, tRt, tRt0, tNx, tEx, tSe, tAs, gN, gS, gT, gsc, gs0, tU, i2_ii, i2c_ii, rNegD, intC, absD, minD, isD, eqi, eqs, eqb, nei, nes, neb, DL.rIsD, DL.rIsnD, addi, muli, tMe, tMe0, tBk, tCt, outD, EndsD.xk, startD, optP_some, List.map_cons, List.map_nil, List.length_cons, List.length_nil, List.cons_append, List.nil_append, List.append_nil, List.set_cons_zero, List.set_cons_succ, List.set_nil, List.getElem?_cons_zero, List.getElem?_cons_succ, List.replicate_succ, List.replicate_zero, Nat.zero_add, Nat.reduceAdd, Nat.reduceSub, decide_eq_true_eq, Bool.not_eq_true', decide_eq_false_iff_not]
  refine draws_F (R0 := fun y => ∃ b, y = .int b ∧ (b < 0 ∨ G.n ≤ b)) (n := F.n - at') S (fun R hR => ?_) (by omega) (by omega) (fun x N3 S3 Q' hQ => ?_) (fun ys N3 hy hR o3 S => ?_)
  · simp only [wipeD, items_tup, items_lst, items_rng, tupleD, seqA_tup, seqA_lst, tSq, tIf', tTs, tO, tV, tK, tTr, truD, tNo, tAn, tOr', tAnV, tOrV', tNoV, tIfE, tN0, tCo, tTu, tLs, tCl, tFn, tMh, tRt, tRt0, tNx, tEx, tSe, tAs, gN, gS, gT, gsc, gs0, tU, i2_ii, i2c_ii, rNegD, intC, absD, minD, isD, eqi, eqs, eqb, nei, nes, neb, DL.rIsD, DL.rIsnD, addi, muli, tMe, tMe0, tBk, tCt, outD, EndsD.xk, startD, optP_some, List.map_cons, List.map_nil, List.length_cons, List.length_nil, List.cons_append, List.nil_append, List.append_nil, List.set_cons_zero, List.set_cons_succ, List.set_nil, List.getElem?_cons_zero, List.getElem?_cons_succ, List.replicate_succ, List.replicate_zero, Nat.zero_add, Nat.reduceAdd, Nat.reduceSub, decide_eq_true_eq, Bool.not_eq_true', decide_eq_false_iff_not]
    exact hR
  · simp only [wipeD, items_tup, items_lst, items_rng, tupleD, seqA_tup, seqA_lst, tSq, tIf', tTs, tO, tV, tK, tTr, truD, tNo, tAn, tOr', tAnV, tOrV', tNoV, tIfE, tN0, tCo, tTu, tLs, tCl, tFn, tMh, tRt, tRt0, tNx, tEx, tSe, tAs, gN, gS, gT, gsc, gs0, tU, i2_ii, i2c_ii, rNegD, intC, absD, minD, isD, eqi, eqs, eqb, nei, nes, neb, DL.rIsD, DL.rIsnD, addi, muli, tMe, tMe0, tBk, tCt, outD, EndsD.xk, startD, optP_some, List.map_cons, List.map_nil, List.length_cons, List.length_nil, List.cons_append, List.nil_append, List.append_nil, List.set_cons_zero, List.set_cons_succ, List.set_nil, List.getElem?_cons_zero, List.getElem?_cons_succ, List.replicate_succ, List.replicate_zero, Nat.zero_add, Nat.reduceAdd, Nat.reduceSub, decide_eq_true_eq, Bool.not_eq_true', decide_eq_false_iff_not]
    refine ⟨l2, st, cs, 2, rfl, S3, by decide, by decide, fun r N4 r0 r1 o4 S4 => ?_⟩
    have c : r = 0 ∨ r = 1 := by omega
    rcases c with rfl | rfl
    · simp only [rIx_lst, atI_0, optP_some]
      exact hQ _ _ ⟨_, rfl, .inr (Int.le_refl _)⟩ o4 S4
    · simp only [rIx_lst, atI_1, optP_some]
      exact hQ _ _ ⟨_, rfl, .inl (by decide)⟩ o4 S4
  obtain ⟨L, rfl, hL⟩ := ints_of hR
  rw [iL_len] at hy
  have o : Off st cs M N3 := o1.trans (o2.trans o3)
  have q0 : [D.int 0] = iL [0] := rfl
  have q1 : [D.int G.n] = iL [G.n] := rfl
  have q2 : [D.int (-1)] = iL [-1] := rfl
  have f1 : 1 ≤ f.length := by omega
  subst hT
  refine tSq_step fun T hT => ?_
  simp only [tLsM, wipeD, items_tup, items_lst, items_rng, tupleD, seqA_tup, seqA_lst, tSq, tIf', tTs, tO, tV, tK, tTr, truD, tNo, tAn, tOr', tAnV, tOrV', tNoV, tIfE, tN0, tCo, tTu, tLs, tCl, tFn, tMh, tRt, tRt0, tNx, tEx, tSe, tAs, gN, gS, gT, gsc, gs0, tU, i2_ii, i2c_ii, rNegD, intC, absD, minD, isD, eqi, eqs, eqb, nei, nes, neb, DL.rIsD, DL.rIsnD, addi, muli, tMe, tMe0, tBk, tCt, outD, EndsD.xk, startD, optP_some, List.map_cons, List.map_nil, List.length_cons, List.length_nil, List.cons_append, List.nil_append, List.append_nil, List.set_cons_zero, List.set_cons_succ, List.set_nil, List.getElem?_cons_zero, List.getElem?_cons_succ, List.replicate_succ, List.replicate_zero, Nat.zero_add, Nat.reduceAdd, Nat.reduceSub, decide_eq_true_eq, Bool.not_eq_true', decide_eq_false_iff_not]
  refine ⟨l1, ?_⟩
  rw [q0]
  refine add_ints (by simp only [List.length_cons, List.length_nil]; omega) ?_
  refine ⟨l2, l1, ?_⟩
  rw [q1]
  refine add_ints (by simp only [List.length_cons, List.length_nil]; omega) ?_
  refine ⟨l2, l2, fun p hp => ?_⟩
  subst hT
  refine tSq_step fun T hT => ?_
  simp only [tSlc, tP0, tP1, wipeD, items_tup, items_lst, items_rng, tupleD, seqA_tup, seqA_lst, tSq, tIf', tTs, tO, tV, tK, tTr, truD, tNo, tAn, tOr', tAnV, tOrV', tNoV, tIfE, tN0, tCo, tTu, tLs, tCl, tFn, tMh, tRt, tRt0, tNx, tEx, tSe, tAs, gN, gS, gT, gsc, gs0, tU, i2_ii, i2c_ii, rNegD, intC, absD, minD, isD, eqi, eqs, eqb, nei, nes, neb, DL.rIsD, DL.rIsnD, addi, muli, tMe, tMe0, tBk, tCt, outD, EndsD.xk, startD, optP_some, List.map_cons, List.map_nil, List.length_cons, List.length_nil, List.cons_append, List.nil_append, List.append_nil, List.set_cons_zero, List.set_cons_succ, List.set_nil, List.getElem?_cons_zero, List.getElem?_cons_succ, List.replicate_succ, List.replicate_zero, Nat.zero_add, Nat.reduceAdd, Nat.reduceSub, decide_eq_true_eq, Bool.not_eq_true', decide_eq_false_iff_not]
  refine ⟨isLs_ref put_same, ?_⟩
  refine sl_last f1 ?_
  refine ⟨l2, ?_⟩
  rw [app_eq put_same, put_put]
  refine ⟨by rw [sizeLine_eq]; exact (by decide : (2 : Nat) < 16777216), ?_⟩
  subst hT
  refine tSq_step fun T hT => ?_
  simp only [tSlc, tP0, tP1, wipeD, items_tup, items_lst, items_rng, tupleD, seqA_tup, seqA_lst, tSq, tIf', tTs, tO, tV, tK, tTr, truD, tNo, tAn, tOr', tAnV, tOrV', tNoV, tIfE, tN0, tCo, tTu, tLs, tCl, tFn, tMh, tRt, tRt0, tNx, tEx, tSe, tAs, gN, gS, gT, gsc, gs0, tU, i2_ii, i2c_ii, rNegD, intC, absD, minD, isD, eqi, eqs, eqb, nei, nes, neb, DL.rIsD, DL.rIsnD, addi, muli, tMe, tMe0, tBk, tCt, outD, EndsD.xk, startD, optP_some, List.map_cons, List.map_nil, List.length_cons, List.length_nil, List.cons_append, List.nil_append, List.append_nil, List.set_cons_zero, List.set_cons_succ, List.set_nil, List.getElem?_cons_zero, List.getElem?_cons_succ, List.replicate_succ, List.replicate_zero, Nat.zero_add, Nat.reduceAdd, Nat.reduceSub, decide_eq_true_eq, Bool.not_eq_true', decide_eq_false_iff_not]
  refine ⟨isLs_ref put_same, ?_⟩
  refine sl_to a0 (by omega) ?_
  refine add_ints (by rw [List.length_take]; omega) ?_
  refine ⟨l2, ?_⟩
  rw [app_eq put_same, put_put]
  refine ⟨by rw [sizeLine_eq]; exact (by decide : (3 : Nat) < 16777216), ?_⟩
  subst hT
  refine tSq_step fun T hT => ?_
  simp only [tSlc, tP0, tP1, wipeD, items_tup, items_lst, items_rng, tupleD, seqA_tup, seqA_lst, tSq, tIf', tTs, tO, tV, tK, tTr, truD, tNo, tAn, tOr', tAnV, tOrV', tNoV, tIfE, tN0, tCo, tTu, tLs, tCl, tFn, tMh, tRt, tRt0, tNx, tEx, tSe, tAs, gN, gS, gT, gsc, gs0, tU, i2_ii, i2c_ii, rNegD, intC, absD, minD, isD, eqi, eqs, eqb, nei, nes, neb, DL.rIsD, DL.rIsnD, addi, muli, tMe, tMe0, tBk, tCt, outD, EndsD.xk, startD, optP_some, List.map_cons, List.map_nil, List.length_cons, List.length_nil, List.cons_append, List.nil_append, List.append_nil, List.set_cons_zero, List.set_cons_succ, List.set_nil, List.getElem?_cons_zero, List.getElem?_cons_succ, List.replicate_succ, List.replicate_zero, Nat.zero_add, Nat.reduceAdd, Nat.reduceSub, decide_eq_true_eq, Bool.not_eq_true', decide_eq_false_iff_not]
  refine ⟨isLs_ref put_same, ?_⟩
  refine sl_to a0 (by omega) ?_
  refine ⟨l1, ?_⟩
  rw [q1]
  refine add_ints (by rw [List.length_take]; simp only [List.length_cons, List.length_nil]; omega) ?_
  refine sl_from (by omega) (by omega) ?_
  refine add_ints (by rw [List.length_append, List.length_take, List.length_drop]; simp only [List.length_cons, List.length_nil]; omega) ?_
  refine ⟨l2, ?_⟩
  rw [app_eq put_same, put_put]
  refine ⟨by rw [sizeLine_eq]; exact (by decide : (4 : Nat) < 16777216), ?_⟩
  subst hT
  refine tSq_step fun T hT => ?_
  simp only [tSlc, tP0, tP1, wipeD, items_tup, items_lst, items_rng, tupleD, seqA_tup, seqA_lst, tSq, tIf', tTs, tO, tV, tK, tTr, truD, tNo, tAn, tOr', tAnV, tOrV', tNoV, tIfE, tN0, tCo, tTu, tLs, tCl, tFn, tMh, tRt, tRt0, tNx, tEx, tSe, tAs, gN, gS, gT, gsc, gs0, tU, i2_ii, i2c_ii, rNegD, intC, absD, minD, isD, eqi, eqs, eqb, nei, nes, neb, DL.rIsD, DL.rIsnD, addi, muli, tMe, tMe0, tBk, tCt, outD, EndsD.xk, startD, optP_some, List.map_cons, List.map_nil, List.length_cons, List.length_nil, List.cons_append, List.nil_append, List.append_nil, List.set_cons_zero, List.set_cons_succ, List.set_nil, List.getElem?_cons_zero, List.getElem?_cons_succ, List.replicate_succ, List.replicate_zero, Nat.zero_add, Nat.reduceAdd, Nat.reduceSub, decide_eq_true_eq, Bool.not_eq_true', decide_eq_false_iff_not]
  refine ⟨isLs_ref put_same, ?_⟩
  refine sl_to a0 (by omega) ?_
  refine ⟨l1, ?_⟩
  rw [q2]
  refine add_ints (by rw [List.length_take]; simp only [List.length_cons, List.length_nil]; omega) ?_
  refine sl_from (by omega) (by omega) ?_
  refine add_ints (by rw [List.length_append, List.length_take, List.length_drop]; simp only [List.length_cons, List.length_nil]; omega) ?_
  refine ⟨l2, ?_⟩
  rw [app_eq put_same, put_put]
  refine ⟨by rw [sizeLine_eq]; exact (by decide : (5 : Nat) < 16777216), ?_⟩
  subst hT
  obtain ⟨rowsL, hrl⟩ : ∃ r, r = ([(f ++ [0], F.n + 1), (f ++ [G.n], F.n + 1), (f.take (f.length - 1), F.n - 1), (f.take at'.toNat ++ L, at'), (f.take at'.toNat ++ [G.n] ++ f.drop (at' + 1).toNat, at'), (f.take at'.toNat ++ [-1] ++ f.drop (at' + 1).toNat, at')] : List (List Int × Int)) := ⟨_, rfl⟩
  have hrows : ∀ q ∈ ([(f ++ [0], F.n + 1), (f ++ [G.n], F.n + 1), (f.take (f.length - 1), F.n - 1), (f.take at'.toNat ++ L, at'), (f.take at'.toNat ++ [G.n] ++ f.drop (at' + 1).toNat, at'), (f.take at'.toNat ++ [-1] ++ f.drop (at' + 1).toNat, at')] : List (List Int × Int)), badAt q.1 F.n G.n = some q.2 ∧ q.1.length ≤ 1000 := by
    have tk : ∀ y ∈ f.take at'.toNat, 0 ≤ y ∧ y < G.n := fun y hy => hm.rg y (List.mem_of_mem_take hy)
    have tl : (f.take at'.toNat).length = at'.toNat := by rw [List.length_take]; omega
    intro q hq
    simp only [List.mem_cons, List.not_mem_nil, or_false] at hq
    rcases hq with rfl | rfl | rfl | rfl | rfl | rfl
    · refine ⟨?_, by simp; omega⟩
      rw [bad_len (by simp; omega)]
      simp
      omega
    · refine ⟨?_, by simp; omega⟩
      rw [bad_len (by simp; omega)]
      simp
      omega
    · refine ⟨?_, by simp; omega⟩
      rw [bad_len (by simp; omega)]
      simp
      omega
    · refine ⟨?_, by simp; omega⟩
      cases L with
      | nil =>
        simp at hy
        omega
      | cons b L =>
        rw [bad_first (by rw [List.length_append, tl]; simp only [List.length_cons] at hy ⊢; omega) tk (hL b List.mem_cons_self), tl]
        simp
        omega
    · refine ⟨?_, by simp; omega⟩
      rw [List.append_assoc, List.singleton_append, bad_first (by rw [List.length_append, tl, List.length_cons, List.length_drop]; omega) tk (.inr (Int.le_refl _)), tl]
      simp
      omega
    · refine ⟨?_, by simp; omega⟩
      rw [List.append_assoc, List.singleton_append, bad_first (by rw [List.length_append, tl, List.length_cons, List.length_drop]; omega) tk (.inl (by decide)), tl]
      simp
      omega
  refine tSq_step fun T hT => ?_
  simp only [tFo, tIS, wipeD, items_tup, items_lst, items_rng, tupleD, seqA_tup, seqA_lst, tSq, tIf', tTs, tO, tV, tK, tTr, truD, tNo, tAn, tOr', tAnV, tOrV', tNoV, tIfE, tN0, tCo, tTu, tLs, tCl, tFn, tMh, tRt, tRt0, tNx, tEx, tSe, tAs, gN, gS, gT, gsc, gs0, tU, i2_ii, i2c_ii, rNegD, intC, absD, minD, isD, eqi, eqs, eqb, nei, nes, neb, DL.rIsD, DL.rIsnD, addi, muli, tMe, tMe0, tBk, tCt, outD, EndsD.xk, startD, optP_some, List.map_cons, List.map_nil, List.length_cons, List.length_nil, List.cons_append, List.nil_append, List.append_nil, List.set_cons_zero, List.set_cons_succ, List.set_nil, List.getElem?_cons_zero, List.getElem?_cons_succ, List.replicate_succ, List.replicate_zero, Nat.zero_add, Nat.reduceAdd, Nat.reduceSub, decide_eq_true_eq, Bool.not_eq_true', decide_eq_false_iff_not]
  rw [items_eq (seqA_ref put_same)]
  rw [← hrl] at hrows
  have ed : ([D.tup [.lst (iL (f ++ [0])), .int (F.n + 1)], .tup [.lst (iL (f ++ [G.n])), .int (F.n + 1)]] ++ [.tup [.lst (iL (f.take (f.length - 1))), .int (F.n - 1)]] ++ [.tup [.lst (iL (f.take at'.toNat ++ L)), .int at']] ++ [.tup [.lst (iL (f.take at'.toNat ++ [G.n] ++ f.drop (at' + 1).toNat)), .int at']] ++ [.tup [.lst (iL (f.take at'.toNat ++ [-1] ++ f.drop (at' + 1).toNat)), .int at']]) = rowsL.map rowE := by rw [hrl]; rfl
  simp only [List.cons_append, List.nil_append] at ed
  rw [ed]
  clear ed
  refine forGo_all (α := List Int × Int) (e := rowE) (l := rowsL) (inv := fun δ => ∃ a b c, δ = [some (.ref st), some (worldD F), some (worldD G), some (.lst (iL f)), some (.int F.n), some (.int G.n), some (.str k), some (.int at'), some (.lst (iL L)), a, some (.ref p), b, c]) (by first | trivial | rfl) (fun q hq δ hi R hR => ?_) (fun δ hi => ?_) ⟨_, _, _, rfl⟩
  · obtain ⟨a, b, c, rfl⟩ := hi
    obtain ⟨e1, e2⟩ := hrows q hq
    simp only [rowE, wipeD, items_tup, items_lst, items_rng, tupleD, seqA_tup, seqA_lst, tSq, tIf', tTs, tO, tV, tK, tTr, truD, tNo, tAn, tOr', tAnV, tOrV', tNoV, tIfE, tN0, tCo, tTu, tLs, tCl, tFn, tMh, tRt, tRt0, tNx, tEx, tSe, tAs, gN, gS, gT, gsc, gs0, tU, i2_ii, i2c_ii, rNegD, intC, absD, minD, isD, eqi, eqs, eqb, nei, nes, neb, DL.rIsD, DL.rIsnD, addi, muli, tMe, tMe0, tBk, tCt, outD, EndsD.xk, startD, optP_some, List.map_cons, List.map_nil, List.length_cons, List.length_nil, List.cons_append, List.nil_append, List.append_nil, List.set_cons_zero, List.set_cons_succ, List.set_nil, List.getElem?_cons_zero, List.getElem?_cons_succ, List.replicate_succ, List.replicate_zero, Nat.zero_add, Nat.reduceAdd, Nat.reduceSub, decide_eq_true_eq, Bool.not_eq_true', decide_eq_false_iff_not]
    refine ⟨trivial, F, rfl, wf, fun t => ?_⟩
    simp only [wipeD, items_tup, items_lst, items_rng, tupleD, seqA_tup, seqA_lst, tSq, tIf', tTs, tO, tV, tK, tTr, truD, tNo, tAn, tOr', tAnV, tOrV', tNoV, tIfE, tN0, tCo, tTu, tLs, tCl, tFn, tMh, tRt, tRt0, tNx, tEx, tSe, tAs, gN, gS, gT, gsc, gs0, tU, i2_ii, i2c_ii, rNegD, intC, absD, minD, isD, eqi, eqs, eqb, nei, nes, neb, DL.rIsD, DL.rIsnD, addi, muli, tMe, tMe0, tBk, tCt, outD, EndsD.xk, startD, optP_some, List.map_cons, List.map_nil, List.length_cons, List.length_nil, List.cons_append, List.nil_append, List.append_nil, List.set_cons_zero, List.set_cons_succ, List.set_nil, List.getElem?_cons_zero, List.getElem?_cons_succ, List.replicate_succ, List.replicate_zero, Nat.zero_add, Nat.reduceAdd, Nat.reduceSub, decide_eq_true_eq, Bool.not_eq_true', decide_eq_false_iff_not]
    refine ⟨G, rfl, wg, fun u => ?_⟩
    refine ⟨F, G, t, u, q.1, k, q.2, rfl, wf, wg, hk, e2, e1, ?_⟩
    simp only [wipeD, items_tup, items_lst, items_rng, tupleD, seqA_tup, seqA_lst, tSq, tIf', tTs, tO, tV, tK, tTr, truD, tNo, tAn, tOr', tAnV, tOrV', tNoV, tIfE, tN0, tCo, tTu, tLs, tCl, tFn, tMh, tRt, tRt0, tNx, tEx, tSe, tAs, gN, gS, gT, gsc, gs0, tU, i2_ii, i2c_ii, rNegD, intC, absD, minD, isD, eqi, eqs, eqb, nei, nes, neb, DL.rIsD, DL.rIsnD, addi, muli, tMe, tMe0, tBk, tCt, outD, EndsD.xk, startD, optP_some, List.map_cons, List.map_nil, List.length_cons, List.length_nil, List.cons_append, List.nil_append, List.append_nil, List.set_cons_zero, List.set_cons_succ, List.set_nil, List.getElem?_cons_zero, List.getElem?_cons_succ, List.replicate_succ, List.replicate_zero, Nat.zero_add, Nat.reduceAdd, Nat.reduceSub, decide_eq_true_eq, Bool.not_eq_true', decide_eq_false_iff_not, Bool.true_eq_false, if_false]
    exact hR _ ⟨_, _, _, rfl⟩
  · obtain ⟨a, b, c, rfl⟩ := hi
    subst hT
    try dsimp only
    simp only [wipeD, items_tup, items_lst, items_rng, tupleD, seqA_tup, seqA_lst, tSq, tIf', tTs, tO, tV, tK, tTr, truD, tNo, tAn, tOr', tAnV, tOrV', tNoV, tIfE, tN0, tCo, tTu, tLs, tCl, tFn, tMh, tRt, tRt0, tNx, tEx, tSe, tAs, gN, gS, gT, gsc, gs0, tU, i2_ii, i2c_ii, rNegD, intC, absD, minD, isD, eqi, eqs, eqb, nei, nes, neb, DL.rIsD, DL.rIsnD, addi, muli, tMe, tMe0, tBk, tCt, outD, EndsD.xk, startD, optP_some, List.map_cons, List.map_nil, List.length_cons, List.length_nil, List.cons_append, List.nil_append, List.append_nil, List.set_cons_zero, List.set_cons_succ, List.set_nil, List.getElem?_cons_zero, List.getElem?_cons_succ, List.replicate_succ, List.replicate_zero, Nat.zero_add, Nat.reduceAdd, Nat.reduceSub, decide_eq_true_eq, Bool.not_eq_true', decide_eq_false_iff_not]
    exact ⟨N3, _, .less (less_put hp), h _ o S⟩
end K15
namespace K15
open PySem PySem.Spec PyProof.Rows L2 DL
variable [B : Obs] {K : PySem.W.Frag} {mg : Str → Option Value} {P : Program} {ds : List D} {M : Md} {Q : VD} {X : XD}
/-- [f x for x in range(i, j)] -/
theorem tLcF_rng2 {Xd : XD} {ta : TAd} {te : TEd} {i : Nat} {vs : List Nat} {f : Int → D} {lo hi : Int} {δ : SD} (h0 : ∀ R : List D → Md → Prop, R [.int lo, .int hi] M → ta Xd δ M R) (hb : 0 ≤ lo) (hb2 : 0 ≤ hi) (hz : lo ≤ 1000000) (hz2 : hi ≤ 1000000)
    (he : ∀ x, lo ≤ x → x < hi → ∀ p c, M p = none → ∀ Q' : VD, Q' (f x) (put M p c) → te X0 ((wipeD δ vs).set i (some (.int x))) (put M p c) Q') (h : Q (.lst (((List.range (hi - lo).toNat).map fun m => lo + ((m : Nat) : Int)).map f)) M) : tLcF (.one i) (tIR2 ta) tYs te vs Xd δ M Q := by
  refine h0 _ ⟨⟨by omega, by omega, by omega, by omega⟩, fun p hp => ?_⟩
  have e : ((List.range (hi - lo).toNat).map fun m => D.int (lo + ((m : Nat) : Int))) = ((List.range (hi - lo).toNat).map fun m => lo + ((m : Nat) : Int)).map .int := by
    rw [List.map_map]
    rfl
  show lcGo (.one i) tYs te (fun _ => True) _ p _ ((List.range (hi - lo).toNat).map fun m => D.int (lo + ((m : Nat) : Int))) _
  rw [e]
  refine lcF_anyT (b := fun _ => true) (by rw [List.length_map, List.length_range, sizeLine_eq]; omega) (fun _ _ _ => trivial) (fun _ _ _ _ _ _ h => h) (fun x hx _ => ?_) (by rw [filt_yes]; exact h) p hp
  obtain ⟨m, hm, rfl⟩ := List.mem_map.mp hx
  rw [List.mem_range] at hm
  exact he _ (by omega) (by omega)
def RgP (n : Int) (q : Int × Int) : Prop := (0 ≤ q.1 ∧ q.1 < n) ∧ (0 ≤ q.2 ∧ q.2 < n)
structure Wst (M N : Md) (st cs p : Addr) (n style : Int) (pd : D) (b : Nat) : Prop where
  ok : StOk N st cs
  off : ∀ a, a ≠ st → a ≠ cs → a ≠ p → N a = M a
  ex : ∃ ps : Prs, (∀ q ∈ ps, RgP n q) ∧ ps.length ≤ b ∧ ((pd = .ref p ∧ N p = some (.lst (ps.map pD))) ∨ ((style = 1 ∨ style = 4) ∧ pd = .lst (ps.map pD)))
theorem Wst.mono {N : Md} {st cs p : Addr} {n style : Int} {pd : D} {b c : Nat} (w : Wst M N st cs p n style pd b) (h : b ≤ c) : Wst M N st cs p n style pd c := by
  obtain ⟨ps, h1, h2, h3⟩ := w.ex
  exact ⟨w.ok, w.off, ps, h1, by omega, h3⟩
theorem Wst.draw {N N' : Md} {st cs p : Addr} {n style : Int} {pd : D} {b : Nat} (w : Wst M N st cs p n style pd b) (np : p ≠ st ∧ p ≠ cs) (o : Off st cs N N') (s : StOk N' st cs) : Wst M N' st cs p n style pd b := by
  obtain ⟨ps, h1, h2, h3⟩ := w.ex
  refine ⟨s, fun a a1 a2 a3 => (o a a1 a2).trans (w.off a a1 a2 a3), ps, h1, h2, h3.imp (fun z => ⟨z.1, (o p np.1 np.2).trans z.2⟩) id⟩
/-- one more, at the cell -/
theorem Wst.push {N : Md} {st cs p : Addr} {n style : Int} {pd : D} {b : Nat} (w : Wst M N st cs p n style pd b) (np : p ≠ st ∧ p ≠ cs) (hs : ¬ (style = 1 ∨ style = 4)) {q : Int × Int} (hq : RgP n q) (hb : b ≤ 100) {R : VD} (hR : ∀ N', Wst M N' st cs p n style pd (b + 1) → R .non N') : isLs pd N ∧ mAppD pd [pD q] N R := by
  obtain ⟨ps, h1, h2, h3⟩ := w.ex
  rcases h3 with ⟨rfl, h3⟩ | ⟨h3, _⟩
  · refine ⟨isLs_ref h3, ?_⟩
    rw [app_eq h3]
    refine ⟨by rw [List.length_map, sizeLine_eq]; omega, hR _ ⟨w.ok.keep (put_ne np.1.symm) (put_ne np.2.symm), fun a a1 a2 a3 => by rw [put_ne a3, w.off a a1 a2 a3], ps ++ [q], fun z hz => ?_, by rw [List.length_append, List.length_cons, List.length_nil]; omega, .inl ⟨rfl, by rw [put_same, List.map_append]; rfl⟩⟩⟩
    rcases List.mem_append.mp hz with hz | hz
    · exact h1 z hz
    · rw [List.mem_singleton] at hz
      rw [hz]
      exact hq
  · exact absurd h3 hs
/-- more, a new list -/
theorem Wst.more {N : Md} {st cs p : Addr} {n style : Int} {pd : D} {b : Nat} (w : Wst M N st cs p n style pd b) (hs : style = 1 ∨ style = 4) {qs : Prs} (hq : ∀ q ∈ qs, RgP n q) (hb : b + qs.length ≤ 1000) {R : VD} (hR : ∀ pd', Wst M N st cs p n style pd' (b + qs.length) → R pd' N) : rAddD pd (.lst (qs.map pD)) N R := by
  obtain ⟨ps, h1, h2, h3⟩ := w.ex
  have fin : R (.lst (ps.map pD ++ qs.map pD)) N := hR _ ⟨w.ok, w.off, ps ++ qs, fun z hz => by
    rcases List.mem_append.mp hz with hz | hz
    · exact h1 z hz
    · exact hq z hz, by rw [List.length_append]; omega, .inr ⟨hs, by rw [List.map_append]⟩⟩
  rcases h3 with ⟨rfl, h3⟩ | ⟨_, rfl⟩
  · exact ⟨_, _, seqL_cell h3, rfl, by rw [List.length_map, List.length_map, sizeLine_eq]; omega, fin⟩
  · exact ⟨_, _, rfl, rfl, by rw [List.length_map, List.length_map, sizeLine_eq]; omega, fin⟩
theorem Wst.seq {N : Md} {st cs p : Addr} {n style : Int} {pd : D} {b : Nat} (w : Wst M N st cs p n style pd b) : ∃ ps : Prs, seqL N pd = some (ps.map pD) ∧ (∀ q ∈ ps, RgP n q) ∧ ps.length ≤ b := by
  obtain ⟨ps, h1, h2, h3⟩ := w.ex
  rcases h3 with ⟨rfl, h3⟩ | ⟨_, rfl⟩
  · exact ⟨ps, seqL_cell h3, h1, h2⟩
  · exact ⟨ps, rfl, h1, h2⟩
theorem p__law_way (h : sp__law_way K ds M Q X) : t__law_way K (outD Q X) (startD N__law_way ds) M := by
  obtain ⟨st, cs, n, rfl, S, n1, n4, h⟩ := h
  have l0 : 0 ≤ sizeLine := Nat.zero_le _
  simp only [N__law_way, startD, List.map_cons, List.map_nil, List.length_cons, List.length_nil, Nat.zero_add, Nat.reduceAdd, Nat.reduceSub, List.replicate_succ, List.replicate_zero, List.cons_append, List.nil_append]
  unfold t__law_way
  refine tSq_step fun T hT => ?_
  simp only [wipeD, items_tup, items_lst, items_rng, tupleD, seqA_tup, seqA_lst, tSq, tIf', tTs, tO, tV, tK, tTr, truD, tNo, tAn, tOr', tAnV, tOrV', tNoV, tIfE, tN0, tCo, tTu, tLs, tCl, tFn, tMh, tRt, tRt0, tNx, tEx, tSe, tAs, gN, gS, gT, gsc, gs0, tU, i2_ii, i2c_ii, rNegD, intC, absD, minD, isD, eqi, eqs, eqb, nei, nes, neb, DL.rIsD, DL.rIsnD, addi, muli, tMe, tMe0, tBk, tCt, outD, EndsD.xk, startD, optP_some, List.map_cons, List.map_nil, List.length_cons, List.length_nil, List.cons_append, List.nil_append, List.append_nil, List.set_cons_zero, List.set_cons_succ, List.set_nil, List.getElem?_cons_zero, List.getElem?_cons_succ, List.replicate_succ, List.replicate_zero, Nat.zero_add, Nat.reduceAdd, Nat.reduceSub, decide_eq_true_eq, Bool.not_eq_true', decide_eq_false_iff_not]
  refine ⟨st, cs, 6, rfl, S, by decide, by decide, fun style N0 s0 s1 o0 S0 => ?_⟩
  subst hT
  refine tSq_step fun T hT => ?_
  simp only [tLsM, wipeD, items_tup, items_lst, items_rng, tupleD, seqA_tup, seqA_lst, tSq, tIf', tTs, tO, tV, tK, tTr, truD, tNo, tAn, tOr', tAnV, tOrV', tNoV, tIfE, tN0, tCo, tTu, tLs, tCl, tFn, tMh, tRt, tRt0, tNx, tEx, tSe, tAs, gN, gS, gT, gsc, gs0, tU, i2_ii, i2c_ii, rNegD, intC, absD, minD, isD, eqi, eqs, eqb, nei, nes, neb, DL.rIsD, DL.rIsnD, addi, muli, tMe, tMe0, tBk, tCt, outD, EndsD.xk, startD, optP_some, List.map_cons, List.map_nil, List.length_cons, List.length_nil, List.cons_append, List.nil_append, List.append_nil, List.set_cons_zero, List.set_cons_succ, List.set_nil, List.getElem?_cons_zero, List.getElem?_cons_succ, List.replicate_succ, List.replicate_zero, Nat.zero_add, Nat.reduceAdd, Nat.reduceSub, decide_eq_true_eq, Bool.not_eq_true', decide_eq_false_iff_not]
  refine ⟨l0, fun p hp => ?_⟩
  have np := S0.not hp
  have mp : M p = none := (o0 p np.1 np.2).symm.trans hp
  have W0 : Wst M (put N0 p (.lst [])) st cs p n style (.ref p) 0 := ⟨S0.keep (put_ne np.1.symm) (put_ne np.2.symm), fun a a1 a2 a3 => by rw [put_ne a3, o0 a a1 a2], [], (fun q hq => by cases hq), Nat.le_refl _, .inl ⟨rfl, put_same⟩⟩
  obtain ⟨N1, hN1⟩ : ∃ N1, N1 = put N0 p (.lst []) := ⟨_, rfl⟩
  rw [← hN1] at W0 ⊢
  subst hT
  refine tSq_step fun T hT => ?_
  -- what comes behind the first loop
  have rest : ∀ (N : Md) (pd : D) (d4 d5 d6 d7 d8 : Option D), Wst M N st cs p n style pd 10 → T (outD Q X) [some (.ref st), some (.int n), some (.int style), some pd, d4, d5, d6, d7, d8] N := fun N pd d4 d5 d6 d7 d8 W => by
    subst hT
    simp only [tFo, tIR1, wipeD, items_tup, items_lst, items_rng, tupleD, seqA_tup, seqA_lst, tSq, tIf', tTs, tO, tV, tK, tTr, truD, tNo, tAn, tOr', tAnV, tOrV', tNoV, tIfE, tN0, tCo, tTu, tLs, tCl, tFn, tMh, tRt, tRt0, tNx, tEx, tSe, tAs, gN, gS, gT, gsc, gs0, tU, i2_ii, i2c_ii, rNegD, intC, absD, minD, isD, eqi, eqs, eqb, nei, nes, neb, DL.rIsD, DL.rIsnD, addi, muli, tMe, tMe0, tBk, tCt, outD, EndsD.xk, startD, optP_some, List.map_cons, List.map_nil, List.length_cons, List.length_nil, List.cons_append, List.nil_append, List.append_nil, List.set_cons_zero, List.set_cons_succ, List.set_nil, List.getElem?_cons_zero, List.getElem?_cons_succ, List.replicate_succ, List.replicate_zero, Nat.zero_add, Nat.reduceAdd, Nat.reduceSub, decide_eq_true_eq, Bool.not_eq_true', decide_eq_false_iff_not, rg_map]
    refine ⟨⟨by omega, by omega⟩, ?_⟩
    refine forGo_pre (α := Int) (e := .int) (l := rgI n) (P := fun pre δ N => ∃ pd d4 d5 d6 d7 d8, Wst M N st cs p n style pd (10 + pre.length * 4) ∧ δ = [some (.ref st), some (.int n), some (.int style), some pd, d4, d5, d6, d7, d8]) (fun δ N hi => ?_) (fun pre x post hl δ N hi R hR => ?_) ⟨_, _, _, _, _, _, W.mono (by simp), rfl⟩
    · obtain ⟨pd, d4, d5, d6, d7, d8, W, rfl⟩ := hi
      refine ⟨trivial, ?_⟩
      simp only [wipeD, items_tup, items_lst, items_rng, tupleD, seqA_tup, seqA_lst, tSq, tIf', tTs, tO, tV, tK, tTr, truD, tNo, tAn, tOr', tAnV, tOrV', tNoV, tIfE, tN0, tCo, tTu, tLs, tCl, tFn, tMh, tRt, tRt0, tNx, tEx, tSe, tAs, gN, gS, gT, gsc, gs0, tU, i2_ii, i2c_ii, rNegD, intC, absD, minD, isD, eqi, eqs, eqb, nei, nes, neb, DL.rIsD, DL.rIsnD, addi, muli, tMe, tMe0, tBk, tCt, outD, EndsD.xk, startD, optP_some, List.map_cons, List.map_nil, List.length_cons, List.length_nil, List.cons_append, List.nil_append, List.append_nil, List.set_cons_zero, List.set_cons_succ, List.set_nil, List.getElem?_cons_zero, List.getElem?_cons_succ, List.replicate_succ, List.replicate_zero, Nat.zero_add, Nat.reduceAdd, Nat.reduceSub, decide_eq_true_eq, Bool.not_eq_true', decide_eq_false_iff_not]
      obtain ⟨ps, h1, h2, h3⟩ := W.seq
      rw [rgI_len] at h3
      refine ⟨ps, h1, by omega, fun q hq => ?_, fun qs hm hs hl => ?_⟩
      · have := h2 q hq
        unfold RgP at this
        unfold Bd2
        omega
      · refine ⟨cut N p, _, .less fun a c e => ?_, h qs _ ⟨hs, fun q hq => h2 q ((hm q).mp hq), by omega⟩ (fun a a1 a2 => ?_) (W.ok.keep (cut_ne np.1.symm) (cut_ne np.2.symm))⟩
        · by_cases z : a = p
          · rw [z, cut_same] at e
            cases e
          · rw [cut_ne z] at e
            exact e
        · by_cases z : a = p
          · rw [z, cut_same, mp]
          · rw [cut_ne z, W.off a a1 a2 z]
    · obtain ⟨pd, d4, d5, d6, d7, d8, W, rfl⟩ := hi
      have hx : x ∈ rgI n := by rw [hl]; exact List.mem_append_right _ List.mem_cons_self
      obtain ⟨x0, x1⟩ := rgI_mem hx
      have hpl : pre.length ≤ 4 := by
        have := congrArg List.length hl
        rw [rgI_len, List.length_append, List.length_cons] at this
        omega
      have pw : (pre ++ [x]).length = pre.length + 1 := by rw [List.length_append]; rfl
      have done : ∀ (pd' : D) (c : Nat) (N' : Md) (e4 e5 e6 e7 e8 : Option D), c ≤ 10 + pre.length * 4 + 4 → Wst M N' st cs p n style pd' c → R [some (.ref st), some (.int n), some (.int style), some pd', e4, e5, e6, e7, e8] N' := fun pd' c N' e4 e5 e6 e7 e8 hc W' => hR _ _ ⟨_, _, _, _, _, _, W'.mono (by rw [pw]; omega), rfl⟩
      refine ⟨trivial, ?_⟩
      have c5 : style = 0 ∨ style = 1 ∨ style = 2 ∨ style = 3 ∨ style = 4 ∨ style = 5 := by omega
      rcases c5 with rfl | rfl | rfl | rfl | rfl | rfl
      · simp only [wipeD, items_tup, items_lst, items_rng, tupleD, seqA_tup, seqA_lst, tSq, tIf', tTs, tO, tV, tK, tTr, truD, tNo, tAn, tOr', tAnV, tOrV', tNoV, tIfE, tN0, tCo, tTu, tLs, tCl, tFn, tMh, tRt, tRt0, tNx, tEx, tSe, tAs, gN, gS, gT, gsc, gs0, tU, i2_ii, i2c_ii, rNegD, intC, absD, minD, isD, eqi, eqs, eqb, nei, nes, neb, DL.rIsD, DL.rIsnD, addi, muli, tMe, tMe0, tBk, tCt, outD, EndsD.xk, startD, optP_some, List.map_cons, List.map_nil, List.length_cons, List.length_nil, List.cons_append, List.nil_append, List.append_nil, List.set_cons_zero, List.set_cons_succ, List.set_nil, List.getElem?_cons_zero, List.getElem?_cons_succ, List.replicate_succ, List.replicate_zero, Nat.zero_add, Nat.reduceAdd, Nat.reduceSub, decide_eq_true_eq, Bool.not_eq_true', decide_eq_false_iff_not]
        rw [if_neg (by decide), if_neg (by decide), if_neg (by decide), if_neg (by decide)]
        exact done _ _ _ _ _ _ _ _ (by omega) W
      · simp only [wipeD, items_tup, items_lst, items_rng, tupleD, seqA_tup, seqA_lst, tSq, tIf', tTs, tO, tV, tK, tTr, truD, tNo, tAn, tOr', tAnV, tOrV', tNoV, tIfE, tN0, tCo, tTu, tLs, tCl, tFn, tMh, tRt, tRt0, tNx, tEx, tSe, tAs, gN, gS, gT, gsc, gs0, tU, i2_ii, i2c_ii, rNegD, intC, absD, minD, isD, eqi, eqs, eqb, nei, nes, neb, DL.rIsD, DL.rIsnD, addi, muli, tMe, tMe0, tBk, tCt, outD, EndsD.xk, startD, optP_some, List.map_cons, List.map_nil, List.length_cons, List.length_nil, List.cons_append, List.nil_append, List.append_nil, List.set_cons_zero, List.set_cons_succ, List.set_nil, List.getElem?_cons_zero, List.getElem?_cons_succ, List.replicate_succ, List.replicate_zero, Nat.zero_add, Nat.reduceAdd, Nat.reduceSub, decide_eq_true_eq, Bool.not_eq_true', decide_eq_false_iff_not]
        rw [if_pos trivial]
        have bd : 0 < (1 * 2 ^ n.toNat : Int) ∧ (1 * 2 ^ n.toNat : Int) < 1000000 := by
          have c4 : n = 1 ∨ n = 2 ∨ n = 3 ∨ n = 4 := by omega
          rcases c4 with rfl | rfl | rfl | rfl <;> decide
        refine ⟨pow_cond (by omega) (by omega), st, cs, _, rfl, W.ok, bd.1, bd.2, fun mask N2 m0 m1 o2 S2 => ?_⟩
        have W2 := W.draw np o2 S2
        refine tLcF_rngT (n := n) (b := fun y => decide (Builtin.bitAnd (mask / 2 ^ y.toNat) 1 = 1)) (f := .int) (fun R hR => hR) (by omega) (by omega) (fun y y0 y1 p' c' hp' R' hR' => ?_) (fun y y0 y1 _ p' c' hp' Q' hQ => hQ) ?_
        · simp only [wipeD, items_tup, items_lst, items_rng, tupleD, seqA_tup, seqA_lst, tSq, tIf', tTs, tO, tV, tK, tTr, truD, tNo, tAn, tOr', tAnV, tOrV', tNoV, tIfE, tN0, tCo, tTu, tLs, tCl, tFn, tMh, tRt, tRt0, tNx, tEx, tSe, tAs, gN, gS, gT, gsc, gs0, tU, i2_ii, i2c_ii, rNegD, intC, absD, minD, isD, eqi, eqs, eqb, nei, nes, neb, DL.rIsD, DL.rIsnD, addi, muli, tMe, tMe0, tBk, tCt, outD, EndsD.xk, startD, optP_some, List.map_cons, List.map_nil, List.length_cons, List.length_nil, List.cons_append, List.nil_append, List.append_nil, List.set_cons_zero, List.set_cons_succ, List.set_nil, List.getElem?_cons_zero, List.getElem?_cons_succ, List.replicate_succ, List.replicate_zero, Nat.zero_add, Nat.reduceAdd, Nat.reduceSub, decide_eq_true_eq, Bool.not_eq_true', decide_eq_false_iff_not]
          exact ⟨y0, hR'⟩
        · obtain ⟨rw', hrw⟩ : ∃ r, r = (rgI n).filter fun y => decide (Builtin.bitAnd (mask / 2 ^ y.toNat) 1 = 1) := ⟨_, rfl⟩
          rw [← hrw]
          have rl : rw'.length ≤ 4 := by
            have := List.length_filter_le (fun y => decide (Builtin.bitAnd (mask / 2 ^ y.toNat) 1 = 1)) (rgI n)
            rw [← hrw, rgI_len] at this
            omega
          have rm : ∀ y ∈ rw', 0 ≤ y ∧ y < n := fun y hy => by
            rw [hrw] at hy
            exact rgI_mem (List.mem_filter.mp hy).1
          refine tLcF_any (d0 := .lst (rw'.map .int)) (l := rw') (e := .int) (f := fun y => pD (x, y)) (fun _ h => h) rfl (by rw [sizeLine_eq]; omega) (fun y hy p' c' hp' Q' hQ => ?_) ?_
          · try simp only [wipeD, items_tup, items_lst, items_rng, tupleD, seqA_tup, seqA_lst, tSq, tIf', tTs, tO, tV, tK, tTr, truD, tNo, tAn, tOr', tAnV, tOrV', tNoV, tIfE, tN0, tCo, tTu, tLs, tCl, tFn, tMh, tRt, tRt0, tNx, tEx, tSe, tAs, gN, gS, gT, gsc, gs0, tU, i2_ii, i2c_ii, rNegD, intC, absD, minD, isD, eqi, eqs, eqb, nei, nes, neb, DL.rIsD, DL.rIsnD, addi, muli, tMe, tMe0, tBk, tCt, outD, EndsD.xk, startD, optP_some, List.map_cons, List.map_nil, List.length_cons, List.length_nil, List.cons_append, List.nil_append, List.append_nil, List.set_cons_zero, List.set_cons_succ, List.set_nil, List.getElem?_cons_zero, List.getElem?_cons_succ, List.replicate_succ, List.replicate_zero, Nat.zero_add, Nat.reduceAdd, Nat.reduceSub, decide_eq_true_eq, Bool.not_eq_true', decide_eq_false_iff_not]
            exact ⟨two, hQ⟩
          · have em : (rw'.map fun y => pD (x, y)) = (rw'.map fun y => (x, y)).map pD := by rw [List.map_map]; rfl
            rw [em]
            refine W2.more (.inl rfl) (fun q hq => ?_) (by rw [List.length_map]; omega) fun pd' W3 => ?_
            · obtain ⟨y, hy, rfl⟩ := List.mem_map.mp hq
              exact ⟨⟨x0, x1⟩, rm y hy⟩
            · rw [List.length_map] at W3
              rw [if_neg (by decide), if_neg (by decide), if_neg (by decide)]
              exact done _ _ _ _ _ _ _ _ (by omega) W3
      · simp only [wipeD, items_tup, items_lst, items_rng, tupleD, seqA_tup, seqA_lst, tSq, tIf', tTs, tO, tV, tK, tTr, truD, tNo, tAn, tOr', tAnV, tOrV', tNoV, tIfE, tN0, tCo, tTu, tLs, tCl, tFn, tMh, tRt, tRt0, tNx, tEx, tSe, tAs, gN, gS, gT, gsc, gs0, tU, i2_ii, i2c_ii, rNegD, intC, absD, minD, isD, eqi, eqs, eqb, nei, nes, neb, DL.rIsD, DL.rIsnD, addi, muli, tMe, tMe0, tBk, tCt, outD, EndsD.xk, startD, optP_some, List.map_cons, List.map_nil, List.length_cons, List.length_nil, List.cons_append, List.nil_append, List.append_nil, List.set_cons_zero, List.set_cons_succ, List.set_nil, List.getElem?_cons_zero, List.getElem?_cons_succ, List.replicate_succ, List.replicate_zero, Nat.zero_add, Nat.reduceAdd, Nat.reduceSub, decide_eq_true_eq, Bool.not_eq_true', decide_eq_false_iff_not]
        rw [if_neg (by decide), if_pos trivial]
        have key : ∀ R : VD, (∀ N', Wst M N' st cs p n 2 pd (10 + pre.length * 4 + 1) → R .non N') → isLs pd N ∧ mAppD pd [pD (x, x)] N R := fun R hR => W.push np (by decide) ⟨⟨x0, x1⟩, x0, x1⟩ (by omega) hR
        refine ⟨(key (fun _ _ => True) fun _ _ => trivial).1, two, (key _ fun N' W' => ?_).2⟩
        rw [if_neg (by decide), if_neg (by decide)]
        exact done _ _ _ _ _ _ _ _ (by omega) W'
      · simp only [wipeD, items_tup, items_lst, items_rng, tupleD, seqA_tup, seqA_lst, tSq, tIf', tTs, tO, tV, tK, tTr, truD, tNo, tAn, tOr', tAnV, tOrV', tNoV, tIfE, tN0, tCo, tTu, tLs, tCl, tFn, tMh, tRt, tRt0, tNx, tEx, tSe, tAs, gN, gS, gT, gsc, gs0, tU, i2_ii, i2c_ii, rNegD, intC, absD, minD, isD, eqi, eqs, eqb, nei, nes, neb, DL.rIsD, DL.rIsnD, addi, muli, tMe, tMe0, tBk, tCt, outD, EndsD.xk, startD, optP_some, List.map_cons, List.map_nil, List.length_cons, List.length_nil, List.cons_append, List.nil_append, List.append_nil, List.set_cons_zero, List.set_cons_succ, List.set_nil, List.getElem?_cons_zero, List.getElem?_cons_succ, List.replicate_succ, List.replicate_zero, Nat.zero_add, Nat.reduceAdd, Nat.reduceSub, decide_eq_true_eq, Bool.not_eq_true', decide_eq_false_iff_not]
        rw [if_neg (by decide), if_neg (by decide), if_pos trivial]
        have z0 := Int.emod_nonneg (x + 1) (show n ≠ 0 by omega)
        have z1 := Int.emod_lt_of_pos (x + 1) (show 0 < n by omega)
        have key : ∀ R : VD, (∀ N', Wst M N' st cs p n 3 pd (10 + pre.length * 4 + 1) → R .non N') → isLs pd N ∧ mAppD pd [pD (x, (x + 1) % n)] N R := fun R hR => W.push np (by decide) ⟨⟨x0, x1⟩, z0, z1⟩ (by omega) hR
        refine ⟨(key (fun _ _ => True) fun _ _ => trivial).1, by omega, two, (key _ fun N' W' => ?_).2⟩
        rw [if_neg (by decide)]
        exact done _ _ _ _ _ _ _ _ (by omega) W'
      · simp only [wipeD, items_tup, items_lst, items_rng, tupleD, seqA_tup, seqA_lst, tSq, tIf', tTs, tO, tV, tK, tTr, truD, tNo, tAn, tOr', tAnV, tOrV', tNoV, tIfE, tN0, tCo, tTu, tLs, tCl, tFn, tMh, tRt, tRt0, tNx, tEx, tSe, tAs, gN, gS, gT, gsc, gs0, tU, i2_ii, i2c_ii, rNegD, intC, absD, minD, isD, eqi, eqs, eqb, nei, nes, neb, DL.rIsD, DL.rIsnD, addi, muli, tMe, tMe0, tBk, tCt, outD, EndsD.xk, startD, optP_some, List.map_cons, List.map_nil, List.length_cons, List.length_nil, List.cons_append, List.nil_append, List.append_nil, List.set_cons_zero, List.set_cons_succ, List.set_nil, List.getElem?_cons_zero, List.getElem?_cons_succ, List.replicate_succ, List.replicate_zero, Nat.zero_add, Nat.reduceAdd, Nat.reduceSub, decide_eq_true_eq, Bool.not_eq_true', decide_eq_false_iff_not]
        rw [if_neg (by decide), if_neg (by decide), if_neg (by decide), if_pos trivial]
        refine tLcF_rng2 (lo := x + 1) (hi := n) (f := fun y => pD (x, y)) (fun R hR => ?_) (by omega) (by omega) (by omega) (by omega) (fun y y0 y1 p' c' hp' Q' hQ => ?_) ?_
        · exact hR
        · try simp only [wipeD, items_tup, items_lst, items_rng, tupleD, seqA_tup, seqA_lst, tSq, tIf', tTs, tO, tV, tK, tTr, truD, tNo, tAn, tOr', tAnV, tOrV', tNoV, tIfE, tN0, tCo, tTu, tLs, tCl, tFn, tMh, tRt, tRt0, tNx, tEx, tSe, tAs, gN, gS, gT, gsc, gs0, tU, i2_ii, i2c_ii, rNegD, intC, absD, minD, isD, eqi, eqs, eqb, nei, nes, neb, DL.rIsD, DL.rIsnD, addi, muli, tMe, tMe0, tBk, tCt, outD, EndsD.xk, startD, optP_some, List.map_cons, List.map_nil, List.length_cons, List.length_nil, List.cons_append, List.nil_append, List.append_nil, List.set_cons_zero, List.set_cons_succ, List.set_nil, List.getElem?_cons_zero, List.getElem?_cons_succ, List.replicate_succ, List.replicate_zero, Nat.zero_add, Nat.reduceAdd, Nat.reduceSub, decide_eq_true_eq, Bool.not_eq_true', decide_eq_false_iff_not]
          exact ⟨two, hQ⟩
        · have em : (((List.range (n - (x + 1)).toNat).map fun m => x + 1 + ((m : Nat) : Int)).map fun y => pD (x, y)) = (((List.range (n - (x + 1)).toNat).map fun m => x + 1 + ((m : Nat) : Int)).map fun y => (x, y)).map pD := by
            rw [List.map_map, List.map_map, List.map_map]
            rfl
          rw [em]
          refine W.more (.inr rfl) (fun q hq => ?_) (by rw [List.length_map, List.length_map, List.length_range]; omega) fun pd' W3 => ?_
          · obtain ⟨y, hy, rfl⟩ := List.mem_map.mp hq
            obtain ⟨m, hm, rfl⟩ := List.mem_map.mp hy
            rw [List.mem_range] at hm
            exact ⟨⟨x0, x1⟩, by show 0 ≤ x + 1 + ((m : Nat) : Int); omega, by show x + 1 + ((m : Nat) : Int) < n; omega⟩
          · rw [List.length_map, List.length_map, List.length_range] at W3
            exact done _ _ _ _ _ _ _ _ (by omega) W3
      · simp only [wipeD, items_tup, items_lst, items_rng, tupleD, seqA_tup, seqA_lst, tSq, tIf', tTs, tO, tV, tK, tTr, truD, tNo, tAn, tOr', tAnV, tOrV', tNoV, tIfE, tN0, tCo, tTu, tLs, tCl, tFn, tMh, tRt, tRt0, tNx, tEx, tSe, tAs, gN, gS, gT, gsc, gs0, tU, i2_ii, i2c_ii, rNegD, intC, absD, minD, isD, eqi, eqs, eqb, nei, nes, neb, DL.rIsD, DL.rIsnD, addi, muli, tMe, tMe0, tBk, tCt, outD, EndsD.xk, startD, optP_some, List.map_cons, List.map_nil, List.length_cons, List.length_nil, List.cons_append, List.nil_append, List.append_nil, List.set_cons_zero, List.set_cons_succ, List.set_nil, List.getElem?_cons_zero, List.getElem?_cons_succ, List.replicate_succ, List.replicate_zero, Nat.zero_add, Nat.reduceAdd, Nat.reduceSub, decide_eq_true_eq, Bool.not_eq_true', decide_eq_false_iff_not]
        rw [if_neg (by decide), if_neg (by decide), if_neg (by decide), if_neg (by decide)]
        exact done _ _ _ _ _ _ _ _ (by omega) W
  simp only [wipeD, items_tup, items_lst, items_rng, tupleD, seqA_tup, seqA_lst, tSq, tIf', tTs, tO, tV, tK, tTr, truD, tNo, tAn, tOr', tAnV, tOrV', tNoV, tIfE, tN0, tCo, tTu, tLs, tCl, tFn, tMh, tRt, tRt0, tNx, tEx, tSe, tAs, gN, gS, gT, gsc, gs0, tU, i2_ii, i2c_ii, rNegD, intC, absD, minD, isD, eqi, eqs, eqb, nei, nes, neb, DL.rIsD, DL.rIsnD, addi, muli, tMe, tMe0, tBk, tCt, outD, EndsD.xk, startD, optP_some, List.map_cons, List.map_nil, List.length_cons, List.length_nil, List.cons_append, List.nil_append, List.append_nil, List.set_cons_zero, List.set_cons_succ, List.set_nil, List.getElem?_cons_zero, List.getElem?_cons_succ, List.replicate_succ, List.replicate_zero, Nat.zero_add, Nat.reduceAdd, Nat.reduceSub, decide_eq_true_eq, Bool.not_eq_true', decide_eq_false_iff_not]
  by_cases c0 : style = 0
  · rw [if_pos c0]
    subst c0
    simp only [tFo, tIR1, wipeD, items_tup, items_lst, items_rng, tupleD, seqA_tup, seqA_lst, tSq, tIf', tTs, tO, tV, tK, tTr, truD, tNo, tAn, tOr', tAnV, tOrV', tNoV, tIfE, tN0, tCo, tTu, tLs, tCl, tFn, tMh, tRt, tRt0, tNx, tEx, tSe, tAs, gN, gS, gT, gsc, gs0, tU, i2_ii, i2c_ii, rNegD, intC, absD, minD, isD, eqi, eqs, eqb, nei, nes, neb, DL.rIsD, DL.rIsnD, addi, muli, tMe, tMe0, tBk, tCt, outD, EndsD.xk, startD, optP_some, List.map_cons, List.map_nil, List.length_cons, List.length_nil, List.cons_append, List.nil_append, List.append_nil, List.set_cons_zero, List.set_cons_succ, List.set_nil, List.getElem?_cons_zero, List.getElem?_cons_succ, List.replicate_succ, List.replicate_zero, Nat.zero_add, Nat.reduceAdd, Nat.reduceSub, decide_eq_true_eq, Bool.not_eq_true', decide_eq_false_iff_not]
    refine ⟨st, cs, n + 3, rfl, W0.ok, by omega, by omega, fun r N2 r0 r1 o2 S2 => ?_⟩
    have W2 := W0.draw np o2 S2
    simp only [rg_map]
    refine ⟨⟨by omega, by omega⟩, ?_⟩
    refine forGo_pre (α := Int) (e := .int) (l := rgI r) (P := fun pre δ N => ∃ pd d4 d5 d6 d7 d8, Wst M N st cs p n 0 pd pre.length ∧ δ = [some (.ref st), some (.int n), some (.int 0), some pd, d4, d5, d6, d7, d8]) (fun δ N hi => ?_) (fun pre k post hl δ N hi R hR => ?_) ⟨_, _, _, _, _, _, W2, rfl⟩
    · obtain ⟨pd, d4, d5, d6, d7, d8, W, rfl⟩ := hi
      refine ⟨trivial, ?_⟩
      exact rest _ _ _ _ _ _ _ (W.mono (by rw [rgI_len]; omega))
    · obtain ⟨pd, d4, d5, d6, d7, d8, W, rfl⟩ := hi
      have hpl : pre.length ≤ 10 := by
        have := congrArg List.length hl
        rw [rgI_len, List.length_append, List.length_cons] at this
        omega
      refine ⟨trivial, ?_⟩
      simp only [wipeD, items_tup, items_lst, items_rng, tupleD, seqA_tup, seqA_lst, tSq, tIf', tTs, tO, tV, tK, tTr, truD, tNo, tAn, tOr', tAnV, tOrV', tNoV, tIfE, tN0, tCo, tTu, tLs, tCl, tFn, tMh, tRt, tRt0, tNx, tEx, tSe, tAs, gN, gS, gT, gsc, gs0, tU, i2_ii, i2c_ii, rNegD, intC, absD, minD, isD, eqi, eqs, eqb, nei, nes, neb, DL.rIsD, DL.rIsnD, addi, muli, tMe, tMe0, tBk, tCt, outD, EndsD.xk, startD, optP_some, List.map_cons, List.map_nil, List.length_cons, List.length_nil, List.cons_append, List.nil_append, List.append_nil, List.set_cons_zero, List.set_cons_succ, List.set_nil, List.getElem?_cons_zero, List.getElem?_cons_succ, List.replicate_succ, List.replicate_zero, Nat.zero_add, Nat.reduceAdd, Nat.reduceSub, decide_eq_true_eq, Bool.not_eq_true', decide_eq_false_iff_not]
      refine ⟨st, cs, n, rfl, W.ok, by omega, by omega, fun x N3 x0 x1 o3 S3 => ?_⟩
      have W3 := W.draw np o3 S3
      simp only [wipeD, items_tup, items_lst, items_rng, tupleD, seqA_tup, seqA_lst, tSq, tIf', tTs, tO, tV, tK, tTr, truD, tNo, tAn, tOr', tAnV, tOrV', tNoV, tIfE, tN0, tCo, tTu, tLs, tCl, tFn, tMh, tRt, tRt0, tNx, tEx, tSe, tAs, gN, gS, gT, gsc, gs0, tU, i2_ii, i2c_ii, rNegD, intC, absD, minD, isD, eqi, eqs, eqb, nei, nes, neb, DL.rIsD, DL.rIsnD, addi, muli, tMe, tMe0, tBk, tCt, outD, EndsD.xk, startD, optP_some, List.map_cons, List.map_nil, List.length_cons, List.length_nil, List.cons_append, List.nil_append, List.append_nil, List.set_cons_zero, List.set_cons_succ, List.set_nil, List.getElem?_cons_zero, List.getElem?_cons_succ, List.replicate_succ, List.replicate_zero, Nat.zero_add, Nat.reduceAdd, Nat.reduceSub, decide_eq_true_eq, Bool.not_eq_true', decide_eq_false_iff_not]
      have key : ∀ (y : Int) (N4 : Md), 0 ≤ y → y < n → Off st cs N3 N4 → StOk N4 st cs → ∀ R : VD, (∀ N', Wst M N' st cs p n 0 pd (pre.length + 1) → R .non N') → isLs pd N4 ∧ mAppD pd [pD (x, y)] N4 R := fun y N4 y0 y1 o4 S4 R hR => (W3.draw np o4 S4).push np (by decide) ⟨⟨x0, x1⟩, y0, y1⟩ (by omega) hR
      refine ⟨(W3.push np (by decide) (q := (x, x)) ⟨⟨x0, x1⟩, x0, x1⟩ (by omega) (R := fun _ _ => True) fun _ _ => trivial).1, st, cs, n, rfl, W3.ok, by omega, by omega, fun y N4 y0 y1 o4 S4 => ?_⟩
      refine ⟨two, (key y N4 y0 y1 o4 S4 _ fun N' W' => ?_).2⟩
      exact hR _ _ ⟨_, _, _, _, _, _, by rw [List.length_append]; exact W', rfl⟩
  · rw [if_neg c0]
    exact rest _ _ _ _ _ _ _ (W0.mono (by omega))
end K15
namespace K15
open PySem PySem.Spec PyProof.Rows L2 DL
variable [B : Obs] {K : PySem.W.Frag} {mg : Str → Option Value} {P : Program} {ds : List D} {M : Md} {Q : VD} {X : XD}
theorem nodup_le : ∀ (n : Nat) (l : List Nat), l.Nodup → (∀ x ∈ l, x < n) → l.length ≤ n
  | 0, [], _, _ => Nat.le_refl _
  | 0, x :: l, _, h => absurd (h x List.mem_cons_self) (Nat.not_lt_zero _)
  | n + 1, l, nd, h => by
    have z := nodup_le n (l.erase n) (nd.erase n) fun x hx => by
      rw [nd.mem_erase_iff] at hx
      have := h x hx.2
      omega
    by_cases hm : n ∈ l
    · rw [List.length_erase_of_mem hm] at z
      omega
    · rw [List.erase_of_not_mem hm] at z
      omega
theorem pairs_few {m : Int} {ps : Prs} (h4 : m ≤ 4) (nd : ps.Nodup) (h : ∀ q ∈ ps, RgP m q) : ps.length ≤ 16 := by
  have z := nodup_le 16 (ps.map fun q => (q.1 * 4 + q.2).toNat) (by
    refine List.pairwise_map.mpr (nd.imp_of_mem fun {a b} ha hb ne e => ne ?_)
    have h1 := h a ha
    have h2 := h b hb
    unfold RgP at h1 h2
    exact Prod.ext (by omega) (by omega)) (fun x hx => by
    obtain ⟨q, hq, rfl⟩ := List.mem_map.mp hx
    have h1 := h q hq
    unfold RgP at h1
    omega)
  rw [List.length_map] at z
  exact z
theorem lt_of_sorted {qs ps : Prs} (hp : qs.Perm ps) (nd : ps.Nodup) (h : qs.Pairwise leI) : qs.Pairwise ltI := by
  have nq : qs.Pairwise (· ≠ ·) := hp.nodup_iff.mpr nd
  exact (h.and nq).imp fun ⟨a, b⟩ => lt_of_le a b
def overL (f : List Int) (v : Int) : List Int := (rgI f.length).filter fun y => decide (gi f y = v)
theorem rgI_nodup (n : Int) : (rgI n).Nodup := by
  unfold rgI
  refine List.pairwise_map.mpr (List.nodup_range.imp fun {a b} h e => h (by omega))
theorem over_mem {f : List Int} {v y : Int} (h : y ∈ overL f v) : (0 ≤ y ∧ y < f.length) ∧ gi f y = v := by
  unfold overL at h
  obtain ⟨h1, h2⟩ := List.mem_filter.mp h
  exact ⟨rgI_mem h1, of_decide_eq_true h2⟩
theorem over_nodup {f : List Int} {v : Int} : (overL f v).Nodup := (rgI_nodup _).sublist List.filter_sublist
theorem over_len {f : List Int} {v : Int} : (overL f v).length ≤ f.length := by
  have := List.length_filter_le (fun y => decide (gi f y = v)) (rgI f.length)
  rw [rgI_len] at this
  unfold overL
  omega
theorem over_ne {f : List Int} {g v : Int} (h : Onto f g) (v0 : 0 ≤ v) (v1 : v < g) : 0 < (overL f v).length := by
  obtain ⟨i, hi⟩ := List.getElem?_of_mem (h v v0 v1)
  obtain ⟨hl, e⟩ := List.getElem?_eq_some_iff.mp hi
  refine List.length_pos_of_mem (a := ((i : Nat) : Int)) (List.mem_filter.mpr ⟨?_, decide_eq_true ?_⟩)
  · unfold rgI
    exact List.mem_map.mpr ⟨i, List.mem_range.mpr (by omega), rfl⟩
  · unfold gi
    rw [Int.toNat_natCast, List.getD_eq_getElem?_getD, hi]
    rfl
/-- the pairs over those of a row -/
structure Cps (f : List Int) (ps pre : Prs) : Prop where
  nd : ps.Nodup
  rg : ∀ q ∈ ps, RgP f.length q
  im : ∀ q ∈ ps, (gi f q.1, gi f q.2) ∈ pre
structure Cpx (f : List Int) (ps pre : Prs) (u v : Int) (xs : List Int) : Prop where
  nd : ps.Nodup
  rg : ∀ q ∈ ps, RgP f.length q
  im : ∀ q ∈ ps, (gi f q.1, gi f q.2) ∈ pre ∨ ((gi f q.1 = u ∧ gi f q.2 = v) ∧ q.1 ∈ xs)
theorem Cpx.add {f : List Int} {ps pre : Prs} {u v x : Int} {xs es : List Int} (c : Cpx f ps pre u v xs) (hn : (u, v) ∉ pre) (hx : x ∉ xs) (hx2 : (0 ≤ x ∧ x < f.length) ∧ gi f x = u) (he : es.Nodup) (hev : ∀ y ∈ es, (0 ≤ y ∧ y < f.length) ∧ gi f y = v) : Cpx f (ps ++ es.map fun y => (x, y)) pre u v (xs ++ [x]) := by
  refine ⟨List.nodup_append.mpr ⟨c.nd, List.pairwise_map.mpr (he.imp fun h e => h (Prod.mk.inj e).2), fun a ha b hb e => ?_⟩, fun q hq => ?_, fun q hq => ?_⟩
  · obtain ⟨y, hy, rfl⟩ := List.mem_map.mp hb
    subst e
    rcases c.im _ ha with z | ⟨_, z⟩
    · rw [show gi f (x, y).1 = u from hx2.2, show gi f (x, y).2 = v from (hev y hy).2] at z
      exact hn z
    · exact hx z
  · rcases List.mem_append.mp hq with hq | hq
    · exact c.rg q hq
    · obtain ⟨y, hy, rfl⟩ := List.mem_map.mp hq
      exact ⟨hx2.1, (hev y hy).1⟩
  · rcases List.mem_append.mp hq with hq | hq
    · exact (c.im q hq).imp id fun z => ⟨z.1, List.mem_append_left _ z.2⟩
    · obtain ⟨y, hy, rfl⟩ := List.mem_map.mp hq
      exact .inr ⟨⟨hx2.2, (hev y hy).2⟩, List.mem_append_right _ List.mem_cons_self⟩
end K15
namespace K15
open PySem PySem.Spec PyProof.Rows L2 DL
variable [B : Obs] {K : PySem.W.Frag} {mg : Str → Option Value} {P : Program} {ds : List D} {M : Md} {Q : VD} {X : XD}
structure Cst (M N : Md) (st cs p : Addr) (rs : List Prs) : Prop where
  ok : StOk N st cs
  off : ∀ a, a ≠ st → a ≠ cs → a ≠ p → N a = M a
  at_ : N p = some (.lst (rs.map prD))
theorem Cst.draw {N N' : Md} {st cs p : Addr} {rs : List Prs} (w : Cst M N st cs p rs) (np : p ≠ st ∧ p ≠ cs) (o : Off st cs N N') (s : StOk N' st cs) : Cst M N' st cs p rs :=
  ⟨s, fun a a1 a2 a3 => (o a a1 a2).trans (w.off a a1 a2 a3), (o p np.1 np.2).trans w.at_⟩
def bodyX (K : PySem.W.Frag) : TSd := tSq (tSe (tV 9) 12) (tSq (tIf' (tTs (tO DL.rEqD (tV 3) (tK (.int 2)))) (tSe (tLs (tCo (tO DL.rIxD (tV 9) (tFn (sp__law_take K) [] (tCo (tV 0) (tCo (tCl lenD (tCo (tV 9) tN0)) tN0)))) tN0)) 12) tNx) (tSe (tO rAddD (tV 6) (tLcF (.one 10) (tIS (tV 12)) tYs (tTu (tCo (tV 11) (tCo (tV 10) tN0))) [10])) 6))
theorem over_comp {l : Nat} {f : List Int} {v : Int} {Xd : XD} {δ : SD} {N : Md} (hf : f.length ≤ 4) (h2 : δ[2]? = some (some (.lst (iL f)))) (hv : δ[l]? = some (some (.int v))) (hl : l ≠ 10) (h10 : δ.length = 13) (hl2 : l < 13) {R : VD} (h : R (.lst (iL (overL f v))) N) :
    tLcF (.one 10) (tIR1 (tCo (tCl lenD (tCo (tV 2) tN0)) tN0)) (tTs (tO DL.rEqD (tO DL.rIxD (tV 2) (tV 10)) (tV l))) (tV 10) [10] Xd δ N R := by
  refine tLcF_rngT (n := f.length) (b := fun y => decide (gi f y = v)) (f := .int) (fun Q' hQ => ?_) (by omega) (by omega) (fun y y0 y1 p c hp R' hR' => ?_) (fun y y0 y1 _ p c hp Q' hQ => ?_) h
  · show tCl lenD (tCo (tV 2) tN0) Xd δ N _
    show tV 2 Xd δ N _
    unfold tV
    rw [h2]
    show lenD [.lst (iL f)] N _
    rw [len_eq (seqA_lst (xs := iL f)), iL_len]
    exact hQ
  · have e2 : ((wipeD δ [10]).set 10 (some (.int y)))[2]? = some (some (.lst (iL f))) := by
      rw [List.getElem?_set_ne (by decide)]
      show (δ.set 10 none)[2]? = _
      rw [List.getElem?_set_ne (by decide), h2]
    have e10 : ((wipeD δ [10]).set 10 (some (.int y)))[10]? = some (some (.int y)) := by
      rw [List.getElem?_set_self]
      show 10 < (δ.set 10 none).length
      rw [List.length_set, h10]
      omega
    have el : ((wipeD δ [10]).set 10 (some (.int y)))[l]? = some (some (.int v)) := by
      rw [List.getElem?_set_ne (Ne.symm hl)]
      show (δ.set 10 none)[l]? = _
      rw [List.getElem?_set_ne (Ne.symm hl), hv]
    simp only [tTs, tO, tV, e2, e10, el, rIx_lst, atI_iL y0 y1, optP_some]
    exact hR'
  · have e10 : ((wipeD δ [10]).set 10 (some (.int y)))[10]? = some (some (.int y)) := by
      rw [List.getElem?_set_self]
      show 10 < (δ.set 10 none).length
      rw [List.length_set, h10]
      omega
    simp only [tV, e10]
    exact hQ
theorem x_loop {st cs p : Addr} (np : p ≠ st ∧ p ≠ cs) {f : List Int} {m u v : Int} {rs : List Prs} {ps pre : Prs} {N : Md} {d1 d5 d10 d11 d12 : Option D} {E : EndsD} (hf : f.length ≤ 4) (hv : 0 < (overL f v).length) (hn : (u, v) ∉ pre) (C : Cst M N st cs p rs) (cp : Cps f ps pre) {ok : Md → Prop} (hok : ∀ N, ok N)
    (fin : ∀ (ps' : Prs) (N' : Md) (d10 d11 d12 : Option D), Cst M N' st cs p rs → Cps f ps' (pre ++ [(u, v)]) → E.nx [some (.ref st), d1, some (.lst (iL f)), some (.int m), some (.ref p), d5, some (prD ps'), some (.int u), some (.int v), some (.lst (iL (overL f v))), d10, d11, d12] N') :
    forGo (gN 11) (bodyX K) ok E (iL (overL f u)) [some (.ref st), d1, some (.lst (iL f)), some (.int m), some (.ref p), d5, some (prD ps), some (.int u), some (.int v), some (.lst (iL (overL f v))), d10, d11, d12] N := by
  refine forGo_pre (α := Int) (e := .int) (l := overL f u) (P := fun xs δ N => ∃ ps' d10 d11 d12, Cst M N st cs p rs ∧ Cpx f ps' pre u v xs ∧ δ = [some (.ref st), d1, some (.lst (iL f)), some (.int m), some (.ref p), d5, some (prD ps'), some (.int u), some (.int v), some (.lst (iL (overL f v))), d10, d11, d12]) (fun δ N hi => ?_) (fun xs x post hl δ N hi R hR => ?_) ⟨ps, _, _, _, C, ⟨cp.nd, cp.rg, fun q hq => .inl (cp.im q hq)⟩, rfl⟩
  · obtain ⟨ps', d10, d11, d12, C, cx, rfl⟩ := hi
    refine ⟨hok _, fin _ _ _ _ _ C ⟨cx.nd, cx.rg, fun q hq => ?_⟩⟩
    rcases cx.im q hq with z | ⟨⟨z1, z2⟩, _⟩
    · exact List.mem_append_left _ z
    · rw [z1, z2]
      exact List.mem_append_right _ List.mem_cons_self
  · obtain ⟨ps', d10, d11, d12, C, cx, rfl⟩ := hi
    have hx := over_mem (f := f) (v := u) (y := x) (by rw [hl]; exact List.mem_append_right _ List.mem_cons_self)
    have hxn : x ∉ xs := by
      have nd := over_nodup (f := f) (v := u)
      rw [hl] at nd
      intro hm
      exact (List.nodup_append.mp nd).2.2 x hm x List.mem_cons_self rfl
    have few := pairs_few (m := f.length) (by omega) cx.nd cx.rg
    have ol := over_len (f := f) (v := v)
    have l1 : 1 ≤ sizeLine := by rw [sizeLine_eq]; decide
    refine ⟨hok _, ?_⟩
    -- the last statement
    have last : ∀ (es : List Int) (N' : Md) (d10 : Option D), Cst M N' st cs p rs → es.Nodup → (∀ y ∈ es, (0 ≤ y ∧ y < f.length) ∧ gi f y = v) → es.length ≤ 4 → tSe (tO rAddD (tV 6) (tLcF (.one 10) (tIS (tV 12)) tYs (tTu (tCo (tV 11) (tCo (tV 10) tN0))) [10])) 6 { E with nx := R, ct := R, bk := E.nx } [some (.ref st), d1, some (.lst (iL f)), some (.int m), some (.ref p), d5, some (prD ps'), some (.int u), some (.int v), some (.lst (iL (overL f v))), d10, some (.int x), some (.lst (iL es))] N' := fun es N' d10 C' he hev hel => by
      simp only [wipeD, items_tup, items_lst, items_rng, tupleD, seqA_tup, seqA_lst, tSq, tIf', tTs, tO, tV, tK, tTr, truD, tNo, tAn, tOr', tAnV, tOrV', tNoV, tIfE, tN0, tCo, tTu, tLs, tCl, tFn, tMh, tRt, tRt0, tNx, tEx, tSe, tAs, gN, gS, gT, gsc, gs0, tU, i2_ii, i2c_ii, rNegD, intC, absD, minD, isD, eqi, eqs, eqb, nei, nes, neb, DL.rIsD, DL.rIsnD, addi, muli, tMe, tMe0, tBk, tCt, outD, EndsD.xk, startD, optP_some, List.map_cons, List.map_nil, List.length_cons, List.length_nil, List.cons_append, List.nil_append, List.append_nil, List.set_cons_zero, List.set_cons_succ, List.set_nil, List.getElem?_cons_zero, List.getElem?_cons_succ, List.replicate_succ, List.replicate_zero, Nat.zero_add, Nat.reduceAdd, Nat.reduceSub, decide_eq_true_eq, Bool.not_eq_true', decide_eq_false_iff_not]
      refine tLcF_any (d0 := .lst (iL es)) (l := es) (e := .int) (f := fun y => pD (x, y)) (fun _ h => h) rfl (by rw [sizeLine_eq]; omega) (fun y hy p' c' hp' Q' hQ => ?_) ?_
      · try simp only [wipeD, items_tup, items_lst, items_rng, tupleD, seqA_tup, seqA_lst, tSq, tIf', tTs, tO, tV, tK, tTr, truD, tNo, tAn, tOr', tAnV, tOrV', tNoV, tIfE, tN0, tCo, tTu, tLs, tCl, tFn, tMh, tRt, tRt0, tNx, tEx, tSe, tAs, gN, gS, gT, gsc, gs0, tU, i2_ii, i2c_ii, rNegD, intC, absD, minD, isD, eqi, eqs, eqb, nei, nes, neb, DL.rIsD, DL.rIsnD, addi, muli, tMe, tMe0, tBk, tCt, outD, EndsD.xk, startD, optP_some, List.map_cons, List.map_nil, List.length_cons, List.length_nil, List.cons_append, List.nil_append, List.append_nil, List.set_cons_zero, List.set_cons_succ, List.set_nil, List.getElem?_cons_zero, List.getElem?_cons_succ, List.replicate_succ, List.replicate_zero, Nat.zero_add, Nat.reduceAdd, Nat.reduceSub, decide_eq_true_eq, Bool.not_eq_true', decide_eq_false_iff_not]
        exact ⟨two, hQ⟩
      · have em : (es.map fun y => pD (x, y)) = (es.map fun y => (x, y)).map pD := by rw [List.map_map]; rfl
        rw [em]
        refine ⟨_, _, rfl, rfl, by rw [List.length_map, List.length_map, List.length_map, sizeLine_eq]; omega, ?_⟩
        rw [← List.map_append]
        exact hR _ _ ⟨ps' ++ es.map fun y => (x, y), _, _, _, C', cx.add hn hxn hx he hev, rfl⟩
    unfold bodyX
    refine tSq_step fun T hT => ?_
    simp only [wipeD, items_tup, items_lst, items_rng, tupleD, seqA_tup, seqA_lst, tSq, tIf', tTs, tO, tV, tK, tTr, truD, tNo, tAn, tOr', tAnV, tOrV', tNoV, tIfE, tN0, tCo, tTu, tLs, tCl, tFn, tMh, tRt, tRt0, tNx, tEx, tSe, tAs, gN, gS, gT, gsc, gs0, tU, i2_ii, i2c_ii, rNegD, intC, absD, minD, isD, eqi, eqs, eqb, nei, nes, neb, DL.rIsD, DL.rIsnD, addi, muli, tMe, tMe0, tBk, tCt, outD, EndsD.xk, startD, optP_some, List.map_cons, List.map_nil, List.length_cons, List.length_nil, List.cons_append, List.nil_append, List.append_nil, List.set_cons_zero, List.set_cons_succ, List.set_nil, List.getElem?_cons_zero, List.getElem?_cons_succ, List.replicate_succ, List.replicate_zero, Nat.zero_add, Nat.reduceAdd, Nat.reduceSub, decide_eq_true_eq, Bool.not_eq_true', decide_eq_false_iff_not]
    subst hT
    refine tSq_step fun T hT => ?_
    simp only [wipeD, items_tup, items_lst, items_rng, tupleD, seqA_tup, seqA_lst, tSq, tIf', tTs, tO, tV, tK, tTr, truD, tNo, tAn, tOr', tAnV, tOrV', tNoV, tIfE, tN0, tCo, tTu, tLs, tCl, tFn, tMh, tRt, tRt0, tNx, tEx, tSe, tAs, gN, gS, gT, gsc, gs0, tU, i2_ii, i2c_ii, rNegD, intC, absD, minD, isD, eqi, eqs, eqb, nei, nes, neb, DL.rIsD, DL.rIsnD, addi, muli, tMe, tMe0, tBk, tCt, outD, EndsD.xk, startD, optP_some, List.map_cons, List.map_nil, List.length_cons, List.length_nil, List.cons_append, List.nil_append, List.append_nil, List.set_cons_zero, List.set_cons_succ, List.set_nil, List.getElem?_cons_zero, List.getElem?_cons_succ, List.replicate_succ, List.replicate_zero, Nat.zero_add, Nat.reduceAdd, Nat.reduceSub, decide_eq_true_eq, Bool.not_eq_true', decide_eq_false_iff_not]
    by_cases q : m = 2
    · rw [if_pos q]
      simp only [len_eq (seqA_lst (xs := iL (overL f v))), iL_len]
      obtain ⟨ns, S0, hS⟩ := C.ok.ex
      refine ⟨st, cs, _, rfl, C.ok, by omega, by omega, fun r N2 r0 r1 o2 S2 => ?_⟩
      simp only [rIx_lst, atI_iL r0 r1, optP_some]
      refine ⟨l1, ?_⟩
      subst hT
      have hm := gi_mem (f := overL f v) r0 r1
      exact last [gi (overL f v) r] N2 _ (C.draw np o2 S2) (by simp) (fun y hy => by
        rw [List.mem_singleton] at hy
        subst hy
        exact over_mem hm) (by simp)
    · rw [if_neg q]
      subst hT
      exact last (overL f v) N _ C over_nodup (fun y hy => over_mem hy) (by omega)
end K15
namespace K15
open PySem PySem.Spec PyProof.Rows L2 DL
variable [B : Obs] {K : PySem.W.Frag} {mg : Str → Option Value} {P : Program} {ds : List D} {M : Md} {Q : VD} {X : XD}
def bodyR (K : PySem.W.Frag) : TSd := tSq (tSe (tLcF (.one 10) (tIR1 (tCo (tCl lenD (tCo (tV 2) tN0)) tN0)) (tTs (tO DL.rEqD (tO DL.rIxD (tV 2) (tV 10)) (tV 8))) (tV 10) [10]) 9) (tFo (tIS (tLcF (.one 10) (tIR1 (tCo (tCl lenD (tCo (tV 2) tN0)) tN0)) (tTs (tO DL.rEqD (tO DL.rIxD (tV 2) (tV 10)) (tV 7))) (tV 10) [10])) (gN 11) (bodyX K))
theorem r_loop {st cs p : Addr} (np : p ≠ st ∧ p ≠ cs) {f : List Int} {g m : Int} {row : Prs} {rs : List Prs} {N : Md} {d1 d7 d8 d9 d10 d11 d12 : Option D} {E : EndsD} (hf : f.length ≤ 4) (ho : Onto f g) (wr : WfP g row) (C : Cst M N st cs p rs) {ok : Md → Prop} (hok : ∀ N, ok N)
    (fin : ∀ (ps : Prs) (N' : Md) (d7 d8 d9 d10 d11 d12 : Option D), Cst M N' st cs p rs → Cps f ps row → E.nx [some (.ref st), d1, some (.lst (iL f)), some (.int m), some (.ref p), some (prD row), some (prD ps), d7, d8, d9, d10, d11, d12] N') :
    forGo (gT 2 (gsc (gN 7) (gsc (gN 8) gs0))) (bodyR K) ok E (row.map pD) [some (.ref st), d1, some (.lst (iL f)), some (.int m), some (.ref p), some (prD row), some (prD []), d7, d8, d9, d10, d11, d12] N := by
  refine forGo_pre (α := Int × Int) (e := pD) (l := row) (P := fun pre δ N => ∃ ps d7 d8 d9 d10 d11 d12, Cst M N st cs p rs ∧ Cps f ps pre ∧ δ = [some (.ref st), d1, some (.lst (iL f)), some (.int m), some (.ref p), some (prD row), some (prD ps), d7, d8, d9, d10, d11, d12]) (fun δ N hi => ?_) (fun pre q post hl δ N hi R hR => ?_) ⟨[], _, _, _, _, _, _, C, ⟨.nil, (fun q h => by cases h), (fun q h => by cases h)⟩, rfl⟩
  · obtain ⟨ps, d7, d8, d9, d10, d11, d12, C, cp, rfl⟩ := hi
    exact ⟨hok _, fin _ _ _ _ _ _ _ _ C cp⟩
  · obtain ⟨ps, d7, d8, d9, d10, d11, d12, C, cp, rfl⟩ := hi
    obtain ⟨u, v⟩ := q
    obtain ⟨_, v0, v1⟩ := wr.rg (u, v) (by rw [hl]; exact List.mem_append_right _ List.mem_cons_self)
    have hn : (u, v) ∉ pre := fun hm => by
      have sr := wr.srt
      rw [hl] at sr
      have z := (List.pairwise_append.mp sr).2.2 (u, v) hm (u, v) List.mem_cons_self
      unfold ltI at z
      omega
    refine ⟨hok _, ?_⟩
    simp only [pD, gT, gsc, gN, gs0, List.length_cons, List.length_nil, Nat.zero_add, Nat.reduceAdd, true_and, List.set_cons_zero, List.set_cons_succ]
    unfold bodyR
    refine tSq_step fun T hT => ?_
    show tLcF _ _ _ _ _ _ _ _ _
    refine over_comp (l := 8) hf rfl rfl (by decide) rfl (by decide) ?_
    subst hT
    simp only [List.set_cons_zero, List.set_cons_succ, tFo, tIS]
    refine over_comp (l := 7) hf rfl rfl (by decide) rfl (by decide) ?_
    show itemsD (.lst (iL (overL f u))) N _
    rw [items_lst]
    refine x_loop np hf (over_ne ho v0 v1) hn C cp (fun _ => rfl) fun ps' N' d10 d11 d12 C' cp' => ?_
    exact hR _ _ ⟨ps', _, _, _, _, _, _, C', cp', rfl⟩
theorem t_lc : t__law_copies K = tSq (tSe (tLsM tN0) 4) (tSq (tFo (tIS (tV 1)) (gN 5) (tSq (tSe (tLs tN0) 6) (tSq (tFo (tIS (tV 5)) (gT 2 (gsc (gN 7) (gsc (gN 8) gs0))) (bodyR K)) (tEx (tMe isLs mAppD (tV 4) (tCo (tCl sortPD (tCo (tV 6) tN0)) tN0)))))) (tRt (tV 4))) := rfl
theorem p__law_copies (h : sp__law_copies K ds M Q X) : t__law_copies K (outD Q X) (startD N__law_copies ds) M := by
  obtain ⟨st, cs, g, a, b, c, f, m, rfl, S, wa, wb, wc, g4, f4, ho, h⟩ := h
  have l0 : 0 ≤ sizeLine := Nat.zero_le _
  rw [t_lc]
  simp only [N__law_copies, startD, List.map_cons, List.map_nil, List.length_cons, List.length_nil, Nat.zero_add, Nat.reduceAdd, Nat.reduceSub, List.replicate_succ, List.replicate_zero, List.cons_append, List.nil_append]
  refine tSq_step fun T hT => ?_
  simp only [tLsM, wipeD, items_tup, items_lst, items_rng, tupleD, seqA_tup, seqA_lst, tSq, tIf', tTs, tO, tV, tK, tTr, truD, tNo, tAn, tOr', tAnV, tOrV', tNoV, tIfE, tN0, tCo, tTu, tLs, tCl, tFn, tMh, tRt, tRt0, tNx, tEx, tSe, tAs, gN, gS, gT, gsc, gs0, tU, i2_ii, i2c_ii, rNegD, intC, absD, minD, isD, eqi, eqs, eqb, nei, nes, neb, DL.rIsD, DL.rIsnD, addi, muli, tMe, tMe0, tBk, tCt, outD, EndsD.xk, startD, optP_some, List.map_cons, List.map_nil, List.length_cons, List.length_nil, List.cons_append, List.nil_append, List.append_nil, List.set_cons_zero, List.set_cons_succ, List.set_nil, List.getElem?_cons_zero, List.getElem?_cons_succ, List.replicate_succ, List.replicate_zero, Nat.zero_add, Nat.reduceAdd, Nat.reduceSub, decide_eq_true_eq, Bool.not_eq_true', decide_eq_false_iff_not]
  refine ⟨l0, fun p hp => ?_⟩
  have np := S.not hp
  subst hT
  refine tSq_step fun T hT => ?_
  simp only [tFo, tIS, wipeD, items_tup, items_lst, items_rng, tupleD, seqA_tup, seqA_lst, tSq, tIf', tTs, tO, tV, tK, tTr, truD, tNo, tAn, tOr', tAnV, tOrV', tNoV, tIfE, tN0, tCo, tTu, tLs, tCl, tFn, tMh, tRt, tRt0, tNx, tEx, tSe, tAs, gN, gS, gT, gsc, gs0, tU, i2_ii, i2c_ii, rNegD, intC, absD, minD, isD, eqi, eqs, eqb, nei, nes, neb, DL.rIsD, DL.rIsnD, addi, muli, tMe, tMe0, tBk, tCt, outD, EndsD.xk, startD, optP_some, List.map_cons, List.map_nil, List.length_cons, List.length_nil, List.cons_append, List.nil_append, List.append_nil, List.set_cons_zero, List.set_cons_succ, List.set_nil, List.getElem?_cons_zero, List.getElem?_cons_succ, List.replicate_succ, List.replicate_zero, Nat.zero_add, Nat.reduceAdd, Nat.reduceSub, decide_eq_true_eq, Bool.not_eq_true', decide_eq_false_iff_not]
  have wrow : ∀ r ∈ [a, b, c], WfP g r := by
    intro r hr
    rcases List.mem_cons.mp hr with e | hr
    · rw [e]; exact wa
    · rcases List.mem_cons.mp hr with e | hr
      · rw [e]; exact wb
      · rcases List.mem_cons.mp hr with e | hr
        · rw [e]; exact wc
        · cases hr
  refine forGo_pre (α := Prs) (e := prD) (l := [a, b, c]) (P := fun pre δ N => ∃ (rs : List Prs) (d5 d6 d7 d8 d9 d10 d11 d12 : Option D), Cst M N st cs p rs ∧ rs.length = pre.length ∧ (∀ r ∈ rs, WfP f.length r) ∧ δ = [some (.ref st), some (.lst [prD a, prD b, prD c]), some (.lst (iL f)), some (.int m), some (.ref p), d5, d6, d7, d8, d9, d10, d11, d12]) (fun δ N hi => ?_) (fun pre row post hl δ N hi R hR => ?_)
    ⟨[], _, _, _, _, _, _, _, _, ⟨S.keep (put_ne np.1.symm) (put_ne np.2.symm), fun a _ _ ha => put_ne ha, put_same⟩, rfl, (fun r hr => by cases hr), rfl⟩
  · obtain ⟨rs, d5, d6, d7, d8, d9, d10, d11, d12, C, hl, hw, rfl⟩ := hi
    refine ⟨rfl, ?_⟩
    subst hT
    try dsimp only
    simp only [wipeD, items_tup, items_lst, items_rng, tupleD, seqA_tup, seqA_lst, tSq, tIf', tTs, tO, tV, tK, tTr, truD, tNo, tAn, tOr', tAnV, tOrV', tNoV, tIfE, tN0, tCo, tTu, tLs, tCl, tFn, tMh, tRt, tRt0, tNx, tEx, tSe, tAs, gN, gS, gT, gsc, gs0, tU, i2_ii, i2c_ii, rNegD, intC, absD, minD, isD, eqi, eqs, eqb, nei, nes, neb, DL.rIsD, DL.rIsnD, addi, muli, tMe, tMe0, tBk, tCt, outD, EndsD.xk, startD, optP_some, List.map_cons, List.map_nil, List.length_cons, List.length_nil, List.cons_append, List.nil_append, List.append_nil, List.set_cons_zero, List.set_cons_succ, List.set_nil, List.getElem?_cons_zero, List.getElem?_cons_succ, List.replicate_succ, List.replicate_zero, Nat.zero_add, Nat.reduceAdd, Nat.reduceSub, decide_eq_true_eq, Bool.not_eq_true', decide_eq_false_iff_not]
    match rs, hl, hw, C with
    | [a', b', c'], _, hw, C =>
      refine ⟨cut N p, .lst [prD a', prD b', prD c'], .lst C.at_, h a' b' c' _ (hw _ (by simp)) (hw _ (by simp)) (hw _ (by simp)) (fun z z1 z2 => ?_) (C.ok.keep (cut_ne np.1.symm) (cut_ne np.2.symm))⟩
      by_cases e : z = p
      · rw [e, cut_same, hp]
      · rw [cut_ne e, C.off z z1 z2 e]
  · obtain ⟨rs, d5, d6, d7, d8, d9, d10, d11, d12, C, hlen, hw, rfl⟩ := hi
    have hr : row ∈ [a, b, c] := by rw [hl]; exact List.mem_append_right _ List.mem_cons_self
    have hpl : pre.length ≤ 3 := by
      have := congrArg List.length hl
      rw [List.length_append] at this
      have : 3 = pre.length + (row :: post).length := this
      omega
    refine ⟨rfl, ?_⟩
    simp only [tFo, tIS, prD, wipeD, items_tup, items_lst, items_rng, tupleD, seqA_tup, seqA_lst, tSq, tIf', tTs, tO, tV, tK, tTr, truD, tNo, tAn, tOr', tAnV, tOrV', tNoV, tIfE, tN0, tCo, tTu, tLs, tCl, tFn, tMh, tRt, tRt0, tNx, tEx, tSe, tAs, gN, gS, gT, gsc, gs0, tU, i2_ii, i2c_ii, rNegD, intC, absD, minD, isD, eqi, eqs, eqb, nei, nes, neb, DL.rIsD, DL.rIsnD, addi, muli, tMe, tMe0, tBk, tCt, outD, EndsD.xk, startD, optP_some, List.map_cons, List.map_nil, List.length_cons, List.length_nil, List.cons_append, List.nil_append, List.append_nil, List.set_cons_zero, List.set_cons_succ, List.set_nil, List.getElem?_cons_zero, List.getElem?_cons_succ, List.replicate_succ, List.replicate_zero, Nat.zero_add, Nat.reduceAdd, Nat.reduceSub, decide_eq_true_eq, Bool.not_eq_true', decide_eq_false_iff_not]
    refine ⟨l0, ?_⟩
    refine r_loop np f4 ho (wrow row hr) C (fun _ => rfl) fun ps N' d7 d8 d9 d10 d11 d12 C' cp => ?_
    simp only [prD, wipeD, items_tup, items_lst, items_rng, tupleD, seqA_tup, seqA_lst, tSq, tIf', tTs, tO, tV, tK, tTr, truD, tNo, tAn, tOr', tAnV, tOrV', tNoV, tIfE, tN0, tCo, tTu, tLs, tCl, tFn, tMh, tRt, tRt0, tNx, tEx, tSe, tAs, gN, gS, gT, gsc, gs0, tU, i2_ii, i2c_ii, rNegD, intC, absD, minD, isD, eqi, eqs, eqb, nei, nes, neb, DL.rIsD, DL.rIsnD, addi, muli, tMe, tMe0, tBk, tCt, outD, EndsD.xk, startD, optP_some, List.map_cons, List.map_nil, List.length_cons, List.length_nil, List.cons_append, List.nil_append, List.append_nil, List.set_cons_zero, List.set_cons_succ, List.set_nil, List.getElem?_cons_zero, List.getElem?_cons_succ, List.replicate_succ, List.replicate_zero, Nat.zero_add, Nat.reduceAdd, Nat.reduceSub, decide_eq_true_eq, Bool.not_eq_true', decide_eq_false_iff_not]
    have few := pairs_few (m := f.length) (by omega) cp.nd cp.rg
    refine ⟨isLs_ref C'.at_, ps, rfl, by omega, fun q hq => ?_, fun qs hp' hs => ?_⟩
    · have z := cp.rg q hq
      unfold RgP at z
      unfold Bd2
      omega
    · show mAppD (.ref p) [D.lst (qs.map pD)] N' _
      rw [app_eq C'.at_]
      refine ⟨by rw [List.length_map, sizeLine_eq]; omega, hR _ _ ⟨rs ++ [qs], _, _, _, _, _, _, _, _, ⟨C'.ok.keep (put_ne np.1.symm) (put_ne np.2.symm), fun z z1 z2 z3 => by rw [put_ne z3, C'.off z z1 z2 z3], by rw [put_same, List.map_append]; rfl⟩, by rw [List.length_append, List.length_append, hlen]; rfl, fun r hr => ?_, rfl⟩⟩
      rcases List.mem_append.mp hr with hr | hr
      · exact hw r hr
      · rw [List.mem_singleton] at hr
        subst hr
        exact ⟨lt_of_sorted hp' cp.nd hs, fun q hq => cp.rg q (hp'.mem_iff.mp hq), by rw [hp'.length_eq]; omega⟩
end K15
namespace K15
open PySem PySem.Spec PyProof.Rows L2 DL
variable [B : Obs] {K : PySem.W.Frag} {mg : Str → Option Value} {P : Program} {ds : List D} {M : Md} {Q : VD} {X : XD}
theorem slice_from {d : D} {f : List Int} {x : Int} (h : ListAt M d f) (x0 : 0 ≤ x) (x1 : x ≤ f.length) (k : Q (.lst (iL (f.drop x.toNat))) M) : rSlD d (some x) none M Q := by
  have z := sl_from (M := M) (f := f) x0 x1 k
  obtain ⟨xs, h1, h2⟩ := z
  cases h1
  rcases h.cases' with rfl | ⟨a, rfl, e⟩
  · exact ⟨_, rfl, h2⟩
  · exact ⟨_, seqL_cell e, h2⟩
structure Ost (M N : Md) (st cs p : Addr) (g : Int) (fs : List Int) : Prop where
  ok : StOk N st cs
  off : ∀ a, a ≠ st → a ≠ cs → a ≠ p → N a = M a
  at_ : N p = some (.lst (iL fs))
  rg : ∀ y ∈ fs, 0 ≤ y ∧ y < g
  on : Onto fs g
theorem rgI_in {n v : Int} (v0 : 0 ≤ v) (v1 : v < n) : v ∈ rgI n := by
  unfold rgI
  exact List.mem_map.mpr ⟨v.toNat, List.mem_range.mpr (by omega), Int.toNat_of_nonneg v0⟩
theorem p__law_over (h : sp__law_over K ds M Q X) : t__law_over K (outD Q X) (startD N__law_over ds) M := by
  obtain ⟨st, cs, g, a, b, c, rfl, S, g1, g4, wa, wb, wc, h⟩ := h
  simp only [N__law_over, startD, List.map_cons, List.map_nil, List.length_cons, List.length_nil, Nat.zero_add, Nat.reduceAdd, Nat.reduceSub, List.replicate_succ, List.replicate_zero, List.cons_append, List.nil_append]
  unfold t__law_over
  refine tSq_step fun T hT => ?_
  simp only [wipeD, items_tup, items_lst, items_rng, tupleD, seqA_tup, seqA_lst, tSq, tIf', tTs, tO, tV, tK, tTr, truD, tNo, tAn, tOr', tAnV, tOrV', tNoV, tIfE, tN0, tCo, tTu, tLs, tCl, tFn, tMh, tRt, tRt0, tNx, tEx, tSe, tAs, gN, gS, gT, gsc, gs0, tU, i2_ii, i2c_ii, rNegD, intC, absD, minD, isD, eqi, eqs, eqb, nei, nes, neb, DL.rIsD, DL.rIsnD, addi, muli, tMe, tMe0, tBk, tCt, outD, EndsD.xk, startD, optP_some, List.map_cons, List.map_nil, List.length_cons, List.length_nil, List.cons_append, List.nil_append, List.append_nil, List.set_cons_zero, List.set_cons_succ, List.set_nil, List.getElem?_cons_zero, List.getElem?_cons_succ, List.replicate_succ, List.replicate_zero, Nat.zero_add, Nat.reduceAdd, Nat.reduceSub, decide_eq_true_eq, Bool.not_eq_true', decide_eq_false_iff_not]
  refine ⟨st, cs, 3, rfl, S, by decide, by decide, fun mode N1 m0 m1 o1 S => ?_⟩
  subst hT
  refine tSq_step fun T hT => ?_
  simp only [wipeD, items_tup, items_lst, items_rng, tupleD, seqA_tup, seqA_lst, tSq, tIf', tTs, tO, tV, tK, tTr, truD, tNo, tAn, tOr', tAnV, tOrV', tNoV, tIfE, tN0, tCo, tTu, tLs, tCl, tFn, tMh, tRt, tRt0, tNx, tEx, tSe, tAs, gN, gS, gT, gsc, gs0, tU, i2_ii, i2c_ii, rNegD, intC, absD, minD, isD, eqi, eqs, eqb, nei, nes, neb, DL.rIsD, DL.rIsnD, addi, muli, tMe, tMe0, tBk, tCt, outD, EndsD.xk, startD, optP_some, List.map_cons, List.map_nil, List.length_cons, List.length_nil, List.cons_append, List.nil_append, List.append_nil, List.set_cons_zero, List.set_cons_succ, List.set_nil, List.getElem?_cons_zero, List.getElem?_cons_succ, List.replicate_succ, List.replicate_zero, Nat.zero_add, Nat.reduceAdd, Nat.reduceSub, decide_eq_true_eq, Bool.not_eq_true', decide_eq_false_iff_not]
  refine ⟨st, cs, 5 - g, rfl, S, by omega, by omega, fun r N2 r0 r1 o2 S => ?_⟩
  simp only [wipeD, items_tup, items_lst, items_rng, tupleD, seqA_tup, seqA_lst, tSq, tIf', tTs, tO, tV, tK, tTr, truD, tNo, tAn, tOr', tAnV, tOrV', tNoV, tIfE, tN0, tCo, tTu, tLs, tCl, tFn, tMh, tRt, tRt0, tNx, tEx, tSe, tAs, gN, gS, gT, gsc, gs0, tU, i2_ii, i2c_ii, rNegD, intC, absD, minD, isD, eqi, eqs, eqb, nei, nes, neb, DL.rIsD, DL.rIsnD, addi, muli, tMe, tMe0, tBk, tCt, outD, EndsD.xk, startD, optP_some, List.map_cons, List.map_nil, List.length_cons, List.length_nil, List.cons_append, List.nil_append, List.append_nil, List.set_cons_zero, List.set_cons_succ, List.set_nil, List.getElem?_cons_zero, List.getElem?_cons_succ, List.replicate_succ, List.replicate_zero, Nat.zero_add, Nat.reduceAdd, Nat.reduceSub, decide_eq_true_eq, Bool.not_eq_true', decide_eq_false_iff_not]
  obtain ⟨n, hn⟩ : ∃ n, n = g + r := ⟨_, rfl⟩
  rw [← hn]
  subst hT
  refine tSq_step fun T hT => ?_
  simp only [tLsRg, wipeD, items_tup, items_lst, items_rng, tupleD, seqA_tup, seqA_lst, tSq, tIf', tTs, tO, tV, tK, tTr, truD, tNo, tAn, tOr', tAnV, tOrV', tNoV, tIfE, tN0, tCo, tTu, tLs, tCl, tFn, tMh, tRt, tRt0, tNx, tEx, tSe, tAs, gN, gS, gT, gsc, gs0, tU, i2_ii, i2c_ii, rNegD, intC, absD, minD, isD, eqi, eqs, eqb, nei, nes, neb, DL.rIsD, DL.rIsnD, addi, muli, tMe, tMe0, tBk, tCt, outD, EndsD.xk, startD, optP_some, List.map_cons, List.map_nil, List.length_cons, List.length_nil, List.cons_append, List.nil_append, List.append_nil, List.set_cons_zero, List.set_cons_succ, List.set_nil, List.getElem?_cons_zero, List.getElem?_cons_succ, List.replicate_succ, List.replicate_zero, Nat.zero_add, Nat.reduceAdd, Nat.reduceSub, decide_eq_true_eq, Bool.not_eq_true', decide_eq_false_iff_not, if_true]
  refine ⟨by omega, by omega, fun p hp => ?_⟩
  have np := S.not hp
  have mp : M p = none := ((o1.trans o2) p np.1 np.2).symm.trans hp
  have e0 : rgD g = iL (rgI g) := rg_map
  rw [e0]
  have O0 : Ost M (put N2 p (.lst (iL (rgI g)))) st cs p g (rgI g) := ⟨S.keep (put_ne np.1.symm) (put_ne np.2.symm), fun z z1 z2 z3 => by rw [put_ne z3, (o1.trans o2) z z1 z2], put_same, fun y hy => rgI_mem hy, fun v v0 v1 => rgI_in v0 v1⟩
  subst hT
  refine tSq_step fun T hT => ?_
  simp only [tFo, tIR2, wipeD, items_tup, items_lst, items_rng, tupleD, seqA_tup, seqA_lst, tSq, tIf', tTs, tO, tV, tK, tTr, truD, tNo, tAn, tOr', tAnV, tOrV', tNoV, tIfE, tN0, tCo, tTu, tLs, tCl, tFn, tMh, tRt, tRt0, tNx, tEx, tSe, tAs, gN, gS, gT, gsc, gs0, tU, i2_ii, i2c_ii, rNegD, intC, absD, minD, isD, eqi, eqs, eqb, nei, nes, neb, DL.rIsD, DL.rIsnD, addi, muli, tMe, tMe0, tBk, tCt, outD, EndsD.xk, startD, optP_some, List.map_cons, List.map_nil, List.length_cons, List.length_nil, List.cons_append, List.nil_append, List.append_nil, List.set_cons_zero, List.set_cons_succ, List.set_nil, List.getElem?_cons_zero, List.getElem?_cons_succ, List.replicate_succ, List.replicate_zero, Nat.zero_add, Nat.reduceAdd, Nat.reduceSub, decide_eq_true_eq, Bool.not_eq_true', decide_eq_false_iff_not]
  refine ⟨⟨by omega, by omega, by omega, by omega⟩, ?_⟩
  refine forGo_pre (α := Nat) (e := fun m => .int (g + ((m : Nat) : Int))) (l := List.range (n - g).toNat) (P := fun pre δ N => ∃ fs d6, Ost M N st cs p g fs ∧ fs.length = g.toNat + pre.length ∧ δ = [some (.ref st), some (.int g), some (.lst [prD a, prD b, prD c]), some (.int mode), some (.int n), some (.ref p), d6, none, none, none]) (fun δ N hi => ?_) (fun pre x post hl δ N hi R hR => ?_) ⟨rgI g, _, O0, by rw [rgI_len]; simp, rfl⟩
  · obtain ⟨fs, d6, O, hlen, rfl⟩ := hi
    rw [List.length_range] at hlen
    have hf : (fs.length : Int) = n := by omega
    refine ⟨trivial, ?_⟩
    subst hT
    try dsimp only
    refine tSq_step fun T hT => ?_
    simp only [wipeD, items_tup, items_lst, items_rng, tupleD, seqA_tup, seqA_lst, tSq, tIf', tTs, tO, tV, tK, tTr, truD, tNo, tAn, tOr', tAnV, tOrV', tNoV, tIfE, tN0, tCo, tTu, tLs, tCl, tFn, tMh, tRt, tRt0, tNx, tEx, tSe, tAs, gN, gS, gT, gsc, gs0, tU, i2_ii, i2c_ii, rNegD, intC, absD, minD, isD, eqi, eqs, eqb, nei, nes, neb, DL.rIsD, DL.rIsnD, addi, muli, tMe, tMe0, tBk, tCt, outD, EndsD.xk, startD, optP_some, List.map_cons, List.map_nil, List.length_cons, List.length_nil, List.cons_append, List.nil_append, List.append_nil, List.set_cons_zero, List.set_cons_succ, List.set_nil, List.getElem?_cons_zero, List.getElem?_cons_succ, List.replicate_succ, List.replicate_zero, Nat.zero_add, Nat.reduceAdd, Nat.reduceSub, decide_eq_true_eq, Bool.not_eq_true', decide_eq_false_iff_not]
    refine ⟨st, cs, n, rfl, O.ok, by omega, by omega, fun s N3 s0 s1 o3 S3 => ?_⟩
    have lp : ListAt N3 (.ref p) fs := ⟨seqL_cell (by rw [o3 p np.1 np.2, O.at_])⟩
    subst hT
    refine tSq_step fun T hT => ?_
    simp only [tSlc, tP0, tP1, wipeD, items_tup, items_lst, items_rng, tupleD, seqA_tup, seqA_lst, tSq, tIf', tTs, tO, tV, tK, tTr, truD, tNo, tAn, tOr', tAnV, tOrV', tNoV, tIfE, tN0, tCo, tTu, tLs, tCl, tFn, tMh, tRt, tRt0, tNx, tEx, tSe, tAs, gN, gS, gT, gsc, gs0, tU, i2_ii, i2c_ii, rNegD, intC, absD, minD, isD, eqi, eqs, eqb, nei, nes, neb, DL.rIsD, DL.rIsnD, addi, muli, tMe, tMe0, tBk, tCt, outD, EndsD.xk, startD, optP_some, List.map_cons, List.map_nil, List.length_cons, List.length_nil, List.cons_append, List.nil_append, List.append_nil, List.set_cons_zero, List.set_cons_succ, List.set_nil, List.getElem?_cons_zero, List.getElem?_cons_succ, List.replicate_succ, List.replicate_zero, Nat.zero_add, Nat.reduceAdd, Nat.reduceSub, decide_eq_true_eq, Bool.not_eq_true', decide_eq_false_iff_not]
    refine slice_from lp s0 (by omega) ?_
    refine slice_to lp s0 (by omega) ?_
    refine add_ints (by rw [List.length_drop, List.length_take]; omega) ?_
    obtain ⟨f, hfd⟩ : ∃ f, f = fs.drop s.toNat ++ fs.take s.toNat := ⟨_, rfl⟩
    rw [← hfd]
    have fm : ∀ y, y ∈ f ↔ y ∈ fs := fun y => by
      rw [hfd, List.mem_append, Or.comm, ← List.mem_append, List.take_append_drop]
    have fl : f.length = fs.length := by
      rw [hfd, List.length_append, List.length_drop, List.length_take]
      omega
    have fo : Onto f g := fun v v0 v1 => (fm v).mpr (O.on v v0 v1)
    have fr : ∀ y ∈ f, 0 ≤ y ∧ y < g := fun y hy => O.rg y ((fm y).mp hy)
    subst hT
    refine tSq_step fun T hT => ?_
    simp only [wipeD, items_tup, items_lst, items_rng, tupleD, seqA_tup, seqA_lst, tSq, tIf', tTs, tO, tV, tK, tTr, truD, tNo, tAn, tOr', tAnV, tOrV', tNoV, tIfE, tN0, tCo, tTu, tLs, tCl, tFn, tMh, tRt, tRt0, tNx, tEx, tSe, tAs, gN, gS, gT, gsc, gs0, tU, i2_ii, i2c_ii, rNegD, intC, absD, minD, isD, eqi, eqs, eqb, nei, nes, neb, DL.rIsD, DL.rIsnD, addi, muli, tMe, tMe0, tBk, tCt, outD, EndsD.xk, startD, optP_some, List.map_cons, List.map_nil, List.length_cons, List.length_nil, List.cons_append, List.nil_append, List.append_nil, List.set_cons_zero, List.set_cons_succ, List.set_nil, List.getElem?_cons_zero, List.getElem?_cons_succ, List.replicate_succ, List.replicate_zero, Nat.zero_add, Nat.reduceAdd, Nat.reduceSub, decide_eq_true_eq, Bool.not_eq_true', decide_eq_false_iff_not]
    refine ⟨st, cs, g, a, b, c, f, mode, rfl, S3, wa, wb, wc, g4, by omega, fo, fun a' b' c' N4 wa' wb' wc' o4 S4 => ?_⟩
    have fln : (f.length : Int) = n := by omega
    rw [fln] at wa' wb' wc'
    -- the end
    have fin : ∀ (f' : List Int) (a' b' c' : Prs) (N' : Md), (f'.length : Int) = n → (∀ y ∈ f', 0 ≤ y ∧ y < g) → WfP n a' → WfP n b' → WfP n c' → Off st cs N3 N' → StOk N' st cs → ∃ M' d', DL.Fin N' (.tup [.lst (iL f'), .tup [.int n, .lst [prD a', prD b', prD c']]]) M' d' ∧ Q d' M' := fun f' a' b' c' N' hl' hr wa' wb' wc' o S' => by
      refine ⟨cut N' p, _, .less fun z e he => ?_, h ⟨n, a', b', c'⟩ f' _ ⟨by show 1 ≤ n; omega, by show n ≤ 130; omega, wa', wb', wc'⟩ (by show n ≤ 4; omega) ⟨hl', hr⟩ (fun z z1 z2 => ?_) (S'.keep (cut_ne np.1.symm) (cut_ne np.2.symm))⟩
      · by_cases y : z = p
        · rw [y, cut_same] at he
          cases he
        · rw [cut_ne y] at he
          exact he
      · by_cases y : z = p
        · rw [y, cut_same, mp]
        · rw [cut_ne y, o z z1 z2, o3 z z1 z2, O.off z z1 z2 y]
    subst hT
    refine tSq_step fun T hT => ?_
    simp only [wipeD, items_tup, items_lst, items_rng, tupleD, seqA_tup, seqA_lst, tSq, tIf', tTs, tO, tV, tK, tTr, truD, tNo, tAn, tOr', tAnV, tOrV', tNoV, tIfE, tN0, tCo, tTu, tLs, tCl, tFn, tMh, tRt, tRt0, tNx, tEx, tSe, tAs, gN, gS, gT, gsc, gs0, tU, i2_ii, i2c_ii, rNegD, intC, absD, minD, isD, eqi, eqs, eqb, nei, nes, neb, DL.rIsD, DL.rIsnD, addi, muli, tMe, tMe0, tBk, tCt, outD, EndsD.xk, startD, optP_some, List.map_cons, List.map_nil, List.length_cons, List.length_nil, List.cons_append, List.nil_append, List.append_nil, List.set_cons_zero, List.set_cons_succ, List.set_nil, List.getElem?_cons_zero, List.getElem?_cons_succ, List.replicate_succ, List.replicate_zero, Nat.zero_add, Nat.reduceAdd, Nat.reduceSub, decide_eq_true_eq, Bool.not_eq_true', decide_eq_false_iff_not]
    by_cases q : mode = 0
    · rw [if_pos q]
      refine draws_F (R0 := fun y => ∃ ps, y = prD ps ∧ WfP n ps) (n := 3) S4 (fun R hR => hR) (by decide) (by decide) (fun x N5 S5 Q' hQ => ?_) (fun ys N5 hy hR o5 S5 => ?_)
      · simp only [wipeD, items_tup, items_lst, items_rng, tupleD, seqA_tup, seqA_lst, tSq, tIf', tTs, tO, tV, tK, tTr, truD, tNo, tAn, tOr', tAnV, tOrV', tNoV, tIfE, tN0, tCo, tTu, tLs, tCl, tFn, tMh, tRt, tRt0, tNx, tEx, tSe, tAs, gN, gS, gT, gsc, gs0, tU, i2_ii, i2c_ii, rNegD, intC, absD, minD, isD, eqi, eqs, eqb, nei, nes, neb, DL.rIsD, DL.rIsnD, addi, muli, tMe, tMe0, tBk, tCt, outD, EndsD.xk, startD, optP_some, List.map_cons, List.map_nil, List.length_cons, List.length_nil, List.cons_append, List.nil_append, List.append_nil, List.set_cons_zero, List.set_cons_succ, List.set_nil, List.getElem?_cons_zero, List.getElem?_cons_succ, List.replicate_succ, List.replicate_zero, Nat.zero_add, Nat.reduceAdd, Nat.reduceSub, decide_eq_true_eq, Bool.not_eq_true', decide_eq_false_iff_not]
        exact ⟨st, cs, n, rfl, S5, by omega, by omega, fun ps N6 wp o6 S6 => hQ _ _ ⟨ps, rfl, wp⟩ o6 S6⟩
      · try simp only [wipeD, items_tup, items_lst, items_rng, tupleD, seqA_tup, seqA_lst, tSq, tIf', tTs, tO, tV, tK, tTr, truD, tNo, tAn, tOr', tAnV, tOrV', tNoV, tIfE, tN0, tCo, tTu, tLs, tCl, tFn, tMh, tRt, tRt0, tNx, tEx, tSe, tAs, gN, gS, gT, gsc, gs0, tU, i2_ii, i2c_ii, rNegD, intC, absD, minD, isD, eqi, eqs, eqb, nei, nes, neb, DL.rIsD, DL.rIsnD, addi, muli, tMe, tMe0, tBk, tCt, outD, EndsD.xk, startD, optP_some, List.map_cons, List.map_nil, List.length_cons, List.length_nil, List.cons_append, List.nil_append, List.append_nil, List.set_cons_zero, List.set_cons_succ, List.set_nil, List.getElem?_cons_zero, List.getElem?_cons_succ, List.replicate_succ, List.replicate_zero, Nat.zero_add, Nat.reduceAdd, Nat.reduceSub, decide_eq_true_eq, Bool.not_eq_true', decide_eq_false_iff_not]
        refine draws_F (R0 := fun y => ∃ v, y = .int v ∧ (0 ≤ v ∧ v < g)) (n := n) S5 (fun R hR => hR) (by omega) (by omega) (fun x N6 S6 Q' hQ => ?_) (fun zs N6 hz hR2 o6 S6 => ?_)
        · simp only [wipeD, items_tup, items_lst, items_rng, tupleD, seqA_tup, seqA_lst, tSq, tIf', tTs, tO, tV, tK, tTr, truD, tNo, tAn, tOr', tAnV, tOrV', tNoV, tIfE, tN0, tCo, tTu, tLs, tCl, tFn, tMh, tRt, tRt0, tNx, tEx, tSe, tAs, gN, gS, gT, gsc, gs0, tU, i2_ii, i2c_ii, rNegD, intC, absD, minD, isD, eqi, eqs, eqb, nei, nes, neb, DL.rIsD, DL.rIsnD, addi, muli, tMe, tMe0, tBk, tCt, outD, EndsD.xk, startD, optP_some, List.map_cons, List.map_nil, List.length_cons, List.length_nil, List.cons_append, List.nil_append, List.append_nil, List.set_cons_zero, List.set_cons_succ, List.set_nil, List.getElem?_cons_zero, List.getElem?_cons_succ, List.replicate_succ, List.replicate_zero, Nat.zero_add, Nat.reduceAdd, Nat.reduceSub, decide_eq_true_eq, Bool.not_eq_true', decide_eq_false_iff_not]
          exact ⟨st, cs, g, rfl, S6, by omega, by omega, fun v N7 v0 v1 o7 S7 => hQ _ _ ⟨v, rfl, v0, v1⟩ o7 S7⟩
        · obtain ⟨f', rfl, hf'⟩ := ints_of hR2
          rw [iL_len] at hz
          subst hT
          try dsimp only
          simp only [wipeD, items_tup, items_lst, items_rng, tupleD, seqA_tup, seqA_lst, tSq, tIf', tTs, tO, tV, tK, tTr, truD, tNo, tAn, tOr', tAnV, tOrV', tNoV, tIfE, tN0, tCo, tTu, tLs, tCl, tFn, tMh, tRt, tRt0, tNx, tEx, tSe, tAs, gN, gS, gT, gsc, gs0, tU, i2_ii, i2c_ii, rNegD, intC, absD, minD, isD, eqi, eqs, eqb, nei, nes, neb, DL.rIsD, DL.rIsnD, addi, muli, tMe, tMe0, tBk, tCt, outD, EndsD.xk, startD, optP_some, List.map_cons, List.map_nil, List.length_cons, List.length_nil, List.cons_append, List.nil_append, List.append_nil, List.set_cons_zero, List.set_cons_succ, List.set_nil, List.getElem?_cons_zero, List.getElem?_cons_succ, List.replicate_succ, List.replicate_zero, Nat.zero_add, Nat.reduceAdd, Nat.reduceSub, decide_eq_true_eq, Bool.not_eq_true', decide_eq_false_iff_not]
          refine ⟨two, two, ?_⟩
          match ys, hy, hR with
          | [y1, y2, y3], _, hR =>
            obtain ⟨a2, rfl, wa2⟩ := hR y1 (by simp)
            obtain ⟨b2, rfl, wb2⟩ := hR y2 (by simp)
            obtain ⟨c2, rfl, wc2⟩ := hR y3 (by simp)
            exact fin f' a2 b2 c2 N6 (by omega) hf' wa2 wb2 wc2 (o4.trans (o5.trans o6)) S6
    · rw [if_neg q]
      subst hT
      try dsimp only
      simp only [wipeD, items_tup, items_lst, items_rng, tupleD, seqA_tup, seqA_lst, tSq, tIf', tTs, tO, tV, tK, tTr, truD, tNo, tAn, tOr', tAnV, tOrV', tNoV, tIfE, tN0, tCo, tTu, tLs, tCl, tFn, tMh, tRt, tRt0, tNx, tEx, tSe, tAs, gN, gS, gT, gsc, gs0, tU, i2_ii, i2c_ii, rNegD, intC, absD, minD, isD, eqi, eqs, eqb, nei, nes, neb, DL.rIsD, DL.rIsnD, addi, muli, tMe, tMe0, tBk, tCt, outD, EndsD.xk, startD, optP_some, List.map_cons, List.map_nil, List.length_cons, List.length_nil, List.cons_append, List.nil_append, List.append_nil, List.set_cons_zero, List.set_cons_succ, List.set_nil, List.getElem?_cons_zero, List.getElem?_cons_succ, List.replicate_succ, List.replicate_zero, Nat.zero_add, Nat.reduceAdd, Nat.reduceSub, decide_eq_true_eq, Bool.not_eq_true', decide_eq_false_iff_not]
      exact ⟨two, two, fin f a' b' c' N4 fln fr wa' wb' wc' o4 S4⟩
  · obtain ⟨fs, d6, O, hlen, rfl⟩ := hi
    have hpl : pre.length ≤ 4 := by
      have := congrArg List.length hl
      rw [List.length_range, List.length_append, List.length_cons] at this
      omega
    refine ⟨trivial, ?_⟩
    simp only [wipeD, items_tup, items_lst, items_rng, tupleD, seqA_tup, seqA_lst, tSq, tIf', tTs, tO, tV, tK, tTr, truD, tNo, tAn, tOr', tAnV, tOrV', tNoV, tIfE, tN0, tCo, tTu, tLs, tCl, tFn, tMh, tRt, tRt0, tNx, tEx, tSe, tAs, gN, gS, gT, gsc, gs0, tU, i2_ii, i2c_ii, rNegD, intC, absD, minD, isD, eqi, eqs, eqb, nei, nes, neb, DL.rIsD, DL.rIsnD, addi, muli, tMe, tMe0, tBk, tCt, outD, EndsD.xk, startD, optP_some, List.map_cons, List.map_nil, List.length_cons, List.length_nil, List.cons_append, List.nil_append, List.append_nil, List.set_cons_zero, List.set_cons_succ, List.set_nil, List.getElem?_cons_zero, List.getElem?_cons_succ, List.replicate_succ, List.replicate_zero, Nat.zero_add, Nat.reduceAdd, Nat.reduceSub, decide_eq_true_eq, Bool.not_eq_true', decide_eq_false_iff_not]
    refine ⟨isLs_ref O.at_, st, cs, g, rfl, O.ok, by omega, by omega, fun v N3 v0 v1 o3 S3 => ?_⟩
    have ap : N3 p = some (.lst (iL fs)) := by rw [o3 p np.1 np.2, O.at_]
    show mAppD (.ref p) [D.int v] N3 _
    rw [app_eq ap, app_ints]
    refine ⟨by rw [iL_len, sizeLine_eq]; omega, hR _ _ ⟨fs ++ [v], _, ⟨S3.keep (put_ne np.1.symm) (put_ne np.2.symm), fun z z1 z2 z3 => by rw [put_ne z3, o3 z z1 z2, O.off z z1 z2 z3], put_same, fun y hy => ?_, fun w w0 w1 => List.mem_append_left _ (O.on w w0 w1)⟩, by rw [List.length_append, List.length_append, hlen]; simp only [List.length_cons, List.length_nil]; omega, rfl⟩⟩
    rcases List.mem_append.mp hy with hy | hy
    · exact O.rg y hy
    · rw [List.mem_singleton] at hy
      rw [hy]
      exact ⟨v0, v1⟩
end K15
namespace K15
open PySem PySem.Spec PyProof.Rows L2 DL
variable [B : Obs] {K : PySem.W.Frag} {mg : Str → Option Value} {P : Program} {ds : List D} {M : Md} {Q : VD} {X : XD}
theorem fin_in {x : D} {n : Int} {w : Addr} {rows : List D} (h : M w = some (.lst rows)) : DL.Fin M (.tup [x, .tup [.int n, .ref w]]) (cut M w) (.tup [x, .tup [.int n, .lst rows]]) := ⟨fun {K F H v} l r => by
  cases r with
  | tup h1 r1 =>
    cases r1 with
    | cons rx r1 =>
      cases r1 with
      | cons r2 r1 =>
        cases r1
        cases r2 with
        | tup h2 r2 =>
          cases r2 with
          | cons ri r2 =>
            cases r2 with
            | cons rw_ r2 =>
              cases r2
              obtain ⟨G, g, l2, r3⟩ := (Fin.lst h).go l rw_
              exact ⟨G, g, l2, .tup (g.sqt h1) (.cons (rx.mono g) (.cons (.tup (g.sqt h2) (.cons (ri.mono g) (.cons r3 .nil))) .nil))⟩⟩
/-- an order of the first numbers -/
structure Ord (os : List Int) (k : Nat) : Prop where
  nd : os.Nodup
  len : os.length = k
  mem : ∀ y, y ∈ os ↔ 0 ≤ y ∧ y < k
theorem Ord.ins {os : List Int} {k : Nat} (h : Ord os k) (i : Nat) : Ord (os.take i ++ [(k : Int)] ++ os.drop i) (k + 1) := by
  have pm : (os.take i ++ [(k : Int)] ++ os.drop i).Perm ((k : Int) :: os) := by
    have e : os.take i ++ [(k : Int)] ++ os.drop i = os.take i ++ (k : Int) :: os.drop i := by rw [List.append_assoc]; rfl
    rw [e]
    refine List.perm_middle.trans ?_
    rw [List.take_append_drop]
  have hn : (k : Int) ∉ os := fun z => by
    have := (h.mem _).mp z
    omega
  refine ⟨pm.nodup_iff.mpr (List.nodup_cons.mpr ⟨hn, h.nd⟩), by rw [pm.length_eq, List.length_cons, h.len], fun y => ?_⟩
  rw [pm.mem_iff, List.mem_cons, h.mem]
  omega
theorem Ord.at_ {os : List Int} {k : Nat} (h : Ord os k) {y : Int} (y0 : 0 ≤ y) (y1 : y < k) : os[os.idxOf y]? = some y ∧ os.idxOf y < k := by
  have hm := (h.mem y).mpr ⟨y0, y1⟩
  have hl := List.idxOf_lt_length_of_mem hm
  refine ⟨?_, by rw [← h.len]; exact hl⟩
  rw [List.getElem?_eq_getElem hl, List.getElem_idxOf]
theorem Ord.inj {os : List Int} {k : Nat} (h : Ord os k) {x y : Int} (x0 : 0 ≤ x) (x1 : x < k) (y0 : 0 ≤ y) (y1 : y < k) (e : os.idxOf x = os.idxOf y) : x = y := by
  have a := (h.at_ x0 x1).1
  have b := (h.at_ y0 y1).1
  rw [e, b] at a
  exact (Option.some.inj a).symm
theorem idx_run {te : TEd} {tx : TEd} {Xd : XD} {δ : SD} {N : Md} {d : D} {os : List Int} {k : Nat} {y : Int} (ho : Ord os k) (hl : ListAt N d os) (h1 : ∀ Q : VD, Q d N → tx Xd δ N Q) (h2 : ∀ Q : VD, Q (.int y) N → te Xd δ N Q) (y0 : 0 ≤ y) (y1 : y < k) {R : VD} (h : R (.int (os.idxOf y : Nat)) N) : tIdx tx te Xd δ N R := by
  refine h1 _ ⟨.inl ⟨_, hl.l⟩, h2 _ ⟨os, y, os.idxOf y, rfl, hl.img.n, rfl, (ho.at_ y0 y1).1, fun m hm e => ?_, h⟩⟩
  obtain ⟨g1, g2⟩ := List.getElem?_eq_some_iff.mp e
  have q3 := List.not_of_lt_findIdx (p := fun z => z == y) (xs := os) hm
  rw [g2] at q3
  simp at q3
structure Rst (M N : Md) (st cs p w : Addr) (os : List Int) (k : Nat) (rs : List Prs) : Prop where
  ok : StOk N st cs
  off : ∀ a, a ≠ st → a ≠ cs → a ≠ p → a ≠ w → N a = M a
  po : N p = some (.lst (iL os))
  wo : N w = some (.lst (rs.map prD))
  ord : Ord os k
def mapP (os : List Int) (q : Int × Int) : Int × Int := (((os.idxOf q.1 : Nat) : Int), ((os.idxOf q.2 : Nat) : Int))
theorem p__law_renumbered (h : sp__law_renumbered K ds M Q X) : t__law_renumbered K (outD Q X) (startD N__law_renumbered ds) M := by
  obtain ⟨st, cs, F, rfl, S, wf, n4, h⟩ := h
  have lo := wf.lo
  obtain ⟨k, hk⟩ : ∃ k : Nat, F.n = (k : Int) := ⟨F.n.toNat, by omega⟩
  have l0 : 0 ≤ sizeLine := Nat.zero_le _
  simp only [N__law_renumbered, startD, List.map_cons, List.map_nil, List.length_cons, List.length_nil, Nat.zero_add, Nat.reduceAdd, Nat.reduceSub, List.replicate_succ, List.replicate_zero, List.cons_append, List.nil_append]
  unfold t__law_renumbered
  refine tSq_step fun T hT => ?_
  simp only [tLsM, wipeD, items_tup, items_lst, items_rng, tupleD, seqA_tup, seqA_lst, tSq, tIf', tTs, tO, tV, tK, tTr, truD, tNo, tAn, tOr', tAnV, tOrV', tNoV, tIfE, tN0, tCo, tTu, tLs, tCl, tFn, tMh, tRt, tRt0, tNx, tEx, tSe, tAs, gN, gS, gT, gsc, gs0, tU, i2_ii, i2c_ii, rNegD, intC, absD, minD, isD, eqi, eqs, eqb, nei, nes, neb, DL.rIsD, DL.rIsnD, addi, muli, tMe, tMe0, tBk, tCt, outD, EndsD.xk, startD, optP_some, List.map_cons, List.map_nil, List.length_cons, List.length_nil, List.cons_append, List.nil_append, List.append_nil, List.set_cons_zero, List.set_cons_succ, List.set_nil, List.getElem?_cons_zero, List.getElem?_cons_succ, List.replicate_succ, List.replicate_zero, Nat.zero_add, Nat.reduceAdd, Nat.reduceSub, decide_eq_true_eq, Bool.not_eq_true', decide_eq_false_iff_not]
  refine ⟨l0, fun p hp => ?_⟩
  have np := S.not hp
  subst hT
  refine tSq_step fun T hT => ?_
  simp only [tFo, tIR1, worldD, wipeD, items_tup, items_lst, items_rng, tupleD, seqA_tup, seqA_lst, tSq, tIf', tTs, tO, tV, tK, tTr, truD, tNo, tAn, tOr', tAnV, tOrV', tNoV, tIfE, tN0, tCo, tTu, tLs, tCl, tFn, tMh, tRt, tRt0, tNx, tEx, tSe, tAs, gN, gS, gT, gsc, gs0, tU, i2_ii, i2c_ii, rNegD, intC, absD, minD, isD, eqi, eqs, eqb, nei, nes, neb, DL.rIsD, DL.rIsnD, addi, muli, tMe, tMe0, tBk, tCt, outD, EndsD.xk, startD, optP_some, List.map_cons, List.map_nil, List.length_cons, List.length_nil, List.cons_append, List.nil_append, List.append_nil, List.set_cons_zero, List.set_cons_succ, List.set_nil, List.getElem?_cons_zero, List.getElem?_cons_succ, List.replicate_succ, List.replicate_zero, Nat.zero_add, Nat.reduceAdd, Nat.reduceSub, decide_eq_true_eq, Bool.not_eq_true', decide_eq_false_iff_not, rIx_tup, atI_0, rg_map]
  refine ⟨⟨by omega, by omega⟩, ?_⟩
  refine forGo_pre (α := Int) (e := .int) (l := rgI F.n) (P := fun pre δ N => ∃ os d3, (StOk N st cs ∧ (∀ a, a ≠ st → a ≠ cs → a ≠ p → N a = M a) ∧ N p = some (.lst (iL os)) ∧ Ord os pre.length) ∧ δ = [some (.ref st), some (.tup [.int F.n, waysD3 F]), some (.ref p), d3, none, none, none, none, none]) (fun δ N hi => ?_) (fun pre x post hl δ N hi R hR => ?_)
    ⟨[], _, ⟨S.keep (put_ne np.1.symm) (put_ne np.2.symm), fun a _ _ ha => put_ne ha, put_same, .nil, rfl, fun y => ⟨(fun z => by cases z), (fun z => by
      have h1 := z.1
      have h2 : y < ((0 : Nat) : Int) := z.2
      omega)⟩⟩, rfl⟩
  · obtain ⟨os, d3, ⟨S1, off1, po1, ord⟩, rfl⟩ := hi
    rw [rgI_len, hk, Int.toNat_natCast] at ord
    refine ⟨trivial, ?_⟩
    subst hT
    try dsimp only
    refine tSq_step fun T hT => ?_
    simp only [tLsM, wipeD, items_tup, items_lst, items_rng, tupleD, seqA_tup, seqA_lst, tSq, tIf', tTs, tO, tV, tK, tTr, truD, tNo, tAn, tOr', tAnV, tOrV', tNoV, tIfE, tN0, tCo, tTu, tLs, tCl, tFn, tMh, tRt, tRt0, tNx, tEx, tSe, tAs, gN, gS, gT, gsc, gs0, tU, i2_ii, i2c_ii, rNegD, intC, absD, minD, isD, eqi, eqs, eqb, nei, nes, neb, DL.rIsD, DL.rIsnD, addi, muli, tMe, tMe0, tBk, tCt, outD, EndsD.xk, startD, optP_some, List.map_cons, List.map_nil, List.length_cons, List.length_nil, List.cons_append, List.nil_append, List.append_nil, List.set_cons_zero, List.set_cons_succ, List.set_nil, List.getElem?_cons_zero, List.getElem?_cons_succ, List.replicate_succ, List.replicate_zero, Nat.zero_add, Nat.reduceAdd, Nat.reduceSub, decide_eq_true_eq, Bool.not_eq_true', decide_eq_false_iff_not]
    refine ⟨l0, fun w hw => ?_⟩
    have nw := S1.not hw
    have wp : w ≠ p := fun z => by
      rw [z, po1] at hw
      cases hw
    have mw : M w = none := by
      rw [← off1 w nw.1 nw.2 wp]
      exact hw
    subst hT
    refine tSq_step fun T hT => ?_
    simp only [tFo, tIS, waysD3, wipeD, items_tup, items_lst, items_rng, tupleD, seqA_tup, seqA_lst, tSq, tIf', tTs, tO, tV, tK, tTr, truD, tNo, tAn, tOr', tAnV, tOrV', tNoV, tIfE, tN0, tCo, tTu, tLs, tCl, tFn, tMh, tRt, tRt0, tNx, tEx, tSe, tAs, gN, gS, gT, gsc, gs0, tU, i2_ii, i2c_ii, rNegD, intC, absD, minD, isD, eqi, eqs, eqb, nei, nes, neb, DL.rIsD, DL.rIsnD, addi, muli, tMe, tMe0, tBk, tCt, outD, EndsD.xk, startD, optP_some, List.map_cons, List.map_nil, List.length_cons, List.length_nil, List.cons_append, List.nil_append, List.append_nil, List.set_cons_zero, List.set_cons_succ, List.set_nil, List.getElem?_cons_zero, List.getElem?_cons_succ, List.replicate_succ, List.replicate_zero, Nat.zero_add, Nat.reduceAdd, Nat.reduceSub, decide_eq_true_eq, Bool.not_eq_true', decide_eq_false_iff_not, rIx_tup, atI_1]
    have wrow : ∀ r ∈ [F.a, F.b, F.c], WfP F.n r := by
      intro r hr
      rcases List.mem_cons.mp hr with e | hr
      · rw [e]; exact wf.a
      · rcases List.mem_cons.mp hr with e | hr
        · rw [e]; exact wf.b
        · rcases List.mem_cons.mp hr with e | hr
          · rw [e]; exact wf.c
          · cases hr
    refine forGo_pre (α := Prs) (e := prD) (l := [F.a, F.b, F.c]) (P := fun pre δ N => ∃ (rs : List Prs) (d3 d5 d6 d7 d8 : Option D), Rst M N st cs p w os k rs ∧ rs.length = pre.length ∧ (∀ r ∈ rs, WfP F.n r) ∧ δ = [some (.ref st), some (.tup [.int F.n, waysD3 F]), some (.ref p), d3, some (.ref w), d5, d6, d7, d8]) (fun δ N hi => ?_) (fun pre row post hl δ N hi R hR => ?_)
      ⟨[], _, _, _, _, _, ⟨S1.keep (put_ne nw.1.symm) (put_ne nw.2.symm), fun a a1 a2 a3 a4 => by rw [put_ne a4, off1 a a1 a2 a3], by rw [put_ne wp.symm, po1], put_same, ord⟩, rfl, (fun r hr => by cases hr), rfl⟩
    · obtain ⟨rs, d3, d5, d6, d7, d8, C, hlen, hw', rfl⟩ := hi
      refine ⟨rfl, ?_⟩
      subst hT
      try dsimp only
      refine tSq_step fun T hT => ?_
      refine tLcF_rng1 (n := F.n) (f := fun x => .int (os.idxOf x : Nat)) (fun R hR => ?_) (by omega) (by omega) (fun x x0 x1 p' c' hp' Q' hQ => ?_) ?_
      · simp only [wipeD, items_tup, items_lst, items_rng, tupleD, seqA_tup, seqA_lst, tSq, tIf', tTs, tO, tV, tK, tTr, truD, tNo, tAn, tOr', tAnV, tOrV', tNoV, tIfE, tN0, tCo, tTu, tLs, tCl, tFn, tMh, tRt, tRt0, tNx, tEx, tSe, tAs, gN, gS, gT, gsc, gs0, tU, i2_ii, i2c_ii, rNegD, intC, absD, minD, isD, eqi, eqs, eqb, nei, nes, neb, DL.rIsD, DL.rIsnD, addi, muli, tMe, tMe0, tBk, tCt, outD, EndsD.xk, startD, optP_some, List.map_cons, List.map_nil, List.length_cons, List.length_nil, List.cons_append, List.nil_append, List.append_nil, List.set_cons_zero, List.set_cons_succ, List.set_nil, List.getElem?_cons_zero, List.getElem?_cons_succ, List.replicate_succ, List.replicate_zero, Nat.zero_add, Nat.reduceAdd, Nat.reduceSub, decide_eq_true_eq, Bool.not_eq_true', decide_eq_false_iff_not, rIx_tup, atI_0]
        exact hR
      · have pp : p ≠ p' := fun z => by
          rw [← z, C.po] at hp'
          cases hp'
        exact idx_run C.ord (d := .ref p) ⟨seqL_cell (by rw [put_ne pp, C.po])⟩ (fun _ h => h) (fun _ h => h) x0 (by omega) hQ
      · have em : ((rgI F.n).map fun x => D.int (os.idxOf x : Nat)) = iL ((rgI F.n).map fun x => ((os.idxOf x : Nat) : Int)) := by
          unfold iL
          rw [List.map_map]
          rfl
        rw [em]
        subst hT
        simp only [wipeD, items_tup, items_lst, items_rng, tupleD, seqA_tup, seqA_lst, tSq, tIf', tTs, tO, tV, tK, tTr, truD, tNo, tAn, tOr', tAnV, tOrV', tNoV, tIfE, tN0, tCo, tTu, tLs, tCl, tFn, tMh, tRt, tRt0, tNx, tEx, tSe, tAs, gN, gS, gT, gsc, gs0, tU, i2_ii, i2c_ii, rNegD, intC, absD, minD, isD, eqi, eqs, eqb, nei, nes, neb, DL.rIsD, DL.rIsnD, addi, muli, tMe, tMe0, tBk, tCt, outD, EndsD.xk, startD, optP_some, List.map_cons, List.map_nil, List.length_cons, List.length_nil, List.cons_append, List.nil_append, List.append_nil, List.set_cons_zero, List.set_cons_succ, List.set_nil, List.getElem?_cons_zero, List.getElem?_cons_succ, List.replicate_succ, List.replicate_zero, Nat.zero_add, Nat.reduceAdd, Nat.reduceSub, decide_eq_true_eq, Bool.not_eq_true', decide_eq_false_iff_not, rIx_tup, atI_0]
        refine ⟨two, two, ?_⟩
        match rs, hlen, hw', C with
        | [a', b', c'], _, hw', C =>
          refine ⟨cut (cut N w) p, _, .trans (fin_in C.wo) (.less fun z e he => ?_), h ⟨F.n, a', b', c'⟩ _ _ ⟨wf.lo, wf.hi, hw' _ (by simp), hw' _ (by simp), hw' _ (by simp)⟩ rfl ⟨by rw [List.length_map, rgI_len]; omega, fun y hy => ?_⟩ (fun z z1 z2 => ?_) (C.ok.keep ?_ ?_)⟩
          · by_cases zp : z = p
            · rw [zp, cut_same] at he
              cases he
            · rw [cut_ne zp] at he
              exact he
          · obtain ⟨x, hx, rfl⟩ := List.mem_map.mp hy
            have bx := rgI_mem hx
            have := (C.ord.at_ bx.1 (by omega)).2
            show 0 ≤ ((os.idxOf x : Nat) : Int) ∧ ((os.idxOf x : Nat) : Int) < F.n
            omega
          · by_cases zp : z = p
            · rw [zp, cut_same, hp]
            · rw [cut_ne zp]
              by_cases zw : z = w
              · rw [zw, cut_same, mw]
              · rw [cut_ne zw, C.off z z1 z2 zp zw]
          · rw [cut_ne np.1.symm, cut_ne nw.1.symm]
          · rw [cut_ne np.2.symm, cut_ne nw.2.symm]
    · obtain ⟨rs, d3, d5, d6, d7, d8, C, hlen, hw', rfl⟩ := hi
      have wr := wrow row (by rw [hl]; exact List.mem_append_right _ List.mem_cons_self)
      have hpl : pre.length ≤ 3 := by
        have := congrArg List.length hl
        rw [List.length_append] at this
        have : 3 = pre.length + (row :: post).length := this
        omega
      refine ⟨rfl, ?_⟩
      simp only [wipeD, items_tup, items_lst, items_rng, tupleD, seqA_tup, seqA_lst, tSq, tIf', tTs, tO, tV, tK, tTr, truD, tNo, tAn, tOr', tAnV, tOrV', tNoV, tIfE, tN0, tCo, tTu, tLs, tCl, tFn, tMh, tRt, tRt0, tNx, tEx, tSe, tAs, gN, gS, gT, gsc, gs0, tU, i2_ii, i2c_ii, rNegD, intC, absD, minD, isD, eqi, eqs, eqb, nei, nes, neb, DL.rIsD, DL.rIsnD, addi, muli, tMe, tMe0, tBk, tCt, outD, EndsD.xk, startD, optP_some, List.map_cons, List.map_nil, List.length_cons, List.length_nil, List.cons_append, List.nil_append, List.append_nil, List.set_cons_zero, List.set_cons_succ, List.set_nil, List.getElem?_cons_zero, List.getElem?_cons_succ, List.replicate_succ, List.replicate_zero, Nat.zero_add, Nat.reduceAdd, Nat.reduceSub, decide_eq_true_eq, Bool.not_eq_true', decide_eq_false_iff_not]
      refine tLcF_put (t := .many [3, 7]) (d0 := prD row) (l := row) (e := pD) (f := fun q => pD (mapP os q)) (δ2 := fun q => [some (.ref st), some (.tup [.int F.n, waysD3 F]), some (.ref p), some (.int q.1), some (.ref w), some (prD row), d6, some (.int q.2), d8]) (fun _ h => h) rfl (by have := wr.sz; rw [sizeLine_eq]; omega) (fun q _ => rfl) (fun q hq p' c' hp' Q' hQ => ?_) ?_
      · obtain ⟨⟨x0, x1⟩, y0, y1⟩ := wr.rg q hq
        have pp : p ≠ p' := fun z => by
          rw [← z, C.po] at hp'
          cases hp'
        have la : ListAt (put N p' c') (.ref p) os := ⟨seqL_cell (by rw [put_ne pp, C.po])⟩
        simp only [tTu, tCo, tN0]
        refine idx_run C.ord la (fun _ h => h) (fun _ h => h) x0 (by omega) ?_
        refine idx_run C.ord la (fun _ h => h) (fun _ h => h) y0 (by omega) ?_
        exact ⟨two, hQ⟩
      · have em : (row.map fun q => pD (mapP os q)) = (row.map (mapP os)).map pD := by rw [List.map_map]; rfl
        rw [em]
        try simp only [wipeD, items_tup, items_lst, items_rng, tupleD, seqA_tup, seqA_lst, tSq, tIf', tTs, tO, tV, tK, tTr, truD, tNo, tAn, tOr', tAnV, tOrV', tNoV, tIfE, tN0, tCo, tTu, tLs, tCl, tFn, tMh, tRt, tRt0, tNx, tEx, tSe, tAs, gN, gS, gT, gsc, gs0, tU, i2_ii, i2c_ii, rNegD, intC, absD, minD, isD, eqi, eqs, eqb, nei, nes, neb, DL.rIsD, DL.rIsnD, addi, muli, tMe, tMe0, tBk, tCt, outD, EndsD.xk, startD, optP_some, List.map_cons, List.map_nil, List.length_cons, List.length_nil, List.cons_append, List.nil_append, List.append_nil, List.set_cons_zero, List.set_cons_succ, List.set_nil, List.getElem?_cons_zero, List.getElem?_cons_succ, List.replicate_succ, List.replicate_zero, Nat.zero_add, Nat.reduceAdd, Nat.reduceSub, decide_eq_true_eq, Bool.not_eq_true', decide_eq_false_iff_not]
        have rg : ∀ q ∈ row.map (mapP os), RgP F.n q := fun q hq => by
          obtain ⟨z, hz, rfl⟩ := List.mem_map.mp hq
          obtain ⟨⟨x0, x1⟩, y0, y1⟩ := wr.rg z hz
          have a := (C.ord.at_ x0 (by omega)).2
          have b := (C.ord.at_ y0 (by omega)).2
          unfold RgP mapP
          dsimp only
          omega
        have nd : (row.map (mapP os)).Nodup := by
          refine List.pairwise_map.mpr (wr.srt.imp_of_mem fun {a b} ha hb hlt e => ?_)
          obtain ⟨⟨a0, a1⟩, a2, a3⟩ := wr.rg a ha
          obtain ⟨⟨b0, b1⟩, b2, b3⟩ := wr.rg b hb
          have e1 := congrArg Prod.fst e
          have e2 := congrArg Prod.snd e
          have g1 := C.ord.inj a0 (by omega) b0 (by omega) (Int.ofNat.inj e1)
          have g2 := C.ord.inj a2 (by omega) b2 (by omega) (Int.ofNat.inj e2)
          unfold ltI at hlt
          omega
        have few := pairs_few (m := F.n) (by omega) nd rg
        refine ⟨isLs_ref C.wo, row.map (mapP os), rfl, by omega, fun q hq => ?_, fun qs hp' hs => ?_⟩
        · have z := rg q hq
          unfold RgP at z
          unfold Bd2
          omega
        · show mAppD (.ref w) [D.lst (qs.map pD)] N _
          rw [app_eq C.wo]
          refine ⟨by rw [List.length_map, sizeLine_eq]; omega, hR _ _ ⟨rs ++ [qs], _, _, _, _, _, ⟨C.ok.keep (put_ne nw.1.symm) (put_ne nw.2.symm), fun z z1 z2 z3 z4 => by rw [put_ne z4, C.off z z1 z2 z3 z4], by rw [put_ne wp.symm, C.po], by rw [put_same, List.map_append]; rfl, C.ord⟩, by rw [List.length_append, List.length_append, hlen]; rfl, fun r hr => ?_, rfl⟩⟩
          rcases List.mem_append.mp hr with hr | hr
          · exact hw' r hr
          · rw [List.mem_singleton] at hr
            subst hr
            exact ⟨lt_of_sorted hp' nd hs, fun q hq => rg q (hp'.mem_iff.mp hq), by rw [hp'.length_eq]; omega⟩
  · obtain ⟨os, d3, ⟨S1, off1, po1, ord⟩, rfl⟩ := hi
    have hx : x = ((pre.length : Nat) : Int) := by
      have e : (rgI F.n)[pre.length]? = some x := by
        rw [hl, List.getElem?_append_right (Nat.le_refl _), Nat.sub_self]
        rfl
      have hlt : pre.length < F.n.toNat := by
        have := (List.getElem?_eq_some_iff.mp e).1
        rw [rgI_len] at this
        exact this
      rw [rgI_get hlt] at e
      exact (Option.some.inj e).symm
    have hb : pre.length < F.n.toNat := by
      have := congrArg List.length hl
      rw [rgI_len, List.length_append, List.length_cons] at this
      omega
    refine ⟨trivial, ?_⟩
    simp only [wipeD, items_tup, items_lst, items_rng, tupleD, seqA_tup, seqA_lst, tSq, tIf', tTs, tO, tV, tK, tTr, truD, tNo, tAn, tOr', tAnV, tOrV', tNoV, tIfE, tN0, tCo, tTu, tLs, tCl, tFn, tMh, tRt, tRt0, tNx, tEx, tSe, tAs, gN, gS, gT, gsc, gs0, tU, i2_ii, i2c_ii, rNegD, intC, absD, minD, isD, eqi, eqs, eqb, nei, nes, neb, DL.rIsD, DL.rIsnD, addi, muli, tMe, tMe0, tBk, tCt, outD, EndsD.xk, startD, optP_some, List.map_cons, List.map_nil, List.length_cons, List.length_nil, List.cons_append, List.nil_append, List.append_nil, List.set_cons_zero, List.set_cons_succ, List.set_nil, List.getElem?_cons_zero, List.getElem?_cons_succ, List.replicate_succ, List.replicate_zero, Nat.zero_add, Nat.reduceAdd, Nat.reduceSub, decide_eq_true_eq, Bool.not_eq_true', decide_eq_false_iff_not]
    refine ⟨isLs_ref po1, st, cs, x + 1, rfl, S1, by omega, by omega, fun r N2 r0 r1 o2 S2 => ?_⟩
    have po2 : N2 p = some (.lst (iL os)) := by rw [o2 p np.1 np.2, po1]
    have pl := ord.len
    show mInsD (.ref p) [D.int r, D.int x] N2 _
    rw [ins_eq po2]
    have ei : (iL os).take r.toNat ++ [D.int x] ++ (iL os).drop r.toNat = iL (os.take r.toNat ++ [x] ++ os.drop r.toNat) := by
      unfold iL
      rw [List.map_append, List.map_append, List.map_take, List.map_drop]
      rfl
    rw [ei]
    refine ⟨⟨by rw [iL_len, sizeLine_eq]; omega, r0, by omega⟩, hR _ _ ⟨_, _, ⟨S2.keep (put_ne np.1.symm) (put_ne np.2.symm), fun a a1 a2 a3 => by rw [put_ne a3, o2 a a1 a2, off1 a a1 a2 a3], put_same, ?_⟩, rfl⟩⟩
    rw [List.length_append, List.length_cons, List.length_nil, hx]
    exact ord.ins _
end K15
namespace K15
open PySem PySem.Spec PyProof.Rows L2 DL
variable [B : Obs] {K : PySem.W.Frag} {mg : Str → Option Value} {P : Program} {ds : List D} {M : Md} {Q : VD} {X : XD}
def ring (n : Int) : Prs := (rgI n).map fun x => (x, (x + 1) % n)
theorem rgI_asc (n : Int) : (rgI n).Pairwise (· < ·) := by
  unfold rgI
  refine List.pairwise_map.mpr ((List.pairwise_lt_range (n := n.toNat)).imp fun {a b} h => by omega)
theorem wf_ring {n : Int} (h1 : 1 ≤ n) (h2 : n ≤ 130) : WfP n (ring n) := by
  refine ⟨List.pairwise_map.mpr ((rgI_asc n).imp fun {a b} h => .inl h), fun q hq => ?_, by rw [ring, List.length_map, rgI_len]; omega⟩
  obtain ⟨x, hx, rfl⟩ := List.mem_map.mp hq
  exact ⟨rgI_mem hx, Int.emod_nonneg _ (by omega), Int.emod_lt_of_pos _ (by omega)⟩
theorem ring_comp {l : Nat} {n : Int} {Xd : XD} {δ : SD} {N : Md} (h1 : 1 ≤ n) (h2 : n ≤ 130) (hv : δ[l]? = some (some (.int n))) (hl : l ≠ 4) (h8 : δ.length = 8) {R : VD} (h : R (prD (ring n)) N) :
    tLcF (.one 4) (tIR1 (tCo (tV l) tN0)) tYs (tTu (tCo (tV 4) (tCo (tO rModD (tCl intC (tCo (tO rAddD (tV 4) (tK (.int 1))) tN0)) (tV l)) tN0))) [4] Xd δ N R := by
  refine tLcF_rng1 (n := n) (f := fun x => pD (x, (x + 1) % n)) (fun Q' hQ => ?_) (by omega) (by omega) (fun x x0 x1 p c hp Q' hQ => ?_) ?_
  · show tV l Xd δ N _
    unfold tV
    rw [hv]
    exact hQ
  · have e4 : ((wipeD δ [4]).set 4 (some (.int x)))[4]? = some (some (.int x)) := by
      rw [List.getElem?_set_self]
      show 4 < (δ.set 4 none).length
      rw [List.length_set, h8]
      omega
    have el : ((wipeD δ [4]).set 4 (some (.int x)))[l]? = some (some (.int n)) := by
      rw [List.getElem?_set_ne (Ne.symm hl)]
      show (δ.set 4 none)[l]? = _
      rw [List.getElem?_set_ne (Ne.symm hl), hv]
    simp only [tTu, tCo, tN0, tO, tV, tK, tCl, e4, el, addi, intC, i2c_ii, List.length_cons, List.length_nil, Nat.zero_add, Nat.reduceAdd]
    exact ⟨by omega, two, hQ⟩
  · have em : ((rgI n).map fun x => pD (x, (x + 1) % n)) = (ring n).map pD := by
      unfold ring
      rw [List.map_map]
      rfl
    rw [em]
    exact h
theorem p__law_rings (h : sp__law_rings K ds M Q X) : t__law_rings K (outD Q X) (startD N__law_rings ds) M := by
  obtain ⟨st, cs, rfl, S, h⟩ := h
  have l0 : 0 ≤ sizeLine := Nat.zero_le _
  have l3 : 3 ≤ sizeLine := by rw [sizeLine_eq]; decide
  simp only [N__law_rings, startD, List.map_cons, List.map_nil, List.length_cons, List.length_nil, Nat.zero_add, Nat.reduceAdd, Nat.reduceSub, List.replicate_succ, List.replicate_zero, List.cons_append, List.nil_append]
  unfold t__law_rings
  refine tSq_step fun T hT => ?_
  simp only [wipeD, items_tup, items_lst, items_rng, tupleD, seqA_tup, seqA_lst, tSq, tIf', tTs, tO, tV, tK, tTr, truD, tNo, tAn, tOr', tAnV, tOrV', tNoV, tIfE, tN0, tCo, tTu, tLs, tCl, tFn, tMh, tRt, tRt0, tNx, tEx, tSe, tAs, gN, gS, gT, gsc, gs0, tU, i2_ii, i2c_ii, rNegD, intC, absD, minD, isD, eqi, eqs, eqb, nei, nes, neb, DL.rIsD, DL.rIsnD, addi, muli, tMe, tMe0, tBk, tCt, outD, EndsD.xk, startD, optP_some, List.map_cons, List.map_nil, List.length_cons, List.length_nil, List.cons_append, List.nil_append, List.append_nil, List.set_cons_zero, List.set_cons_succ, List.set_nil, List.getElem?_cons_zero, List.getElem?_cons_succ, List.replicate_succ, List.replicate_zero, Nat.zero_add, Nat.reduceAdd, Nat.reduceSub, decide_eq_true_eq, Bool.not_eq_true', decide_eq_false_iff_not]
  refine ⟨st, cs, 6, rfl, S, by decide, by decide, fun r N1 r0 r1 o1 S => ?_⟩
  simp only [wipeD, items_tup, items_lst, items_rng, tupleD, seqA_tup, seqA_lst, tSq, tIf', tTs, tO, tV, tK, tTr, truD, tNo, tAn, tOr', tAnV, tOrV', tNoV, tIfE, tN0, tCo, tTu, tLs, tCl, tFn, tMh, tRt, tRt0, tNx, tEx, tSe, tAs, gN, gS, gT, gsc, gs0, tU, i2_ii, i2c_ii, rNegD, intC, absD, minD, isD, eqi, eqs, eqb, nei, nes, neb, DL.rIsD, DL.rIsnD, addi, muli, tMe, tMe0, tBk, tCt, outD, EndsD.xk, startD, optP_some, List.map_cons, List.map_nil, List.length_cons, List.length_nil, List.cons_append, List.nil_append, List.append_nil, List.set_cons_zero, List.set_cons_succ, List.set_nil, List.getElem?_cons_zero, List.getElem?_cons_succ, List.replicate_succ, List.replicate_zero, Nat.zero_add, Nat.reduceAdd, Nat.reduceSub, decide_eq_true_eq, Bool.not_eq_true', decide_eq_false_iff_not]
  obtain ⟨g, hg⟩ : ∃ g, g = 1 + r := ⟨_, rfl⟩
  rw [← hg]
  have g1 : 1 ≤ g := by omega
  have g6 : g ≤ 6 := by omega
  have g130 : g ≤ 130 := by omega
  have c6 : g = 1 ∨ g = 2 ∨ g = 3 ∨ g = 4 ∨ g = 5 ∨ g = 6 := by omega
  have q1 : 0 < 130 / g ∧ 130 / g < 1000000 := by rcases c6 with rfl | rfl | rfl | rfl | rfl | rfl <;> decide
  subst hT
  refine tSq_step fun T hT => ?_
  simp only [wipeD, items_tup, items_lst, items_rng, tupleD, seqA_tup, seqA_lst, tSq, tIf', tTs, tO, tV, tK, tTr, truD, tNo, tAn, tOr', tAnV, tOrV', tNoV, tIfE, tN0, tCo, tTu, tLs, tCl, tFn, tMh, tRt, tRt0, tNx, tEx, tSe, tAs, gN, gS, gT, gsc, gs0, tU, i2_ii, i2c_ii, rNegD, intC, absD, minD, isD, eqi, eqs, eqb, nei, nes, neb, DL.rIsD, DL.rIsnD, addi, muli, tMe, tMe0, tBk, tCt, outD, EndsD.xk, startD, optP_some, List.map_cons, List.map_nil, List.length_cons, List.length_nil, List.cons_append, List.nil_append, List.append_nil, List.set_cons_zero, List.set_cons_succ, List.set_nil, List.getElem?_cons_zero, List.getElem?_cons_succ, List.replicate_succ, List.replicate_zero, Nat.zero_add, Nat.reduceAdd, Nat.reduceSub, decide_eq_true_eq, Bool.not_eq_true', decide_eq_false_iff_not]
  refine ⟨by unfold CDiv; omega, st, cs, _, rfl, S, q1.1, q1.2, fun s N2 s0 s1 o2 S => ?_⟩
  simp only [wipeD, items_tup, items_lst, items_rng, tupleD, seqA_tup, seqA_lst, tSq, tIf', tTs, tO, tV, tK, tTr, truD, tNo, tAn, tOr', tAnV, tOrV', tNoV, tIfE, tN0, tCo, tTu, tLs, tCl, tFn, tMh, tRt, tRt0, tNx, tEx, tSe, tAs, gN, gS, gT, gsc, gs0, tU, i2_ii, i2c_ii, rNegD, intC, absD, minD, isD, eqi, eqs, eqb, nei, nes, neb, DL.rIsD, DL.rIsnD, addi, muli, tMe, tMe0, tBk, tCt, outD, EndsD.xk, startD, optP_some, List.map_cons, List.map_nil, List.length_cons, List.length_nil, List.cons_append, List.nil_append, List.append_nil, List.set_cons_zero, List.set_cons_succ, List.set_nil, List.getElem?_cons_zero, List.getElem?_cons_succ, List.replicate_succ, List.replicate_zero, Nat.zero_add, Nat.reduceAdd, Nat.reduceSub, decide_eq_true_eq, Bool.not_eq_true', decide_eq_false_iff_not]
  have q2 : 1 ≤ g * (1 + s) ∧ g * (1 + s) ≤ 130 := by rcases c6 with rfl | rfl | rfl | rfl | rfl | rfl <;> omega
  refine ⟨.inl ⟨by omega, by omega⟩, ?_⟩
  obtain ⟨n, hn⟩ : ∃ n, n = g * (1 + s) := ⟨_, rfl⟩
  rw [← hn] at q2 ⊢
  subst hT
  refine tSq_step fun T hT => ?_
  simp only [tSe, tLs, tCo, tN0]
  refine ring_comp (l := 1) g1 (by omega) rfl (by decide) rfl ⟨l0, l0, l3, ?_⟩
  subst hT
  refine tSq_step fun T hT => ?_
  simp only [tSe, tLs, tCo, tN0, List.set_cons_zero, List.set_cons_succ]
  refine ring_comp (l := 2) q2.1 q2.2 rfl (by decide) rfl ⟨l0, l0, l3, ?_⟩
  subst hT
  refine tSq_step fun T hT => ?_
  simp only [wipeD, items_tup, items_lst, items_rng, tupleD, seqA_tup, seqA_lst, tSq, tIf', tTs, tO, tV, tK, tTr, truD, tNo, tAn, tOr', tAnV, tOrV', tNoV, tIfE, tN0, tCo, tTu, tLs, tCl, tFn, tMh, tRt, tRt0, tNx, tEx, tSe, tAs, gN, gS, gT, gsc, gs0, tU, i2_ii, i2c_ii, rNegD, intC, absD, minD, isD, eqi, eqs, eqb, nei, nes, neb, DL.rIsD, DL.rIsnD, addi, muli, tMe, tMe0, tBk, tCt, outD, EndsD.xk, startD, optP_some, List.map_cons, List.map_nil, List.length_cons, List.length_nil, List.cons_append, List.nil_append, List.append_nil, List.set_cons_zero, List.set_cons_succ, List.set_nil, List.getElem?_cons_zero, List.getElem?_cons_succ, List.replicate_succ, List.replicate_zero, Nat.zero_add, Nat.reduceAdd, Nat.reduceSub, decide_eq_true_eq, Bool.not_eq_true', decide_eq_false_iff_not]
  refine tLcM_rng (n := n) (f := fun x => x % g) (fun R hR => hR) (by omega) (by omega) (fun x x0 x1 p c hp Q' hQ => ?_) fun p hp => ?_
  · try simp only [wipeD, items_tup, items_lst, items_rng, tupleD, seqA_tup, seqA_lst, tSq, tIf', tTs, tO, tV, tK, tTr, truD, tNo, tAn, tOr', tAnV, tOrV', tNoV, tIfE, tN0, tCo, tTu, tLs, tCl, tFn, tMh, tRt, tRt0, tNx, tEx, tSe, tAs, gN, gS, gT, gsc, gs0, tU, i2_ii, i2c_ii, rNegD, intC, absD, minD, isD, eqi, eqs, eqb, nei, nes, neb, DL.rIsD, DL.rIsnD, addi, muli, tMe, tMe0, tBk, tCt, outD, EndsD.xk, startD, optP_some, List.map_cons, List.map_nil, List.length_cons, List.length_nil, List.cons_append, List.nil_append, List.append_nil, List.set_cons_zero, List.set_cons_succ, List.set_nil, List.getElem?_cons_zero, List.getElem?_cons_succ, List.replicate_succ, List.replicate_zero, Nat.zero_add, Nat.reduceAdd, Nat.reduceSub, decide_eq_true_eq, Bool.not_eq_true', decide_eq_false_iff_not]
    exact ⟨by omega, hQ⟩
  · have np := S.not hp
    have mp : M p = none := by rw [← (o1.trans o2) p np.1 np.2, hp]
    obtain ⟨f, hf⟩ : ∃ f, f = (rgI n).map fun x => x % g := ⟨_, rfl⟩
    rw [← hf]
    have fl : (f.length : Int) = n := by rw [hf, List.length_map, rgI_len]; omega
    have fm : MapOk f n g := ⟨fl, fun y hy => by
      rw [hf] at hy
      obtain ⟨x, _, rfl⟩ := List.mem_map.mp hy
      exact ⟨Int.emod_nonneg _ (by omega), Int.emod_lt_of_pos _ (by omega)⟩⟩
    obtain ⟨F, hF⟩ : ∃ F : Fr, F = ⟨n, ring n, [], []⟩ := ⟨_, rfl⟩
    obtain ⟨G, hG⟩ : ∃ G : Fr, G = ⟨g, ring g, [], []⟩ := ⟨_, rfl⟩
    have wF : WfF F := by rw [hF]; exact ⟨q2.1, q2.2, wf_ring q2.1 q2.2, wf_nil n, wf_nil n⟩
    have wG : WfF G := by rw [hG]; exact ⟨g1, g130, wf_ring g1 g130, wf_nil g, wf_nil g⟩
    have dF : worldD F = .tup [.int n, .lst [prD (ring n), .lst [], .lst []]] := by rw [hF]; rfl
    have dG : worldD G = .tup [.int g, .lst [prD (ring g), .lst [], .lst []]] := by rw [hG]; rfl
    have nF : F.n = n := by rw [hF]
    have nG : G.n = g := by rw [hG]
    subst hT
    refine tSq_step fun T hT => ?_
    simp only [wipeD, items_tup, items_lst, items_rng, tupleD, seqA_tup, seqA_lst, tSq, tIf', tTs, tO, tV, tK, tTr, truD, tNo, tAn, tOr', tAnV, tOrV', tNoV, tIfE, tN0, tCo, tTu, tLs, tCl, tFn, tMh, tRt, tRt0, tNx, tEx, tSe, tAs, gN, gS, gT, gsc, gs0, tU, i2_ii, i2c_ii, rNegD, intC, absD, minD, isD, eqi, eqs, eqb, nei, nes, neb, DL.rIsD, DL.rIsnD, addi, muli, tMe, tMe0, tBk, tCt, outD, EndsD.xk, startD, optP_some, List.map_cons, List.map_nil, List.length_cons, List.length_nil, List.cons_append, List.nil_append, List.append_nil, List.set_cons_zero, List.set_cons_succ, List.set_nil, List.getElem?_cons_zero, List.getElem?_cons_succ, List.replicate_succ, List.replicate_zero, Nat.zero_add, Nat.reduceAdd, Nat.reduceSub, decide_eq_true_eq, Bool.not_eq_true', decide_eq_false_iff_not]
    refine ⟨two, two, F, G, .ref p, f, by rw [dF, dG], wF, wG, ⟨seqL_cell put_same⟩, by rw [nF, nG]; exact fm, ?_⟩
    simp only [wipeD, items_tup, items_lst, items_rng, tupleD, seqA_tup, seqA_lst, tSq, tIf', tTs, tO, tV, tK, tTr, truD, tNo, tAn, tOr', tAnV, tOrV', tNoV, tIfE, tN0, tCo, tTu, tLs, tCl, tFn, tMh, tRt, tRt0, tNx, tEx, tSe, tAs, gN, gS, gT, gsc, gs0, tU, i2_ii, i2c_ii, rNegD, intC, absD, minD, isD, eqi, eqs, eqb, nei, nes, neb, DL.rIsD, DL.rIsnD, addi, muli, tMe, tMe0, tBk, tCt, outD, EndsD.xk, startD, optP_some, List.map_cons, List.map_nil, List.length_cons, List.length_nil, List.cons_append, List.nil_append, List.append_nil, List.set_cons_zero, List.set_cons_succ, List.set_nil, List.getElem?_cons_zero, List.getElem?_cons_succ, List.replicate_succ, List.replicate_zero, Nat.zero_add, Nat.reduceAdd, Nat.reduceSub, decide_eq_true_eq, Bool.not_eq_true', decide_eq_false_iff_not, Bool.true_eq_false, if_false]
    subst hT
    try dsimp only
    have S3 : StOk (put N2 p (.lst (iL f))) st cs := S.keep (put_ne np.1.symm) (put_ne np.2.symm)
    refine tSq_step fun T hT => ?_
    simp only [wipeD, items_tup, items_lst, items_rng, tupleD, seqA_tup, seqA_lst, tSq, tIf', tTs, tO, tV, tK, tTr, truD, tNo, tAn, tOr', tAnV, tOrV', tNoV, tIfE, tN0, tCo, tTu, tLs, tCl, tFn, tMh, tRt, tRt0, tNx, tEx, tSe, tAs, gN, gS, gT, gsc, gs0, tU, i2_ii, i2c_ii, rNegD, intC, absD, minD, isD, eqi, eqs, eqb, nei, nes, neb, DL.rIsD, DL.rIsnD, addi, muli, tMe, tMe0, tBk, tCt, outD, EndsD.xk, startD, optP_some, List.map_cons, List.map_nil, List.length_cons, List.length_nil, List.cons_append, List.nil_append, List.append_nil, List.set_cons_zero, List.set_cons_succ, List.set_nil, List.getElem?_cons_zero, List.getElem?_cons_succ, List.replicate_succ, List.replicate_zero, Nat.zero_add, Nat.reduceAdd, Nat.reduceSub, decide_eq_true_eq, Bool.not_eq_true', decide_eq_false_iff_not]
    refine ⟨st, cs, n, rfl, S3, by omega, by omega, fun at' N4 a0 a1 o4 S4 => ?_⟩
    subst hT
    refine tSq_step fun T hT => ?_
    simp only [wipeD, items_tup, items_lst, items_rng, tupleD, seqA_tup, seqA_lst, tSq, tIf', tTs, tO, tV, tK, tTr, truD, tNo, tAn, tOr', tAnV, tOrV', tNoV, tIfE, tN0, tCo, tTu, tLs, tCl, tFn, tMh, tRt, tRt0, tNx, tEx, tSe, tAs, gN, gS, gT, gsc, gs0, tU, i2_ii, i2c_ii, rNegD, intC, absD, minD, isD, eqi, eqs, eqb, nei, nes, neb, DL.rIsD, DL.rIsnD, addi, muli, tMe, tMe0, tBk, tCt, outD, EndsD.xk, startD, optP_some, List.map_cons, List.map_nil, List.length_cons, List.length_nil, List.cons_append, List.nil_append, List.append_nil, List.set_cons_zero, List.set_cons_succ, List.set_nil, List.getElem?_cons_zero, List.getElem?_cons_succ, List.replicate_succ, List.replicate_zero, Nat.zero_add, Nat.reduceAdd, Nat.reduceSub, decide_eq_true_eq, Bool.not_eq_true', decide_eq_false_iff_not]
    refine ⟨st, cs, g, rfl, S4, by omega, by omega, fun v N5 v0 v1 o5 S5 => ?_⟩
    simp only [wipeD, items_tup, items_lst, items_rng, tupleD, seqA_tup, seqA_lst, tSq, tIf', tTs, tO, tV, tK, tTr, truD, tNo, tAn, tOr', tAnV, tOrV', tNoV, tIfE, tN0, tCo, tTu, tLs, tCl, tFn, tMh, tRt, tRt0, tNx, tEx, tSe, tAs, gN, gS, gT, gsc, gs0, tU, i2_ii, i2c_ii, rNegD, intC, absD, minD, isD, eqi, eqs, eqb, nei, nes, neb, DL.rIsD, DL.rIsnD, addi, muli, tMe, tMe0, tBk, tCt, outD, EndsD.xk, startD, optP_some, List.map_cons, List.map_nil, List.length_cons, List.length_nil, List.cons_append, List.nil_append, List.append_nil, List.set_cons_zero, List.set_cons_succ, List.set_nil, List.getElem?_cons_zero, List.getElem?_cons_succ, List.replicate_succ, List.replicate_zero, Nat.zero_add, Nat.reduceAdd, Nat.reduceSub, decide_eq_true_eq, Bool.not_eq_true', decide_eq_false_iff_not]
    have p5 : N5 p = some (.lst (iL f)) := by rw [o5 p np.1 np.2, o4 p np.1 np.2, put_same]
    rw [setD_eq p5 a0 (by rw [iL_len]; omega), iL_set]
    subst hT
    simp only [wipeD, items_tup, items_lst, items_rng, tupleD, seqA_tup, seqA_lst, tSq, tIf', tTs, tO, tV, tK, tTr, truD, tNo, tAn, tOr', tAnV, tOrV', tNoV, tIfE, tN0, tCo, tTu, tLs, tCl, tFn, tMh, tRt, tRt0, tNx, tEx, tSe, tAs, gN, gS, gT, gsc, gs0, tU, i2_ii, i2c_ii, rNegD, intC, absD, minD, isD, eqi, eqs, eqb, nei, nes, neb, DL.rIsD, DL.rIsnD, addi, muli, tMe, tMe0, tBk, tCt, outD, EndsD.xk, startD, optP_some, List.map_cons, List.map_nil, List.length_cons, List.length_nil, List.cons_append, List.nil_append, List.append_nil, List.set_cons_zero, List.set_cons_succ, List.set_nil, List.getElem?_cons_zero, List.getElem?_cons_succ, List.replicate_succ, List.replicate_zero, Nat.zero_add, Nat.reduceAdd, Nat.reduceSub, decide_eq_true_eq, Bool.not_eq_true', decide_eq_false_iff_not]
    refine ⟨two, two, F, G, .ref p, f.set at'.toNat v, by rw [dF, dG], wF, wG, ⟨seqL_cell put_same⟩, ⟨by rw [List.length_set, nF]; exact fl, fun y hy => ?_⟩, ?_⟩
    · rw [nG]
      rcases List.mem_or_eq_of_mem_set hy with z | z
      · exact fm.rg y z
      · rw [z]
        exact ⟨v0, v1⟩
    · refine ⟨cut N5 p, _, .less fun z e he => ?_, h _ (fun z z1 z2 => ?_) (S5.keep (cut_ne np.1.symm) (cut_ne np.2.symm))⟩
      · by_cases zp : z = p
        · rw [zp, cut_same] at he
          cases he
        · rw [cut_ne zp] at he
          rw [put_ne zp]
          exact he
      · by_cases zp : z = p
        · rw [zp, cut_same, mp]
        · rw [cut_ne zp, o5 z z1 z2, o4 z z1 z2, put_ne zp, o2 z z1 z2, o1 z z1 z2]
end K15
namespace K15
open PySem PySem.Spec PyProof.Rows L2 DL
variable [B : Obs] {K : PySem.W.Frag} {mg : Str → Option Value} {P : Program} {ds : List D} {M : Md} {Q : VD} {X : XD}
theorem map_set {f : List Int} {n g at' v : Int} (h : MapOk f n g) (a0 : 0 ≤ at') (a1 : at' < n) (v0 : 0 ≤ v) (v1 : v < g) : MapOk (f.take at'.toNat ++ [v] ++ f.drop (at' + 1).toNat) n g := by
  have hl := h.len
  refine ⟨?_, fun y hy => ?_⟩
  · rw [List.length_append, List.length_append, List.length_take, List.length_drop, List.length_cons, List.length_nil]
    omega
  · rcases List.mem_append.mp hy with hy | hy
    · rcases List.mem_append.mp hy with hy | hy
      · exact h.rg y (List.mem_of_mem_take hy)
      · rw [List.mem_singleton] at hy
        rw [hy]
        exact ⟨v0, v1⟩
    · exact h.rg y (List.mem_of_mem_drop hy)
theorem p_law (h : sp_law K ds M Q X) : t_law K (outD Q X) (startD N_law ds) M := by
  obtain ⟨ns, rfl, hl, _, h⟩ := h
  simp only [N_law, startD, List.map_cons, List.map_nil, List.length_cons, List.length_nil, Nat.zero_add, Nat.reduceAdd, Nat.reduceSub, List.replicate_succ, List.replicate_zero, List.cons_append, List.nil_append]
  have l1 : 1 ≤ sizeLine := by rw [sizeLine_eq]; decide
  unfold t_law
  refine tSq_step fun T hT => ?_
  simp only [wipeD, items_tup, items_lst, items_rng, tupleD, seqA_tup, seqA_lst, tSq, tIf', tTs, tO, tV, tK, tTr, truD, tNo, tAn, tOr', tAnV, tOrV', tNoV, tIfE, tN0, tCo, tTu, tLs, tCl, tFn, tMh, tRt, tRt0, tNx, tEx, tSe, tAs, gN, gS, gT, gsc, gs0, tU, i2_ii, i2c_ii, rNegD, intC, absD, minD, isD, eqi, eqs, eqb, nei, nes, neb, DL.rIsD, DL.rIsnD, addi, muli, tMe, tMe0, tBk, tCt, outD, EndsD.xk, startD, optP_some, List.map_cons, List.map_nil, List.length_cons, List.length_nil, List.cons_append, List.nil_append, List.append_nil, List.set_cons_zero, List.set_cons_succ, List.set_nil, List.getElem?_cons_zero, List.getElem?_cons_succ, List.replicate_succ, List.replicate_zero, Nat.zero_add, Nat.reduceAdd, Nat.reduceSub, decide_eq_true_eq, Bool.not_eq_true', decide_eq_false_iff_not]
  refine ⟨ns, rfl, hl, fun st cs N0 S => ?_⟩
  subst hT
  refine tSq_step fun T hT => ?_
  simp only [wipeD, items_tup, items_lst, items_rng, tupleD, seqA_tup, seqA_lst, tSq, tIf', tTs, tO, tV, tK, tTr, truD, tNo, tAn, tOr', tAnV, tOrV', tNoV, tIfE, tN0, tCo, tTu, tLs, tCl, tFn, tMh, tRt, tRt0, tNx, tEx, tSe, tAs, gN, gS, gT, gsc, gs0, tU, i2_ii, i2c_ii, rNegD, intC, absD, minD, isD, eqi, eqs, eqb, nei, nes, neb, DL.rIsD, DL.rIsnD, addi, muli, tMe, tMe0, tBk, tCt, outD, EndsD.xk, startD, optP_some, List.map_cons, List.map_nil, List.length_cons, List.length_nil, List.cons_append, List.nil_append, List.append_nil, List.set_cons_zero, List.set_cons_succ, List.set_nil, List.getElem?_cons_zero, List.getElem?_cons_succ, List.replicate_succ, List.replicate_zero, Nat.zero_add, Nat.reduceAdd, Nat.reduceSub, decide_eq_true_eq, Bool.not_eq_true', decide_eq_false_iff_not]
  refine ⟨st, cs, 4, rfl, S, by decide, by decide, fun r N1 r0 r1 _ S => ?_⟩
  simp only [wipeD, items_tup, items_lst, items_rng, tupleD, seqA_tup, seqA_lst, tSq, tIf', tTs, tO, tV, tK, tTr, truD, tNo, tAn, tOr', tAnV, tOrV', tNoV, tIfE, tN0, tCo, tTu, tLs, tCl, tFn, tMh, tRt, tRt0, tNx, tEx, tSe, tAs, gN, gS, gT, gsc, gs0, tU, i2_ii, i2c_ii, rNegD, intC, absD, minD, isD, eqi, eqs, eqb, nei, nes, neb, DL.rIsD, DL.rIsnD, addi, muli, tMe, tMe0, tBk, tCt, outD, EndsD.xk, startD, optP_some, List.map_cons, List.map_nil, List.length_cons, List.length_nil, List.cons_append, List.nil_append, List.append_nil, List.set_cons_zero, List.set_cons_succ, List.set_nil, List.getElem?_cons_zero, List.getElem?_cons_succ, List.replicate_succ, List.replicate_zero, Nat.zero_add, Nat.reduceAdd, Nat.reduceSub, decide_eq_true_eq, Bool.not_eq_true', decide_eq_false_iff_not]
  obtain ⟨g, hg⟩ : ∃ g, g = 1 + r := ⟨_, rfl⟩
  rw [← hg]
  have g1 : 1 ≤ g := by omega
  have g4 : g ≤ 4 := by omega
  have g130 : g ≤ 130 := by omega
  subst hT
  refine tSq_step fun T hT => ?_
  simp only [wipeD, items_tup, items_lst, items_rng, tupleD, seqA_tup, seqA_lst, tSq, tIf', tTs, tO, tV, tK, tTr, truD, tNo, tAn, tOr', tAnV, tOrV', tNoV, tIfE, tN0, tCo, tTu, tLs, tCl, tFn, tMh, tRt, tRt0, tNx, tEx, tSe, tAs, gN, gS, gT, gsc, gs0, tU, i2_ii, i2c_ii, rNegD, intC, absD, minD, isD, eqi, eqs, eqb, nei, nes, neb, DL.rIsD, DL.rIsnD, addi, muli, tMe, tMe0, tBk, tCt, outD, EndsD.xk, startD, optP_some, List.map_cons, List.map_nil, List.length_cons, List.length_nil, List.cons_append, List.nil_append, List.append_nil, List.set_cons_zero, List.set_cons_succ, List.set_nil, List.getElem?_cons_zero, List.getElem?_cons_succ, List.replicate_succ, List.replicate_zero, Nat.zero_add, Nat.reduceAdd, Nat.reduceSub, decide_eq_true_eq, Bool.not_eq_true', decide_eq_false_iff_not]
  refine ⟨st, cs, 8, rfl, S, by decide, by decide, fun large N2 _ _ _ S => ?_⟩
  subst hT
  refine tSq_step fun T hT => ?_
  simp only [wipeD, items_tup, items_lst, items_rng, tupleD, seqA_tup, seqA_lst, tSq, tIf', tTs, tO, tV, tK, tTr, truD, tNo, tAn, tOr', tAnV, tOrV', tNoV, tIfE, tN0, tCo, tTu, tLs, tCl, tFn, tMh, tRt, tRt0, tNx, tEx, tSe, tAs, gN, gS, gT, gsc, gs0, tU, i2_ii, i2c_ii, rNegD, intC, absD, minD, isD, eqi, eqs, eqb, nei, nes, neb, DL.rIsD, DL.rIsnD, addi, muli, tMe, tMe0, tBk, tCt, outD, EndsD.xk, startD, optP_some, List.map_cons, List.map_nil, List.length_cons, List.length_nil, List.cons_append, List.nil_append, List.append_nil, List.set_cons_zero, List.set_cons_succ, List.set_nil, List.getElem?_cons_zero, List.getElem?_cons_succ, List.replicate_succ, List.replicate_zero, Nat.zero_add, Nat.reduceAdd, Nat.reduceSub, decide_eq_true_eq, Bool.not_eq_true', decide_eq_false_iff_not]
  refine draws_F (R0 := fun y => ∃ ps, y = prD ps ∧ WfP g ps) (n := 3) S (fun R hR => hR) (by decide) (by decide) (fun x N3 S3 Q' hQ => ?_) (fun ys N3 hy hR _ S => ?_)
  · simp only [wipeD, items_tup, items_lst, items_rng, tupleD, seqA_tup, seqA_lst, tSq, tIf', tTs, tO, tV, tK, tTr, truD, tNo, tAn, tOr', tAnV, tOrV', tNoV, tIfE, tN0, tCo, tTu, tLs, tCl, tFn, tMh, tRt, tRt0, tNx, tEx, tSe, tAs, gN, gS, gT, gsc, gs0, tU, i2_ii, i2c_ii, rNegD, intC, absD, minD, isD, eqi, eqs, eqb, nei, nes, neb, DL.rIsD, DL.rIsnD, addi, muli, tMe, tMe0, tBk, tCt, outD, EndsD.xk, startD, optP_some, List.map_cons, List.map_nil, List.length_cons, List.length_nil, List.cons_append, List.nil_append, List.append_nil, List.set_cons_zero, List.set_cons_succ, List.set_nil, List.getElem?_cons_zero, List.getElem?_cons_succ, List.replicate_succ, List.replicate_zero, Nat.zero_add, Nat.reduceAdd, Nat.reduceSub, decide_eq_true_eq, Bool.not_eq_true', decide_eq_false_iff_not]
    exact ⟨st, cs, g, rfl, S3, g1, g4, fun ps N6 wp o6 S6 => hQ _ _ ⟨ps, rfl, wp⟩ o6 S6⟩
  match ys, hy, hR with
  | [y1, y2, y3], _, hR =>
    obtain ⟨a, rfl, wa⟩ := hR y1 (by simp)
    obtain ⟨b, rfl, wb⟩ := hR y2 (by simp)
    obtain ⟨c, rfl, wc⟩ := hR y3 (by simp)
    obtain ⟨G, hG⟩ : ∃ G : Fr, G = ⟨g, a, b, c⟩ := ⟨_, rfl⟩
    have wG : WfF G := by rw [hG]; exact ⟨g1, g130, wa, wb, wc⟩
    have nG : G.n = g := by rw [hG]
    have dG : D.tup [.int g, .lst [prD a, prD b, prD c]] = worldD G := by rw [hG]; rfl
    refine ⟨two, ?_⟩
    subst hT
    refine tSq_step fun T hT => ?_
    simp only [wipeD, items_tup, items_lst, items_rng, tupleD, seqA_tup, seqA_lst, tSq, tIf', tTs, tO, tV, tK, tTr, truD, tNo, tAn, tOr', tAnV, tOrV', tNoV, tIfE, tN0, tCo, tTu, tLs, tCl, tFn, tMh, tRt, tRt0, tNx, tEx, tSe, tAs, gN, gS, gT, gsc, gs0, tU, i2_ii, i2c_ii, rNegD, intC, absD, minD, isD, eqi, eqs, eqb, nei, nes, neb, DL.rIsD, DL.rIsnD, addi, muli, tMe, tMe0, tBk, tCt, outD, EndsD.xk, startD, optP_some, List.map_cons, List.map_nil, List.length_cons, List.length_nil, List.cons_append, List.nil_append, List.append_nil, List.set_cons_zero, List.set_cons_succ, List.set_nil, List.getElem?_cons_zero, List.getElem?_cons_succ, List.replicate_succ, List.replicate_zero, Nat.zero_add, Nat.reduceAdd, Nat.reduceSub, decide_eq_true_eq, Bool.not_eq_true', decide_eq_false_iff_not, rIx_tup, atI_1]
    refine ⟨st, cs, g, a, b, c, rfl, S, g1, g4, wa, wb, wc, fun F f N4 wF f4 mf _ S => ?_⟩
    rw [dG]
    refine ⟨rfl, ?_⟩
    subst hT
    refine tSq_step fun T hT => ?_
    simp only [wipeD, items_tup, items_lst, items_rng, tupleD, seqA_tup, seqA_lst, tSq, tIf', tTs, tO, tV, tK, tTr, truD, tNo, tAn, tOr', tAnV, tOrV', tNoV, tIfE, tN0, tCo, tTu, tLs, tCl, tFn, tMh, tRt, tRt0, tNx, tEx, tSe, tAs, gN, gS, gT, gsc, gs0, tU, i2_ii, i2c_ii, rNegD, intC, absD, minD, isD, eqi, eqs, eqb, nei, nes, neb, DL.rIsD, DL.rIsnD, addi, muli, tMe, tMe0, tBk, tCt, outD, EndsD.xk, startD, optP_some, List.map_cons, List.map_nil, List.length_cons, List.length_nil, List.cons_append, List.nil_append, List.append_nil, List.set_cons_zero, List.set_cons_succ, List.set_nil, List.getElem?_cons_zero, List.getElem?_cons_succ, List.replicate_succ, List.replicate_zero, Nat.zero_add, Nat.reduceAdd, Nat.reduceSub, decide_eq_true_eq, Bool.not_eq_true', decide_eq_false_iff_not]
    refine ⟨st, cs, F, rfl, S, wF, f4, fun L h2 N5 wL nL mg' _ S => ?_⟩
    refine ⟨rfl, ?_⟩
    have lf := wF.lo
    have hf := mf.len
    have hg2 := mg'.len
    rw [← nG] at mf
    subst hT
    refine tSq_step fun T hT => ?_
    simp only [wipeD, items_tup, items_lst, items_rng, tupleD, seqA_tup, seqA_lst, tSq, tIf', tTs, tO, tV, tK, tTr, truD, tNo, tAn, tOr', tAnV, tOrV', tNoV, tIfE, tN0, tCo, tTu, tLs, tCl, tFn, tMh, tRt, tRt0, tNx, tEx, tSe, tAs, gN, gS, gT, gsc, gs0, tU, i2_ii, i2c_ii, rNegD, intC, absD, minD, isD, eqi, eqs, eqb, nei, nes, neb, DL.rIsD, DL.rIsnD, addi, muli, tMe, tMe0, tBk, tCt, outD, EndsD.xk, startD, optP_some, List.map_cons, List.map_nil, List.length_cons, List.length_nil, List.cons_append, List.nil_append, List.append_nil, List.set_cons_zero, List.set_cons_succ, List.set_nil, List.getElem?_cons_zero, List.getElem?_cons_succ, List.replicate_succ, List.replicate_zero, Nat.zero_add, Nat.reduceAdd, Nat.reduceSub, decide_eq_true_eq, Bool.not_eq_true', decide_eq_false_iff_not]
    refine ⟨F, G, _, f, rfl, wF, wG, ⟨rfl⟩, mf, ?_⟩
    simp only [wipeD, items_tup, items_lst, items_rng, tupleD, seqA_tup, seqA_lst, tSq, tIf', tTs, tO, tV, tK, tTr, truD, tNo, tAn, tOr', tAnV, tOrV', tNoV, tIfE, tN0, tCo, tTu, tLs, tCl, tFn, tMh, tRt, tRt0, tNx, tEx, tSe, tAs, gN, gS, gT, gsc, gs0, tU, i2_ii, i2c_ii, rNegD, intC, absD, minD, isD, eqi, eqs, eqb, nei, nes, neb, DL.rIsD, DL.rIsnD, addi, muli, tMe, tMe0, tBk, tCt, outD, EndsD.xk, startD, optP_some, List.map_cons, List.map_nil, List.length_cons, List.length_nil, List.cons_append, List.nil_append, List.append_nil, List.set_cons_zero, List.set_cons_succ, List.set_nil, List.getElem?_cons_zero, List.getElem?_cons_succ, List.replicate_succ, List.replicate_zero, Nat.zero_add, Nat.reduceAdd, Nat.reduceSub, decide_eq_true_eq, Bool.not_eq_true', decide_eq_false_iff_not, Bool.true_eq_false, if_false]
    refine ⟨F, L, _, h2, rfl, wF, wL, ⟨rfl⟩, mg', ?_⟩
    simp only [wipeD, items_tup, items_lst, items_rng, tupleD, seqA_tup, seqA_lst, tSq, tIf', tTs, tO, tV, tK, tTr, truD, tNo, tAn, tOr', tAnV, tOrV', tNoV, tIfE, tN0, tCo, tTu, tLs, tCl, tFn, tMh, tRt, tRt0, tNx, tEx, tSe, tAs, gN, gS, gT, gsc, gs0, tU, i2_ii, i2c_ii, rNegD, intC, absD, minD, isD, eqi, eqs, eqb, nei, nes, neb, DL.rIsD, DL.rIsnD, addi, muli, tMe, tMe0, tBk, tCt, outD, EndsD.xk, startD, optP_some, List.map_cons, List.map_nil, List.length_cons, List.length_nil, List.cons_append, List.nil_append, List.append_nil, List.set_cons_zero, List.set_cons_succ, List.set_nil, List.getElem?_cons_zero, List.getElem?_cons_succ, List.replicate_succ, List.replicate_zero, Nat.zero_add, Nat.reduceAdd, Nat.reduceSub, decide_eq_true_eq, Bool.not_eq_true', decide_eq_false_iff_not, Bool.true_eq_false, if_false]
    subst hT
    try dsimp only
    refine tSq_step fun T hT => ?_
    simp only [worldD, wipeD, items_tup, items_lst, items_rng, tupleD, seqA_tup, seqA_lst, tSq, tIf', tTs, tO, tV, tK, tTr, truD, tNo, tAn, tOr', tAnV, tOrV', tNoV, tIfE, tN0, tCo, tTu, tLs, tCl, tFn, tMh, tRt, tRt0, tNx, tEx, tSe, tAs, gN, gS, gT, gsc, gs0, tU, i2_ii, i2c_ii, rNegD, intC, absD, minD, isD, eqi, eqs, eqb, nei, nes, neb, DL.rIsD, DL.rIsnD, addi, muli, tMe, tMe0, tBk, tCt, outD, EndsD.xk, startD, optP_some, List.map_cons, List.map_nil, List.length_cons, List.length_nil, List.cons_append, List.nil_append, List.append_nil, List.set_cons_zero, List.set_cons_succ, List.set_nil, List.getElem?_cons_zero, List.getElem?_cons_succ, List.replicate_succ, List.replicate_zero, Nat.zero_add, Nat.reduceAdd, Nat.reduceSub, decide_eq_true_eq, Bool.not_eq_true', decide_eq_false_iff_not, rIx_tup, atI_0]
    refine ⟨st, cs, F.n, rfl, S, by omega, by omega, fun at' N6 a0 a1 _ S => ?_⟩
    subst hT
    refine tSq_step fun T hT => ?_
    simp only [tSlc, tP0, tP1, wipeD, items_tup, items_lst, items_rng, tupleD, seqA_tup, seqA_lst, tSq, tIf', tTs, tO, tV, tK, tTr, truD, tNo, tAn, tOr', tAnV, tOrV', tNoV, tIfE, tN0, tCo, tTu, tLs, tCl, tFn, tMh, tRt, tRt0, tNx, tEx, tSe, tAs, gN, gS, gT, gsc, gs0, tU, i2_ii, i2c_ii, rNegD, intC, absD, minD, isD, eqi, eqs, eqb, nei, nes, neb, DL.rIsD, DL.rIsnD, addi, muli, tMe, tMe0, tBk, tCt, outD, EndsD.xk, startD, optP_some, List.map_cons, List.map_nil, List.length_cons, List.length_nil, List.cons_append, List.nil_append, List.append_nil, List.set_cons_zero, List.set_cons_succ, List.set_nil, List.getElem?_cons_zero, List.getElem?_cons_succ, List.replicate_succ, List.replicate_zero, Nat.zero_add, Nat.reduceAdd, Nat.reduceSub, decide_eq_true_eq, Bool.not_eq_true', decide_eq_false_iff_not]
    refine sl_to a0 (by omega) ?_
    refine ⟨st, cs, g, rfl, S, by omega, by omega, fun v N7 v0 v1 _ S => ?_⟩
    refine ⟨l1, ?_⟩
    have qv : [D.int v] = iL [v] := rfl
    rw [qv]
    refine add_ints (by rw [List.length_take]; simp only [List.length_cons, List.length_nil]; omega) ?_
    refine sl_from (by omega) (by omega) ?_
    refine add_ints (by rw [List.length_append, List.length_take, List.length_drop]; simp only [List.length_cons, List.length_nil]; omega) ?_
    subst hT
    refine tSq_step fun T hT => ?_
    simp only [tSlc, tP0, tP1, wipeD, items_tup, items_lst, items_rng, tupleD, seqA_tup, seqA_lst, tSq, tIf', tTs, tO, tV, tK, tTr, truD, tNo, tAn, tOr', tAnV, tOrV', tNoV, tIfE, tN0, tCo, tTu, tLs, tCl, tFn, tMh, tRt, tRt0, tNx, tEx, tSe, tAs, gN, gS, gT, gsc, gs0, tU, i2_ii, i2c_ii, rNegD, intC, absD, minD, isD, eqi, eqs, eqb, nei, nes, neb, DL.rIsD, DL.rIsnD, addi, muli, tMe, tMe0, tBk, tCt, outD, EndsD.xk, startD, optP_some, List.map_cons, List.map_nil, List.length_cons, List.length_nil, List.cons_append, List.nil_append, List.append_nil, List.set_cons_zero, List.set_cons_succ, List.set_nil, List.getElem?_cons_zero, List.getElem?_cons_succ, List.replicate_succ, List.replicate_zero, Nat.zero_add, Nat.reduceAdd, Nat.reduceSub, decide_eq_true_eq, Bool.not_eq_true', decide_eq_false_iff_not, rIx_tup, atI_0]
    refine sl_to a0 (by omega) ?_
    refine ⟨st, cs, F.n, rfl, S, by omega, by omega, fun u N8 u0 u1 _ S => ?_⟩
    refine ⟨l1, ?_⟩
    have qu : [D.int u] = iL [u] := rfl
    rw [qu]
    refine add_ints (by rw [List.length_take]; simp only [List.length_cons, List.length_nil]; omega) ?_
    refine sl_from (by omega) (by omega) ?_
    refine add_ints (by rw [List.length_append, List.length_take, List.length_drop]; simp only [List.length_cons, List.length_nil]; omega) ?_
    have m1 := map_set mf a0 a1 v0 (by rw [nG]; exact v1)
    have m2 := map_set mg' a0 a1 u0 (by rw [nL]; exact u1)
    subst hT
    refine tSq_step fun T hT => ?_
    simp only [wipeD, items_tup, items_lst, items_rng, tupleD, seqA_tup, seqA_lst, tSq, tIf', tTs, tO, tV, tK, tTr, truD, tNo, tAn, tOr', tAnV, tOrV', tNoV, tIfE, tN0, tCo, tTu, tLs, tCl, tFn, tMh, tRt, tRt0, tNx, tEx, tSe, tAs, gN, gS, gT, gsc, gs0, tU, i2_ii, i2c_ii, rNegD, intC, absD, minD, isD, eqi, eqs, eqb, nei, nes, neb, DL.rIsD, DL.rIsnD, addi, muli, tMe, tMe0, tBk, tCt, outD, EndsD.xk, startD, optP_some, List.map_cons, List.map_nil, List.length_cons, List.length_nil, List.cons_append, List.nil_append, List.append_nil, List.set_cons_zero, List.set_cons_succ, List.set_nil, List.getElem?_cons_zero, List.getElem?_cons_succ, List.replicate_succ, List.replicate_zero, Nat.zero_add, Nat.reduceAdd, Nat.reduceSub, decide_eq_true_eq, Bool.not_eq_true', decide_eq_false_iff_not]
    refine ⟨F, G, _, _, rfl, wF, wG, ⟨rfl⟩, m1, ?_⟩
    simp only [wipeD, items_tup, items_lst, items_rng, tupleD, seqA_tup, seqA_lst, tSq, tIf', tTs, tO, tV, tK, tTr, truD, tNo, tAn, tOr', tAnV, tOrV', tNoV, tIfE, tN0, tCo, tTu, tLs, tCl, tFn, tMh, tRt, tRt0, tNx, tEx, tSe, tAs, gN, gS, gT, gsc, gs0, tU, i2_ii, i2c_ii, rNegD, intC, absD, minD, isD, eqi, eqs, eqb, nei, nes, neb, DL.rIsD, DL.rIsnD, addi, muli, tMe, tMe0, tBk, tCt, outD, EndsD.xk, startD, optP_some, List.map_cons, List.map_nil, List.length_cons, List.length_nil, List.cons_append, List.nil_append, List.append_nil, List.set_cons_zero, List.set_cons_succ, List.set_nil, List.getElem?_cons_zero, List.getElem?_cons_succ, List.replicate_succ, List.replicate_zero, Nat.zero_add, Nat.reduceAdd, Nat.reduceSub, decide_eq_true_eq, Bool.not_eq_true', decide_eq_false_iff_not, Bool.true_eq_false, if_false]
    refine ⟨F, L, _, _, rfl, wF, wL, ⟨rfl⟩, m2, ?_⟩
    simp only [wipeD, items_tup, items_lst, items_rng, tupleD, seqA_tup, seqA_lst, tSq, tIf', tTs, tO, tV, tK, tTr, truD, tNo, tAn, tOr', tAnV, tOrV', tNoV, tIfE, tN0, tCo, tTu, tLs, tCl, tFn, tMh, tRt, tRt0, tNx, tEx, tSe, tAs, gN, gS, gT, gsc, gs0, tU, i2_ii, i2c_ii, rNegD, intC, absD, minD, isD, eqi, eqs, eqb, nei, nes, neb, DL.rIsD, DL.rIsnD, addi, muli, tMe, tMe0, tBk, tCt, outD, EndsD.xk, startD, optP_some, List.map_cons, List.map_nil, List.length_cons, List.length_nil, List.cons_append, List.nil_append, List.append_nil, List.set_cons_zero, List.set_cons_succ, List.set_nil, List.getElem?_cons_zero, List.getElem?_cons_succ, List.replicate_succ, List.replicate_zero, Nat.zero_add, Nat.reduceAdd, Nat.reduceSub, decide_eq_true_eq, Bool.not_eq_true', decide_eq_false_iff_not, Bool.true_eq_false, if_false]
    subst hT
    try dsimp only
    refine tSq_step fun T hT => ?_
    simp only [wipeD, items_tup, items_lst, items_rng, tupleD, seqA_tup, seqA_lst, tSq, tIf', tTs, tO, tV, tK, tTr, truD, tNo, tAn, tOr', tAnV, tOrV', tNoV, tIfE, tN0, tCo, tTu, tLs, tCl, tFn, tMh, tRt, tRt0, tNx, tEx, tSe, tAs, gN, gS, gT, gsc, gs0, tU, i2_ii, i2c_ii, rNegD, intC, absD, minD, isD, eqi, eqs, eqb, nei, nes, neb, DL.rIsD, DL.rIsnD, addi, muli, tMe, tMe0, tBk, tCt, outD, EndsD.xk, startD, optP_some, List.map_cons, List.map_nil, List.length_cons, List.length_nil, List.cons_append, List.nil_append, List.append_nil, List.set_cons_zero, List.set_cons_succ, List.set_nil, List.getElem?_cons_zero, List.getElem?_cons_succ, List.replicate_succ, List.replicate_zero, Nat.zero_add, Nat.reduceAdd, Nat.reduceSub, decide_eq_true_eq, Bool.not_eq_true', decide_eq_false_iff_not]
    refine ⟨st, cs, F, G, f, rfl, S, wF, wG, mf, fun N9 _ S => ?_⟩
    simp only [wipeD, items_tup, items_lst, items_rng, tupleD, seqA_tup, seqA_lst, tSq, tIf', tTs, tO, tV, tK, tTr, truD, tNo, tAn, tOr', tAnV, tOrV', tNoV, tIfE, tN0, tCo, tTu, tLs, tCl, tFn, tMh, tRt, tRt0, tNx, tEx, tSe, tAs, gN, gS, gT, gsc, gs0, tU, i2_ii, i2c_ii, rNegD, intC, absD, minD, isD, eqi, eqs, eqb, nei, nes, neb, DL.rIsD, DL.rIsnD, addi, muli, tMe, tMe0, tBk, tCt, outD, EndsD.xk, startD, optP_some, List.map_cons, List.map_nil, List.length_cons, List.length_nil, List.cons_append, List.nil_append, List.append_nil, List.set_cons_zero, List.set_cons_succ, List.set_nil, List.getElem?_cons_zero, List.getElem?_cons_succ, List.replicate_succ, List.replicate_zero, Nat.zero_add, Nat.reduceAdd, Nat.reduceSub, decide_eq_true_eq, Bool.not_eq_true', decide_eq_false_iff_not, Bool.true_eq_false, if_false]
    refine ⟨(), rfl, ?_⟩
    simp only [wipeD, items_tup, items_lst, items_rng, tupleD, seqA_tup, seqA_lst, tSq, tIf', tTs, tO, tV, tK, tTr, truD, tNo, tAn, tOr', tAnV, tOrV', tNoV, tIfE, tN0, tCo, tTu, tLs, tCl, tFn, tMh, tRt, tRt0, tNx, tEx, tSe, tAs, gN, gS, gT, gsc, gs0, tU, i2_ii, i2c_ii, rNegD, intC, absD, minD, isD, eqi, eqs, eqb, nei, nes, neb, DL.rIsD, DL.rIsnD, addi, muli, tMe, tMe0, tBk, tCt, outD, EndsD.xk, startD, optP_some, List.map_cons, List.map_nil, List.length_cons, List.length_nil, List.cons_append, List.nil_append, List.append_nil, List.set_cons_zero, List.set_cons_succ, List.set_nil, List.getElem?_cons_zero, List.getElem?_cons_succ, List.replicate_succ, List.replicate_zero, Nat.zero_add, Nat.reduceAdd, Nat.reduceSub, decide_eq_true_eq, Bool.not_eq_true', decide_eq_false_iff_not, Bool.true_eq_false, if_false]
    subst hT
    try dsimp only
    refine tSq_step fun T hT => ?_
    have last : ∀ N : Md, T (outD Q X) [some (.scr ns), some (.ref st), some (.int g), some (.int large), some (worldD G), none, some (.lst (iL f)), some (worldD F), some (.lst (iL h2)), some (worldD L), some (.int at'), some (.lst (iL (f.take at'.toNat ++ [v] ++ f.drop (at' + 1).toNat))), some (.lst (iL (h2.take at'.toNat ++ [u] ++ h2.drop (at' + 1).toNat)))] N := fun N => by
      subst hT
      simp only [wipeD, items_tup, items_lst, items_rng, tupleD, seqA_tup, seqA_lst, tSq, tIf', tTs, tO, tV, tK, tTr, truD, tNo, tAn, tOr', tAnV, tOrV', tNoV, tIfE, tN0, tCo, tTu, tLs, tCl, tFn, tMh, tRt, tRt0, tNx, tEx, tSe, tAs, gN, gS, gT, gsc, gs0, tU, i2_ii, i2c_ii, rNegD, intC, absD, minD, isD, eqi, eqs, eqb, nei, nes, neb, DL.rIsD, DL.rIsnD, addi, muli, tMe, tMe0, tBk, tCt, outD, EndsD.xk, startD, optP_some, List.map_cons, List.map_nil, List.length_cons, List.length_nil, List.cons_append, List.nil_append, List.append_nil, List.set_cons_zero, List.set_cons_succ, List.set_nil, List.getElem?_cons_zero, List.getElem?_cons_succ, List.replicate_succ, List.replicate_zero, Nat.zero_add, Nat.reduceAdd, Nat.reduceSub, decide_eq_true_eq, Bool.not_eq_true', decide_eq_false_iff_not]
      exact ⟨F, G, _, f, rfl, wF, wG, ⟨rfl⟩, mf, out_ret (h N)⟩
    simp only [wipeD, items_tup, items_lst, items_rng, tupleD, seqA_tup, seqA_lst, tSq, tIf', tTs, tO, tV, tK, tTr, truD, tNo, tAn, tOr', tAnV, tOrV', tNoV, tIfE, tN0, tCo, tTu, tLs, tCl, tFn, tMh, tRt, tRt0, tNx, tEx, tSe, tAs, gN, gS, gT, gsc, gs0, tU, i2_ii, i2c_ii, rNegD, intC, absD, minD, isD, eqi, eqs, eqb, nei, nes, neb, DL.rIsD, DL.rIsnD, addi, muli, tMe, tMe0, tBk, tCt, outD, EndsD.xk, startD, optP_some, List.map_cons, List.map_nil, List.length_cons, List.length_nil, List.cons_append, List.nil_append, List.append_nil, List.set_cons_zero, List.set_cons_succ, List.set_nil, List.getElem?_cons_zero, List.getElem?_cons_succ, List.replicate_succ, List.replicate_zero, Nat.zero_add, Nat.reduceAdd, Nat.reduceSub, decide_eq_true_eq, Bool.not_eq_true', decide_eq_false_iff_not]
    by_cases q : large = 7
    · rw [if_pos q]
      refine ⟨st, cs, rfl, S, fun N10 _ S => ?_⟩
      simp only [wipeD, items_tup, items_lst, items_rng, tupleD, seqA_tup, seqA_lst, tSq, tIf', tTs, tO, tV, tK, tTr, truD, tNo, tAn, tOr', tAnV, tOrV', tNoV, tIfE, tN0, tCo, tTu, tLs, tCl, tFn, tMh, tRt, tRt0, tNx, tEx, tSe, tAs, gN, gS, gT, gsc, gs0, tU, i2_ii, i2c_ii, rNegD, intC, absD, minD, isD, eqi, eqs, eqb, nei, nes, neb, DL.rIsD, DL.rIsnD, addi, muli, tMe, tMe0, tBk, tCt, outD, EndsD.xk, startD, optP_some, List.map_cons, List.map_nil, List.length_cons, List.length_nil, List.cons_append, List.nil_append, List.append_nil, List.set_cons_zero, List.set_cons_succ, List.set_nil, List.getElem?_cons_zero, List.getElem?_cons_succ, List.replicate_succ, List.replicate_zero, Nat.zero_add, Nat.reduceAdd, Nat.reduceSub, decide_eq_true_eq, Bool.not_eq_true', decide_eq_false_iff_not, Bool.true_eq_false, if_false]
      exact last _
    · rw [if_neg q]
      simp only [Bool.false_eq_true, if_false]
      exact last _
end K15
namespace K15
open PySem PySem.Spec PyProof.Rows L2 DL
variable [B : Obs]
abbrev PP : Program := PySem.W.OpenLaw.prog PySem.Challenge.rw_framesays_k15_led_faults
variable {h : Heap} {w : World} {K : PySem.W.Frag} {mg : Str → Option Value} {base : Heap}
theorem h_is_kind_of (X : K.In h) (G : h.Ns mainGlobals mg) (c : DLH.obsK Hd.S K = DLH.valK Hd.S) : Has PP w K mg base 1 "is_kind" ["word"] (sp_is_kind K) := by
  obtain ⟨fd, F⟩ := DLH.def_ c 0 (d := Hd.d_is_kind) rfl
  have ok := w_is_kind (base := base) (P := PP) (w := w) (facts X G c)  F (fun ⟨_, e, _⟩ => by rw [e]; rfl) fun h => p_is_kind   h
  have bd : Binds K fd ["word"] [] := F.bindsN fun _ _ _ _ _ _ us hl => match us, hl with | [_], _ => rfl
  exact ⟨_, fd, ok, He.glo_ok X G (DLH.fact c 0 (f := .glo "is_kind") rfl), F.kp, bd⟩
theorem h_directions_of_of (X : K.In h) (G : h.Ns mainGlobals mg) (c : DLH.obsK Hd.S K = DLH.valK Hd.S) : Has PP w K mg base 3 "directions_of" ["kind"] (sp_directions_of K) := by
  obtain ⟨fd, F⟩ := DLH.def_ c 1 (d := Hd.d_directions_of) rfl
  have ok := w_directions_of (base := base) (P := PP) (w := w) (facts X G c) (h_is_kind_of X G c) F (fun ⟨_, e, _⟩ => by rw [e]; rfl) fun h => p_directions_of   h
  have bd : Binds K fd ["kind"] [] := F.bindsN fun _ _ _ _ _ _ us hl => match us, hl with | [_], _ => rfl
  exact ⟨_, fd, ok, He.glo_ok X G (DLH.fact c 1 (f := .glo "directions_of") rfl), F.kp, bd⟩
theorem h_check_kind_of (X : K.In h) (G : h.Ns mainGlobals mg) (c : DLH.obsK Hd.S K = DLH.valK Hd.S) : Has PP w K mg base 3 "check_kind" ["kind"] (sp_check_kind K) := by
  obtain ⟨fd, F⟩ := DLH.def_ c 2 (d := Hd.d_check_kind) rfl
  have ok := w_check_kind (base := base) (P := PP) (w := w) (facts X G c) (h_is_kind_of X G c) F (fun ⟨_, e, _⟩ => by rw [e]; rfl) fun h => p_check_kind   h
  have bd : Binds K fd ["kind"] [] := F.bindsN fun _ _ _ _ _ _ us hl => match us, hl with | [_], _ => rfl
  exact ⟨_, fd, ok, He.glo_ok X G (DLH.fact c 2 (f := .glo "check_kind") rfl), F.kp, bd⟩
theorem h_bits_of_of (X : K.In h) (G : h.Ns mainGlobals mg) (c : DLH.obsK Hd.S K = DLH.valK Hd.S) : Has PP w K mg base 1 "bits_of" ["mask"] (sp_bits_of K) := by
  obtain ⟨fd, F⟩ := DLH.def_ c 3 (d := Hd.d_bits_of) rfl
  have ok := w_bits_of (base := base) (P := PP) (w := w) (facts X G c)  F (fun ⟨_, e, _⟩ => by rw [e]; rfl) fun h => p_bits_of   h
  have bd : Binds K fd ["mask"] [] := F.bindsN fun _ _ _ _ _ _ us hl => match us, hl with | [_], _ => rfl
  exact ⟨_, fd, ok, He.glo_ok X G (DLH.fact c 3 (f := .glo "bits_of") rfl), F.kp, bd⟩
theorem h_Frame_mask_to_of (X : K.In h) (G : h.Ns mainGlobals mg) (c : DLH.obsK Hd.S K = DLH.valK Hd.S) : HasM PP w K mg base 1 (He.ga K "Frame") "mask_to" ["self", "direction", "place"] (sp_Frame_mask_to K) := by
  obtain ⟨fd, F⟩ := DLH.def_ c 4 (d := Hd.d_Frame_mask_to) rfl
  have ok := w_Frame_mask_to (base := base) (P := PP) (w := w) (facts X G c)  F (fun ⟨_, _, _, _, e, _⟩ => by rw [e]; rfl) fun h => p_Frame_mask_to  (facts X G c) h
  have bd : Binds K fd ["self", "direction", "place"] [] := F.bindsN fun _ _ _ _ _ _ us hl => match us, hl with | [_, _, _], _ => rfl
  exact ⟨He.cls_ok (DLH.fact c 61 (f := .cls "Frame") rfl), _, fd, ok, He.meth_ok (DLH.fact c 67 (f := .meth "Frame" "mask_to") rfl), bd⟩
theorem h_steps_of_led_of (X : K.In h) (G : h.Ns mainGlobals mg) (c : DLH.obsK Hd.S K = DLH.valK Hd.S) : Has PP w K mg base 4 "steps_of_led" ["frame", "kind"] (sp_steps_of_led K) := by
  obtain ⟨fd, F⟩ := DLH.def_ c 5 (d := Hd.d_steps_of_led) rfl
  have ok := w_steps_of_led (base := base) (P := PP) (w := w) (facts X G c) (h_directions_of_of X G c) (h_bits_of_of X G c) (h_Frame_mask_to_of X G c) F (fun ⟨_, _, _, e, _⟩ => by rw [e]; rfl) fun h => p_steps_of_led  (facts X G c) h
  have bd : Binds K fd ["frame", "kind"] [] := F.bindsN fun _ _ _ _ _ _ us hl => match us, hl with | [_, _], _ => rfl
  exact ⟨_, fd, ok, He.glo_ok X G (DLH.fact c 4 (f := .glo "steps_of_led") rfl), F.kp, bd⟩
theorem h__fault_at_of (X : K.In h) (G : h.Ns mainGlobals mg) (c : DLH.obsK Hd.S K = DLH.valK Hd.S) : Has PP w K mg base 4 "_fault_at" ["place", "ahead", "allowed", "images", "kind"] (sp__fault_at K) := by
  obtain ⟨fd, F⟩ := DLH.def_ c 6 (d := Hd.d__fault_at) rfl
  have ok := w__fault_at (base := base) (P := PP) (w := w) (facts X G c) (h_directions_of_of X G c) F (fun ⟨_, _, _, _, _, _, e, _⟩ => by rw [e]; rfl) fun h => p__fault_at   h
  have bd : Binds K fd ["place", "ahead", "allowed", "images", "kind"] [] := F.bindsN fun _ _ _ _ _ _ us hl => match us, hl with | [_, _, _, _, _], _ => rfl
  exact ⟨_, fd, ok, He.glo_ok X G (DLH.fact c 5 (f := .glo "_fault_at") rfl), F.kp, bd⟩
theorem h_check_map_of (X : K.In h) (G : h.Ns mainGlobals mg) (c : DLH.obsK Hd.S K = DLH.valK Hd.S) : Has PP w K mg base 3 "check_map" ["images", "size", "goals"] (sp_check_map K) := by
  obtain ⟨fd, F⟩ := DLH.def_ c 7 (d := Hd.d_check_map) rfl
  have ok := w_check_map (base := base) (P := PP) (w := w) (facts X G c)  F (fun ⟨_, _, _, _, e, _⟩ => by rw [e]; rfl) fun h => p_check_map   h
  have bd : Binds K fd ["images", "size", "goals"] [] := F.bindsN fun _ _ _ _ _ _ us hl => match us, hl with | [_, _, _], _ => rfl
  exact ⟨_, fd, ok, He.glo_ok X G (DLH.fact c 6 (f := .glo "check_map") rfl), F.kp, bd⟩
theorem h_map_fault_of (X : K.In h) (G : h.Ns mainGlobals mg) (c : DLH.obsK Hd.S K = DLH.valK Hd.S) : Has PP w K mg base 5 "map_fault" ["first", "second", "images", "kind"] (sp_map_fault K) := by
  obtain ⟨fd, F⟩ := DLH.def_ c 8 (d := Hd.d_map_fault) rfl
  have ok := w_map_fault (base := base) (P := PP) (w := w) (facts X G c) (h_steps_of_led_of X G c) (h__fault_at_of X G c) F (fun ⟨_, _, _, _, _, _, _, e, _⟩ => by rw [e]; rfl) fun h => p_map_fault  (facts X G c) h
  have bd : Binds K fd ["first", "second", "images", "kind"] [] := F.bindsN fun _ _ _ _ _ _ us hl => match us, hl with | [_, _, _, _], _ => rfl
  exact ⟨_, fd, ok, He.glo_ok X G (DLH.fact c 7 (f := .glo "map_fault") rfl), F.kp, bd⟩
theorem h_led_fault_of (X : K.In h) (G : h.Ns mainGlobals mg) (c : DLH.obsK Hd.S K = DLH.valK Hd.S) : Has PP w K mg base 6 "led_fault" ["first", "second", "images", "kind"] (sp_led_fault K) := by
  obtain ⟨fd, F⟩ := DLH.def_ c 9 (d := Hd.d_led_fault) rfl
  have ok := w_led_fault (base := base) (P := PP) (w := w) (facts X G c) (h_check_kind_of X G c) (h_check_map_of X G c) (h_map_fault_of X G c) F (fun ⟨_, _, _, _, _, _, _, e, _⟩ => by rw [e]; rfl) fun h => p_led_fault  (facts X G c) h
  have bd : Binds K fd ["first", "second", "images", "kind"] [] := F.bindsN fun _ _ _ _ _ _ us hl => match us, hl with | [_, _, _, _], _ => rfl
  exact ⟨_, fd, ok, He.glo_ok X G (DLH.fact c 8 (f := .glo "led_fault") rfl), F.kp, bd⟩
theorem h_is_led_of (X : K.In h) (G : h.Ns mainGlobals mg) (c : DLH.obsK Hd.S K = DLH.valK Hd.S) : Has PP w K mg base 6 "is_led" ["first", "second", "images", "kind"] (sp_is_led K) := by
  obtain ⟨fd, F⟩ := DLH.def_ c 10 (d := Hd.d_is_led) rfl
  have ok := w_is_led (base := base) (P := PP) (w := w) (facts X G c) (h_check_kind_of X G c) (h_check_map_of X G c) (h_map_fault_of X G c) F (fun ⟨_, _, _, _, _, _, _, e, _⟩ => by rw [e]; rfl) fun h => p_is_led  (facts X G c) h
  have bd : Binds K fd ["first", "second", "images", "kind"] [] := F.bindsN fun _ _ _ _ _ _ us hl => match us, hl with | [_, _, _, _], _ => rfl
  exact ⟨_, fd, ok, He.glo_ok X G (DLH.fact c 9 (f := .glo "is_led") rfl), F.kp, bd⟩
theorem h_steps_of_frames_of (X : K.In h) (G : h.Ns mainGlobals mg) (c : DLH.obsK Hd.S K = DLH.valK Hd.S) : Has PP w K mg base 1 "steps_of_frames" ["size", "a", "b", "c"] (sp_steps_of_frames K) := by
  obtain ⟨fd, F⟩ := DLH.def_ c 11 (d := Hd.d_steps_of_frames) rfl
  have ok := w_steps_of_frames (base := base) (P := PP) (w := w) (facts X G c)  F (fun ⟨_, e, _⟩ => by rw [e]; rfl) fun h => p_steps_of_frames   h
  have bd : Binds K fd ["size", "a", "b", "c"] [] := F.bindsN fun _ _ _ _ _ _ us hl => match us, hl with | [_, _, _, _], _ => rfl
  exact ⟨_, fd, ok, He.glo_ok X G (DLH.fact c 10 (f := .glo "steps_of_frames") rfl), F.kp, bd⟩
theorem h__pairs_of_of (X : K.In h) (G : h.Ns mainGlobals mg) (c : DLH.obsK Hd.S K = DLH.valK Hd.S) : Has PP w K mg base 2 "_pairs_of" ["masks"] (sp__pairs_of K) := by
  obtain ⟨fd, F⟩ := DLH.def_ c 12 (d := Hd.d__pairs_of) rfl
  have ok := w__pairs_of (base := base) (P := PP) (w := w) (facts X G c) (h_bits_of_of X G c) F (fun ⟨_, _, e, _⟩ => by rw [e]; rfl) fun h => p__pairs_of   h
  have bd : Binds K fd ["masks"] [] := F.bindsN fun _ _ _ _ _ _ us hl => match us, hl with | [_], _ => rfl
  exact ⟨_, fd, ok, He.glo_ok X G (DLH.fact c 11 (f := .glo "_pairs_of") rfl), F.kp, bd⟩
theorem h__text_of_of (X : K.In h) (G : h.Ns mainGlobals mg) (c : DLH.obsK Hd.S K = DLH.valK Hd.S) : Has PP w K mg base 3 "_text_of" ["size", "steps"] (sp__text_of K) := by
  obtain ⟨fd, F⟩ := DLH.def_ c 13 (d := Hd.d__text_of) rfl
  have ok := w__text_of (base := base) (P := PP) (w := w) (facts X G c) (h__pairs_of_of X G c) F (fun ⟨_, e, _⟩ => by rw [e]; rfl) fun h => p__text_of   h
  have bd : Binds K fd ["size", "steps"] [] := F.bindsN fun _ _ _ _ _ _ us hl => match us, hl with | [_, _], _ => rfl
  exact ⟨_, fd, ok, He.glo_ok X G (DLH.fact c 12 (f := .glo "_text_of") rfl), F.kp, bd⟩
theorem h_Frame_of (X : K.In h) (G : h.Ns mainGlobals mg) (c : DLH.obsK Hd.S K = DLH.valK Hd.S) : HasC PP w K mg base 4 "Frame" (He.ga K "Frame") ["self", "size", "a", "b", "c"] (sp_Frame___init__ K) := by
  obtain ⟨fd, F⟩ := DLH.def_ c 14 (d := Hd.d_Frame___init__) rfl
  have ok := w_Frame___init__ (base := base) (P := PP) (w := w) (facts X G c) (h_steps_of_frames_of X G c) (h__text_of_of X G c) F (fun ⟨_, _, e, _⟩ => by rw [e]; rfl) fun h => p_Frame___init__  (facts X G c) h
  have bd : Binds K fd ["self", "size", "a", "b", "c"] [] := by
    obtain ⟨ds, v, b⟩ := F.binds1 (ps := ["self", "size", "a", "b", "c"]) 5 3 (List.cons_ne_nil _ _) rfl fun T kV doc pm an cdv ct us its hl hl2 => match us, hl, its, hl2 with | [_, _, _, _, _], _, [_, _, _], _ => ⟨_, rfl, rfl⟩
    cases v
    exact b
  exact ⟨He.glo_ok X G (DLH.fact c 41 (f := .glo "Frame") rfl), _, fd, ok, He.mkr_ok (DLH.fact c 62 (f := .mkr "Frame") rfl), bd⟩
theorem h__law_state_of (X : K.In h) (G : h.Ns mainGlobals mg) (c : DLH.obsK Hd.S K = DLH.valK Hd.S) : Has PP w K mg base 1 "_law_state" ["script"] (sp__law_state K) := by
  obtain ⟨fd, F⟩ := DLH.def_ c 15 (d := Hd.d__law_state) rfl
  have ok := w__law_state (base := base) (P := PP) (w := w) (facts X G c)  F (fun ⟨_, e, _⟩ => by rw [e]; rfl) fun h => p__law_state   h
  have bd : Binds K fd ["script"] [] := F.bindsN fun _ _ _ _ _ _ us hl => match us, hl with | [_], _ => rfl
  exact ⟨_, fd, ok, He.glo_ok X G (DLH.fact c 13 (f := .glo "_law_state") rfl), F.kp, bd⟩
theorem h__law_take_of (X : K.In h) (G : h.Ns mainGlobals mg) (c : DLH.obsK Hd.S K = DLH.valK Hd.S) : Has PP w K mg base 1 "_law_take" ["st", "many"] (sp__law_take K) := by
  obtain ⟨fd, F⟩ := DLH.def_ c 16 (d := Hd.d__law_take) rfl
  have ok := w__law_take (base := base) (P := PP) (w := w) (facts X G c)  F (fun ⟨_, _, _, e, _⟩ => by rw [e]; rfl) fun h => p__law_take   h
  have bd : Binds K fd ["st", "many"] [] := F.bindsN fun _ _ _ _ _ _ us hl => match us, hl with | [_, _], _ => rfl
  exact ⟨_, fd, ok, He.glo_ok X G (DLH.fact c 14 (f := .glo "_law_take") rfl), F.kp, bd⟩
theorem h__law_way_of (X : K.In h) (G : h.Ns mainGlobals mg) (c : DLH.obsK Hd.S K = DLH.valK Hd.S) : Has PP w K mg base 2 "_law_way" ["st", "size"] (sp__law_way K) := by
  obtain ⟨fd, F⟩ := DLH.def_ c 17 (d := Hd.d__law_way) rfl
  have ok := w__law_way (base := base) (P := PP) (w := w) (facts X G c) (h__law_take_of X G c) F (fun ⟨_, _, _, e, _⟩ => by rw [e]; rfl) fun h => p__law_way   h
  have bd : Binds K fd ["st", "size"] [] := F.bindsN fun _ _ _ _ _ _ us hl => match us, hl with | [_, _], _ => rfl
  exact ⟨_, fd, ok, He.glo_ok X G (DLH.fact c 15 (f := .glo "_law_way") rfl), F.kp, bd⟩
theorem h__law_same_of (X : K.In h) (G : h.Ns mainGlobals mg) (c : DLH.obsK Hd.S K = DLH.valK Hd.S) : Has PP w K mg base 1 "_law_same" ["told", "due"] (sp__law_same K) := by
  obtain ⟨fd, F⟩ := DLH.def_ c 18 (d := Hd.d__law_same) rfl
  have ok := w__law_same (base := base) (P := PP) (w := w) (facts X G c)  F (fun ⟨_, e, _⟩ => by rw [e]; rfl) fun h => p__law_same   h
  have bd : Binds K fd ["told", "due"] [] := F.bindsN fun _ _ _ _ _ _ us hl => match us, hl with | [_, _], _ => rfl
  exact ⟨_, fd, ok, He.glo_ok X G (DLH.fact c 16 (f := .glo "_law_same") rfl), F.kp, bd⟩
theorem hh__law_same_of (X : K.In h) (G : h.Ns mainGlobals mg) (c : DLH.obsK Hd.S K = DLH.valK Hd.S) : HasX PP w K mg base 1 "_law_same" ["told", "due"] (spx__law_same K) := by
  obtain ⟨fd, F⟩ := DLH.def_ c 18 (d := Hd.d__law_same) rfl
  have ok := wh__law_same (base := base) (P := PP) (w := w) (facts X G c)  F (fun ⟨_, e, _⟩ => by rw [e]; rfl) fun h => p__law_same (X := X0)  h
  have bd : Binds K fd ["told", "due"] [] := F.bindsN fun _ _ _ _ _ _ us hl => match us, hl with | [_, _], _ => rfl
  exact ⟨_, fd, ok, He.glo_ok X G (DLH.fact c 16 (f := .glo "_law_same") rfl), F.kp, bd⟩
theorem h__law_table_of (X : K.In h) (G : h.Ns mainGlobals mg) (c : DLH.obsK Hd.S K = DLH.valK Hd.S) : Has PP w K mg base 1 "_law_table" ["size", "steps"] (sp__law_table K) := by
  obtain ⟨fd, F⟩ := DLH.def_ c 19 (d := Hd.d__law_table) rfl
  have ok := w__law_table (base := base) (P := PP) (w := w) (facts X G c)  F (fun ⟨_, e, _⟩ => by rw [e]; rfl) fun h => p__law_table   h
  have bd : Binds K fd ["size", "steps"] [] := F.bindsN fun _ _ _ _ _ _ us hl => match us, hl with | [_, _], _ => rfl
  exact ⟨_, fd, ok, He.glo_ok X G (DLH.fact c 17 (f := .glo "_law_table") rfl), F.kp, bd⟩
theorem h__law_words_of (X : K.In h) (G : h.Ns mainGlobals mg) (c : DLH.obsK Hd.S K = DLH.valK Hd.S) : Has PP w K mg base 1 "_law_words" ["kind"] (sp__law_words K) := by
  obtain ⟨fd, F⟩ := DLH.def_ c 20 (d := Hd.d__law_words) rfl
  have ok := w__law_words (base := base) (P := PP) (w := w) (facts X G c)  F (fun ⟨_, e, _⟩ => by rw [e]; rfl) fun h => p__law_words   h
  have bd : Binds K fd ["kind"] [] := F.bindsN fun _ _ _ _ _ _ us hl => match us, hl with | [_], _ => rfl
  exact ⟨_, fd, ok, He.glo_ok X G (DLH.fact c 18 (f := .glo "_law_words") rfl), F.kp, bd⟩
theorem h__law_fault_at_of (X : K.In h) (G : h.Ns mainGlobals mg) (c : DLH.obsK Hd.S K = DLH.valK Hd.S) : Has PP w K mg base 1 "_law_fault_at" ["one", "two", "f", "kind", "e", "x"] (sp__law_fault_at K) := by
  obtain ⟨fd, F⟩ := DLH.def_ c 21 (d := Hd.d__law_fault_at) rfl
  have ok := w__law_fault_at (base := base) (P := PP) (w := w) (facts X G c)  F (fun ⟨_, _, _, _, _, _, _, e, _⟩ => by rw [e]; rfl) fun h => p__law_fault_at   h
  have bd : Binds K fd ["one", "two", "f", "kind", "e", "x"] [] := F.bindsN fun _ _ _ _ _ _ us hl => match us, hl with | [_, _, _, _, _, _], _ => rfl
  exact ⟨_, fd, ok, He.glo_ok X G (DLH.fact c 19 (f := .glo "_law_fault_at") rfl), F.kp, bd⟩
theorem h__law_fault_of (X : K.In h) (G : h.Ns mainGlobals mg) (c : DLH.obsK Hd.S K = DLH.valK Hd.S) : Has PP w K mg base 2 "_law_fault" ["one", "two", "f", "kind"] (sp__law_fault K) := by
  obtain ⟨fd, F⟩ := DLH.def_ c 22 (d := Hd.d__law_fault) rfl
  have ok := w__law_fault (base := base) (P := PP) (w := w) (facts X G c) (h__law_words_of X G c) (h__law_fault_at_of X G c) F (fun ⟨_, _, _, _, _, e, _⟩ => by rw [e]; rfl) fun h => p__law_fault   h
  have bd : Binds K fd ["one", "two", "f", "kind"] [] := F.bindsN fun _ _ _ _ _ _ us hl => match us, hl with | [_, _, _, _], _ => rfl
  exact ⟨_, fd, ok, He.glo_ok X G (DLH.fact c 20 (f := .glo "_law_fault") rfl), F.kp, bd⟩
theorem h__law_copies_of (X : K.In h) (G : h.Ns mainGlobals mg) (c : DLH.obsK Hd.S K = DLH.valK Hd.S) : Has PP w K mg base 2 "_law_copies" ["st", "steps", "f", "mode"] (sp__law_copies K) := by
  obtain ⟨fd, F⟩ := DLH.def_ c 23 (d := Hd.d__law_copies) rfl
  have ok := w__law_copies (base := base) (P := PP) (w := w) (facts X G c) (h__law_take_of X G c) F (fun ⟨_, _, _, _, _, _, _, _, e, _⟩ => by rw [e]; rfl) fun h => p__law_copies   h
  have bd : Binds K fd ["st", "steps", "f", "mode"] [] := F.bindsN fun _ _ _ _ _ _ us hl => match us, hl with | [_, _, _, _], _ => rfl
  exact ⟨_, fd, ok, He.glo_ok X G (DLH.fact c 21 (f := .glo "_law_copies") rfl), F.kp, bd⟩
theorem h__law_over_of (X : K.In h) (G : h.Ns mainGlobals mg) (c : DLH.obsK Hd.S K = DLH.valK Hd.S) : Has PP w K mg base 3 "_law_over" ["st", "goals", "steps"] (sp__law_over K) := by
  obtain ⟨fd, F⟩ := DLH.def_ c 24 (d := Hd.d__law_over) rfl
  have ok := w__law_over (base := base) (P := PP) (w := w) (facts X G c) (h__law_take_of X G c) (h__law_copies_of X G c) (h__law_way_of X G c) F (fun ⟨_, _, _, _, _, _, e, _⟩ => by rw [e]; rfl) fun h => p__law_over   h
  have bd : Binds K fd ["st", "goals", "steps"] [] := F.bindsN fun _ _ _ _ _ _ us hl => match us, hl with | [_, _, _], _ => rfl
  exact ⟨_, fd, ok, He.glo_ok X G (DLH.fact c 22 (f := .glo "_law_over") rfl), F.kp, bd⟩
theorem h__law_frame_of (X : K.In h) (G : h.Ns mainGlobals mg) (c : DLH.obsK Hd.S K = DLH.valK Hd.S) : Has PP w K mg base 6 "_law_frame" ["world"] (sp__law_frame K) := by
  obtain ⟨fd, F⟩ := DLH.def_ c 25 (d := Hd.d__law_frame) rfl
  have ok := w__law_frame (base := base) (P := PP) (w := w) (facts X G c) (h_Frame_of X G c) F (fun ⟨_, e, _⟩ => by rw [e]; rfl) fun h => p__law_frame   h
  have bd : Binds K fd ["world"] [] := F.bindsN fun _ _ _ _ _ _ us hl => match us, hl with | [_], _ => rfl
  exact ⟨_, fd, ok, He.glo_ok X G (DLH.fact c 23 (f := .glo "_law_frame") rfl), F.kp, bd⟩
theorem h__law_asked_of (X : K.In h) (G : h.Ns mainGlobals mg) (c : DLH.obsK Hd.S K = DLH.valK Hd.S) : Has PP w K mg base 7 "_law_asked" ["source", "target", "f"] (sp__law_asked K) := by
  obtain ⟨fd, F⟩ := DLH.def_ c 26 (d := Hd.d__law_asked) rfl
  have ok := w__law_asked (base := base) (P := PP) (w := w) (facts X G c) (h__law_frame_of X G c) (h__law_table_of X G c) (h__law_fault_of X G c) (h__law_same_of X G c) (h_led_fault_of X G c) (h_is_led_of X G c) F (fun ⟨_, _, _, _, e, _⟩ => by rw [e]; rfl) fun h => p__law_asked   h
  have bd : Binds K fd ["source", "target", "f"] [] := F.bindsN fun _ _ _ _ _ _ us hl => match us, hl with | [_, _, _], _ => rfl
  exact ⟨_, fd, ok, He.glo_ok X G (DLH.fact c 24 (f := .glo "_law_asked") rfl), F.kp, bd⟩
theorem hh__law_told_of (X : K.In h) (G : h.Ns mainGlobals mg) (c : DLH.obsK Hd.S K = DLH.valK Hd.S) : HasX PP w K mg base 2 "_law_told" ["e", "at"] (spx__law_told K) := by
  obtain ⟨fd, F⟩ := DLH.def_ c 27 (d := Hd.d__law_told) rfl
  have ok := wh__law_told (base := base) (P := PP) (w := w) (facts X G c) (hh__law_same_of X G c) F (fun ⟨_, _, e, _⟩ => by rw [e]; rfl) fun h => p__law_told  (facts X G c) h
  have bd : Binds K fd ["e", "at"] [] := F.bindsN fun _ _ _ _ _ _ us hl => match us, hl with | [_, _], _ => rfl
  exact ⟨_, fd, ok, He.glo_ok X G (DLH.fact c 25 (f := .glo "_law_told") rfl), F.kp, bd⟩
theorem h__law_refused_of (X : K.In h) (G : h.Ns mainGlobals mg) (c : DLH.obsK Hd.S K = DLH.valK Hd.S) : Has PP w K mg base 7 "_law_refused" ["first", "second", "f", "kind", "at"] (sp__law_refused K) := by
  obtain ⟨fd, F⟩ := DLH.def_ c 28 (d := Hd.d__law_refused) rfl
  have ok := w__law_refused (base := base) (P := PP) (w := w) (facts X G c) (h_led_fault_of X G c) (hh__law_told_of X G c) (h_is_led_of X G c) F (fun ⟨_, _, _, _, _, _, _, e, _⟩ => by rw [e]; rfl) fun h => p__law_refused  (facts X G c) h
  have bd : Binds K fd ["first", "second", "f", "kind", "at"] [] := F.bindsN fun _ _ _ _ _ _ us hl => match us, hl with | [_, _, _, _, _], _ => rfl
  exact ⟨_, fd, ok, He.glo_ok X G (DLH.fact c 26 (f := .glo "_law_refused") rfl), F.kp, bd⟩
theorem h__law_wrong_maps_of (X : K.In h) (G : h.Ns mainGlobals mg) (c : DLH.obsK Hd.S K = DLH.valK Hd.S) : Has PP w K mg base 8 "_law_wrong_maps" ["st", "source", "target", "f"] (sp__law_wrong_maps K) := by
  obtain ⟨fd, F⟩ := DLH.def_ c 29 (d := Hd.d__law_wrong_maps) rfl
  have ok := w__law_wrong_maps (base := base) (P := PP) (w := w) (facts X G c) (h__law_take_of X G c) (h__law_refused_of X G c) (h__law_frame_of X G c) F (fun ⟨_, _, _, _, _, e, _⟩ => by rw [e]; rfl) fun h => p__law_wrong_maps   h
  have bd : Binds K fd ["st", "source", "target", "f"] [] := F.bindsN fun _ _ _ _ _ _ us hl => match us, hl with | [_, _, _, _], _ => rfl
  exact ⟨_, fd, ok, He.glo_ok X G (DLH.fact c 27 (f := .glo "_law_wrong_maps") rfl), F.kp, bd⟩
theorem h__law_told_pairs_of (X : K.In h) (G : h.Ns mainGlobals mg) (c : DLH.obsK Hd.S K = DLH.valK Hd.S) : Has PP w K mg base 8 "_law_told_pairs" [] (sp__law_told_pairs K) := by
  obtain ⟨fd, F⟩ := DLH.def_ c 30 (d := Hd.d__law_told_pairs) rfl
  have ok := w__law_told_pairs (base := base) (P := PP) (w := w) (facts X G c) (h__law_asked_of X G c) F (fun ⟨_, e, _⟩ => by rw [e]; rfl) fun h => p__law_told_pairs   h
  have bd : Binds K fd [] [] := F.bindsN fun _ _ _ _ _ _ us hl => match us, hl with | [], _ => rfl
  exact ⟨_, fd, ok, He.glo_ok X G (DLH.fact c 28 (f := .glo "_law_told_pairs") rfl), F.kp, bd⟩
theorem h__law_rings_of (X : K.In h) (G : h.Ns mainGlobals mg) (c : DLH.obsK Hd.S K = DLH.valK Hd.S) : Has PP w K mg base 8 "_law_rings" ["st"] (sp__law_rings K) := by
  obtain ⟨fd, F⟩ := DLH.def_ c 31 (d := Hd.d__law_rings) rfl
  have ok := w__law_rings (base := base) (P := PP) (w := w) (facts X G c) (h__law_take_of X G c) (h__law_asked_of X G c) F (fun ⟨_, _, e, _⟩ => by rw [e]; rfl) fun h => p__law_rings   h
  have bd : Binds K fd ["st"] [] := F.bindsN fun _ _ _ _ _ _ us hl => match us, hl with | [_], _ => rfl
  exact ⟨_, fd, ok, He.glo_ok X G (DLH.fact c 29 (f := .glo "_law_rings") rfl), F.kp, bd⟩
theorem h__law_renumbered_of (X : K.In h) (G : h.Ns mainGlobals mg) (c : DLH.obsK Hd.S K = DLH.valK Hd.S) : Has PP w K mg base 2 "_law_renumbered" ["st", "source"] (sp__law_renumbered K) := by
  obtain ⟨fd, F⟩ := DLH.def_ c 32 (d := Hd.d__law_renumbered) rfl
  have ok := w__law_renumbered (base := base) (P := PP) (w := w) (facts X G c) (h__law_take_of X G c) F (fun ⟨_, _, _, e, _⟩ => by rw [e]; rfl) fun h => p__law_renumbered   h
  have bd : Binds K fd ["st", "source"] [] := F.bindsN fun _ _ _ _ _ _ us hl => match us, hl with | [_, _], _ => rfl
  exact ⟨_, fd, ok, He.glo_ok X G (DLH.fact c 30 (f := .glo "_law_renumbered") rfl), F.kp, bd⟩
theorem h_law_of (X : K.In h) (G : h.Ns mainGlobals mg) (c : DLH.obsK Hd.S K = DLH.valK Hd.S) : Has PP w K mg base 9 "law" ["script"] (sp_law K) := by
  obtain ⟨fd, F⟩ := DLH.def_ c 33 (d := Hd.d_law) rfl
  have ok := w_law (base := base) (P := PP) (w := w) (facts X G c) (h__law_state_of X G c) (h__law_take_of X G c) (h__law_way_of X G c) (h__law_over_of X G c) (h__law_renumbered_of X G c) (h__law_asked_of X G c) (h__law_told_pairs_of X G c) (h__law_wrong_maps_of X G c) (h__law_rings_of X G c) F (fun ⟨_, e, _⟩ => by rw [e]; rfl) fun h => p_law   h
  have bd : Binds K fd ["script"] [] := F.bindsN fun _ _ _ _ _ _ us hl => match us, hl with | [_], _ => rfl
  exact ⟨_, fd, ok, He.glo_ok X G (DLH.fact c 31 (f := .glo "law") rfl), F.kp, bd⟩
end K15
set_option maxHeartbeats 0
namespace K15
open PySem PySem.Spec PyProof.Rows L2 DL
def B0 : Obs := ⟨Unit, fun _ _ _ _ => False, fun _ h => h⟩
theorem law_kept [B : Obs] {h : Heap} {w : World} {K : PySem.W.Frag} {mg : Str → Option Value} {fa : Addr} (X : K.In h) (G : h.Ns mainGlobals mg) (hfa : mg ("law" : Str) = some (.ref fa)) (c : DLH.obsK Hd.S K = DLH.valK Hd.S) :
    ∃ fd : FuncData, (∀ (s : Shared) (u : Value), BindsTo s fd ⟨[u], []⟩ [("script", u)]) ∧ ∀ base : Heap, K.In base → base.Ns mainGlobals mg → FnD PP w K mg base 9 fa fd ["script"] (spLaw 63) := by
  obtain ⟨fd, F⟩ := DLH.def_ c 33 (d := Hd.d_law) rfl
  have e := hfa.symm.trans (He.glo_ok X G (DLH.fact c 31 (f := .glo "law") rfl))
  cases e
  have b := FunD.bindsA (ps := ["script"]) F fun _ _ _ _ _ _ us hl => match us, hl with | [_], _ => rfl
  refine ⟨fd, fun s v => b s [v] rfl, fun base _ _ => ?_⟩
  have ok := w_law (base := base) (P := PP) (w := w) (facts X G c) (h__law_state_of X G c) (h__law_take_of X G c) (h__law_way_of X G c) (h__law_over_of X G c) (h__law_renumbered_of X G c) (h__law_asked_of X G c) (h__law_told_pairs_of X G c) (h__law_wrong_maps_of X G c) (h__law_rings_of X G c) F (fun ⟨_, e, _⟩ => by rw [e]; rfl) fun h => p_law   h
  exact ok
end K15
open PySem PySem.W PySem.Calls PyProof.Rows
theorem PySem.Challenge.cw_framesays_k15_led_faults_holds : PySem.Challenge.rw_framesays_k15_led_faults.Holds := by
  w_on; o_law
  refine HandSHeadRun.head_any (r := OpenLaw.row PySem.Challenge.rw_framesays_k15_led_faults) (q := view (OpenLaw.row PySem.Challenge.rw_framesays_k15_led_faults).prog [65]) (H := K15.Hd.hk) (ob := K15.Hd.ob) (M := 6000) (loose := K15.Hd.loose) (d := HandSHeadRun.topDef (OpenLaw.row PySem.Challenge.rw_framesays_k15_led_faults).prog 65) (kwd := []) K15.Hd.ob_eq
    (by kernel_rfl) (fun s => by kernel_rfl) K15.Hd.run (by kernel_rfl) (by kernel_rfl) (by kernel_rfl) (by rfl) (by first | assumption | decide +kernel) (by decide +kernel) ⟨rfl, rfl, rfl, rfl, rfl, by decide +kernel⟩ ?hw ?hc
  case hw => w_witness2
  case hc =>
    refine DL.walk_ofG (B := K15.B0) (l := PySem.Challenge.rw_framesays_k15_led_faults) (n := 63) (k := 9) (x := "script") rfl (by decide) (by kernel_rfl) ⟨rfl, by decide, by decide⟩ ?F
    intro w mg fa h Y G hmg0
    obtain ⟨K, KX, c⟩ := Y
    have hmg : mg ("law" : PySem.Str) = some (.ref fa) := by
      have e : (HandSHeadRun.topDef (OpenLaw.row PySem.Challenge.rw_framesays_k15_led_faults).prog 65).name = ("law" : PySem.Str) := by kernel_rfl
      rw [← e]
      exact hmg0
    obtain ⟨fd, hb, hF⟩ := K15.law_kept (B := K15.B0) KX G hmg c
    exact ⟨K, fd, KX, hb, hF⟩
