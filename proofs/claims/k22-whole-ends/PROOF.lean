import PyProof.Rows.All
import Wide.All
import OpenK.AllK
import Wide.FinOn
import KE.KStateDown
import Lean
import HandS.Base
import HandS.Call
import HandS.Ends
import HandS.More
import HandS.Words
import HandS.WordsExc
import HandS.Defaults
import HandS.Head0
import HandS.Head1
import HandS.Head2
import HandS.HeadEnd
import HandS.HeadHook1
import HandS.HeadHook2
import HandS.ForMost
import HandS.ForExc
import HandS.Flow
import HandS.TupAny
import HandS.TupMul
import HandS.Deep
import HandS.Style
import HandS.Text
import KE.LtData
import HandS.IsInst
import PyProof.ReprRoads
import PyProof.CallFns
import KE.SortData
import HandS.Zip
import HandS.DictComp
import KE.GoesEnum
import HandS.Star
import KE.KDictLaws
import HandS.Strs
import KE.DataFind
import HandS.TupSets
import HandS.SetTxt0
import HandS.SetFor
import PyProof.Transfer
import PyProof.TupleOfSeq
import PySem.Challenge.RW_roomrings_k22_whole_ends
set_option Elab.async false
set_option linter.all false
set_option maxRecDepth 100000
/-! Dn1: values of the denotations, their relation to the hand layer's values and heap. -/
namespace Dn
open PySem PySem.Spec PyProof.Rows L2

/-- pure data: no reference to anything that may change -/
inductive P where
  | non | bl (b : Bool) | int (i : Int) | str (s : Str)
  | tup (xs : List P) | lst (xs : List P)
  | dic (kvs : List (Key × P)) | dit (kvs : List (List Key × P))
/-- a value: pure, a cell of the local heap, the law's script, the module's own empty tuple (a default), a tuple just made, known to be plain -/
inductive D where
  | pu (p : P) | ref (n : Nat) | scr (ns : List Int) | ke | tz (ps : List P)
/-- what lies in a cell -/
inductive Cl where
  | lst (xs : List D) | dic (kvs : List (Key × D)) | dit (kvs : List (List Key × D)) | dead
abbrev IH := List Cl
abbrev Ev := List (Option D)

/-- the result of a step: a value, an exception (the class's name, its fields), or no answer -/
inductive R (α : Type) where
  | ok (a : α) | exc (c : Str) (fs : List (Str × P)) (h : IH) | stuck
def R.bind {α β : Type} : R α → (α → R β) → R β
  | .ok a, f => f a
  | .exc c fs h, _ => .exc c fs h
  | .stuck, _ => .stuck

section
variable (H : Hp) (B : Addr → Prop)
mutual
/-- pure data at a value of the hand layer; B: the addresses that may change -/
def RP : P → V → Prop
  | .non, v => v = .non
  | .bl b, v => v = .bl b
  | .int i, v => v = .int i
  | .str s, v => v = .str s
  | .tup ps, v => ∃ a vs, v = .ref a ∧ H a = some (.tup vs) ∧ RPs ps vs
  | .lst ps, v => ∃ a vs, v = .ref a ∧ H a = some (.lst vs) ∧ ¬ B a ∧ RPs ps vs
  | .dic ks, v => ∃ a o kvs, v = .ref a ∧ H a = some (.frz o (.dK kvs)) ∧ RPk ks kvs
  | .dit ks, v => ∃ a o kvs, v = .ref a ∧ H a = some (.frz o (.dT kvs)) ∧ RPt ks kvs
def RPs : List P → List V → Prop
  | [], vs => vs = []
  | p :: ps, vs => ∃ v r, vs = v :: r ∧ RP p v ∧ RPs ps r
def RPk : List (Key × P) → List (Key × V) → Prop
  | [], vs => vs = []
  | (k, p) :: ps, vs => ∃ v r, vs = (k, v) :: r ∧ RP p v ∧ RPk ps r
def RPt : List (List Key × P) → List (List Key × V) → Prop
  | [], vs => vs = []
  | (k, p) :: ps, vs => ∃ v r, vs = (k, v) :: r ∧ RP p v ∧ RPt ps r
end
end

/-- what is kept from H to H' so far as pure data lean on it -/
structure Kp (H H' : Hp) (B B' : Addr → Prop) : Prop where
  tup : ∀ a vs, H a = some (.tup vs) → H' a = some (.tup vs)
  lst : ∀ a vs, ¬ B a → H a = some (.lst vs) → H' a = some (.lst vs)
  frz : ∀ a o u, H a = some (.frz o u) → H' a = some (.frz o u)
  nb : ∀ a, ¬ B a → B' a → H a = none

section
variable {H H' : Hp} {B B' : Addr → Prop}
theorem rd_some {H : Hp} {a : Addr} {u : HO} (h : Rd H a u) : H a ≠ none := by
  rcases h with h | ⟨o, h⟩ <;> (rw [h]; intro z; cases z)
mutual
theorem RP.mono (k : Kp H H' B B') : ∀ (p : P) (v : V), RP H B p v → RP H' B' p v
  | .non, _, h => h
  | .bl _, _, h => h
  | .int _, _, h => h
  | .str _, _, h => h
  | .tup ps, v, h => by
    obtain ⟨a, vs, e, h1, h2⟩ := h
    exact ⟨a, vs, e, k.tup a vs h1, RPs.mono k ps vs h2⟩
  | .lst ps, v, h => by
    obtain ⟨a, vs, e, h1, h2, h3⟩ := h
    exact ⟨a, vs, e, k.lst a vs h2 h1, fun z => rd_some (.inl h1) (k.nb a h2 z), RPs.mono k ps vs h3⟩
  | .dic ks, v, h => by
    obtain ⟨a, o, vs, e, h1, h3⟩ := h
    exact ⟨a, o, vs, e, k.frz a o _ h1, RPk.mono k ks vs h3⟩
  | .dit ks, v, h => by
    obtain ⟨a, o, vs, e, h1, h3⟩ := h
    exact ⟨a, o, vs, e, k.frz a o _ h1, RPt.mono k ks vs h3⟩
theorem RPs.mono (k : Kp H H' B B') : ∀ (ps : List P) (vs : List V), RPs H B ps vs → RPs H' B' ps vs
  | [], _, h => h
  | p :: ps, vs, h => by
    obtain ⟨v, r, e, h1, h2⟩ := h
    exact ⟨v, r, e, RP.mono k p v h1, RPs.mono k ps r h2⟩
theorem RPk.mono (k : Kp H H' B B') : ∀ (ps : List (Key × P)) (vs : List (Key × V)), RPk H B ps vs → RPk H' B' ps vs
  | [], _, h => h
  | (_, p) :: ps, vs, h => by
    obtain ⟨v, r, e, h1, h2⟩ := h
    exact ⟨v, r, e, RP.mono k p v h1, RPk.mono k ps r h2⟩
theorem RPt.mono (k : Kp H H' B B') : ∀ (ps : List (List Key × P)) (vs : List (List Key × V)), RPt H B ps vs → RPt H' B' ps vs
  | [], _, h => h
  | (_, p) :: ps, vs, h => by
    obtain ⟨v, r, e, h1, h2⟩ := h
    exact ⟨v, r, e, RP.mono k p v h1, RPt.mono k ps r h2⟩
end
end
end Dn

/-! Dn2: local heaps, what is kept from state to state, freezing. -/
namespace Dn
open PySem PySem.Spec PyProof.Rows L2

/-- a is the address of a living cell -/
def Lv (m : List Addr) (ih : IH) (a : Addr) : Prop := ∃ (n : Nat) (c : Cl), m[n]? = some a ∧ ih[n]? = some c ∧ c ≠ Cl.dead
/-- what may change: foreign cells, own living ones -/
def Bd (F : Addr → Prop) (m : List Addr) (ih : IH) (a : Addr) : Prop := F a ∨ Lv m ih a

/-- the script stands at a -/
def ScR (K : PySem.W.Frag) (H : Hp) (a : Addr) (ns : List Int) : Prop := (∃ o, H a = some (.frz o (.lst (ns.map V.int)))) ∨
  ∃ (o : Obj) (its : Array Value) (n : Nat), K.lookup a = some o ∧ o.cls = .type "list" ∧ o.dict = none ∧ o.data = .seq its n ∧ its.size ≤ sizeLine ∧ Vals (ns.map V.int) its.toList
theorem ScR.sq {K : PySem.W.Frag} {H : Hp} {a : Addr} {ns : List Int} (h : ScR K H a ns) : SqL K H a (ns.map V.int) := by
  rcases h with h | h
  · exact .inl (.inr h)
  · exact .inr h
section
variable (K : PySem.W.Frag) (H : Hp) (B : Addr → Prop) (m : List Addr)
def RD : D → V → Prop
  | .pu p, v => RP H B p v
  | .ref n, v => ∃ a, v = .ref a ∧ m[n]? = some a
  | .scr ns, v => ∃ a, v = .ref a ∧ ScR K H a ns
  | .ke, v => ∃ a, v = .ref a ∧ ∀ H', SqT K H' a []
  | .tz ps, v => ∃ a o vs, v = .ref a ∧ H a = some (.frz o (.tup vs)) ∧ o.dict = none ∧ RPs H B ps vs
def RDs : List D → List V → Prop
  | [], vs => vs = []
  | d :: ds, vs => ∃ v r, vs = v :: r ∧ RD K H B m d v ∧ RDs ds r
def RDk {κ : Type} : List (κ × D) → List (κ × V) → Prop
  | [], vs => vs = []
  | (k, d) :: ds, vs => ∃ v r, vs = (k, v) :: r ∧ RD K H B m d v ∧ RDk ds r
/-- what a cell holds, and what the abstract heap has there -/
def ContR : Cl → HO → Prop
  | .lst ds, .lst vs => RDs K H B m ds vs
  | .dic ks, .dK kvs => RDk K H B m ks kvs
  | .dit ks, .dT kvs => RDk K H B m ks kvs
  | _, _ => False
end

structure HR (K : PySem.W.Frag) (F : Addr → Prop) (m : List Addr) (ih : IH) (H : Hp) : Prop where
  len : m.length = ih.length
  nd : m.Nodup
  cell : ∀ (n : Nat) a c, m[n]? = some a → ih[n]? = some c → c ≠ .dead → ∃ o, H a = some o ∧ ContR K H (Bd F m ih) m c o
  nf : ∀ a, Lv m ih a → ¬ F a
  tr : ∀ a ∈ m, H a ≠ none
  ft : ∀ a, F a → H a ≠ none

structure Post (K : PySem.W.Frag) (F : Addr → Prop) (m : List Addr) (ih : IH) (H : Hp) (m' : List Addr) (ih' : IH) (H' : Hp) : Prop where
  ext : ∃ ms, m' = m ++ ms ∧ ∀ a ∈ ms, H a = none
  frame : ∀ a o, H a = some o → ¬ Lv m ih a → H' a = some o
  lv : ∀ a, Lv m' ih' a → Lv m ih a ∨ H a = none
  hr : HR K F m' ih' H'

theorem ix_one {α : Type} {N : List α} (hN : N.Nodup) {i j : Nat} {x : α} (a : N[i]? = some x) (b : N[j]? = some x) : i = j := by
  obtain ⟨h1, e1⟩ := List.getElem?_eq_some_iff.mp a
  obtain ⟨h2, e2⟩ := List.getElem?_eq_some_iff.mp b
  exact (List.getElem_inj hN).mp (by rw [e1, e2])
section
variable {K : PySem.W.Frag} {F : Addr → Prop} {m m' m'' : List Addr} {ih ih' ih'' : IH} {H H' H'' : Hp} {B B' : Addr → Prop}

theorem RD.mono (k : Kp H H' B B') (hm : ∀ (n : Nat) a, m[n]? = some a → m'[n]? = some a) : ∀ {d : D} {v : V}, RD K H B m d v → RD K H' B' m' d v
  | .pu p, v, h => RP.mono k p v h
  | .ref n, v, h => by
    obtain ⟨a, e, h⟩ := h
    exact ⟨a, e, hm n a h⟩
  | .scr ns, v, h => by
    obtain ⟨a, e, h⟩ := h
    refine ⟨a, e, ?_⟩
    rcases h with ⟨o, h⟩ | h
    · exact .inl ⟨o, k.frz a o _ h⟩
    · exact .inr h
  | .ke, v, h => h
  | .tz ps, v, h => by
    obtain ⟨a, o, vs, e, h1, h2, h3⟩ := h
    exact ⟨a, o, vs, e, k.frz a o _ h1, h2, RPs.mono k ps vs h3⟩
theorem RDs.mono (k : Kp H H' B B') (hm : ∀ (n : Nat) a, m[n]? = some a → m'[n]? = some a) : ∀ {ds : List D} {vs : List V}, RDs K H B m ds vs → RDs K H' B' m' ds vs
  | [], _, h => h
  | d :: ds, vs, h => by
    obtain ⟨v, r, e, h1, h2⟩ := h
    exact ⟨v, r, e, RD.mono k hm h1, RDs.mono k hm h2⟩
theorem RDk.mono {κ : Type} (k : Kp H H' B B') (hm : ∀ (n : Nat) a, m[n]? = some a → m'[n]? = some a) : ∀ {ds : List (κ × D)} {vs : List (κ × V)}, RDk K H B m ds vs → RDk K H' B' m' ds vs
  | [], _, h => h
  | (_, d) :: ds, vs, h => by
    obtain ⟨v, r, e, h1, h2⟩ := h
    exact ⟨v, r, e, RD.mono k hm h1, RDk.mono k hm h2⟩

/-- a smaller B, the same heap -/
theorem Kp.less (h : ∀ a, B' a → B a) : Kp H H B B' :=
  ⟨fun _ _ e => e, fun _ _ _ e => e, fun _ _ _ e => e, fun a n z => absurd (h a z) n⟩
theorem ContR.kind {c : Cl} {o : HO} (h : ContR K H B m c o) : (∃ vs, o = .lst vs) ∨ (∃ kvs, o = .dK kvs) ∨ (∃ kvs, o = .dT kvs) := by
  cases c <;> cases o <;> first | exact .inl ⟨_, rfl⟩ | exact .inr (.inl ⟨_, rfl⟩) | exact .inr (.inr ⟨_, rfl⟩) | exact h.elim
theorem HR.lv_kind (hr : HR K F m ih H) {a : Addr} (l : Lv m ih a) : (∃ vs, H a = some (.lst vs)) ∨ (∃ kvs, H a = some (.dK kvs)) ∨ (∃ kvs, H a = some (.dT kvs)) := by
  obtain ⟨n, c, h1, h2, h3⟩ := l
  obtain ⟨o, e, r⟩ := hr.cell n a c h1 h2 h3
  rcases r.kind with ⟨_, rfl⟩ | ⟨_, rfl⟩ | ⟨_, rfl⟩
  · exact .inl ⟨_, e⟩
  · exact .inr (.inl ⟨_, e⟩)
  · exact .inr (.inr ⟨_, e⟩)
theorem HR.not_tup (hr : HR K F m ih H) {a : Addr} {vs : List V} (e : H a = some (.tup vs)) : ¬ Lv m ih a := fun l => by
  rcases hr.lv_kind l with ⟨_, z⟩ | ⟨_, z⟩ | ⟨_, z⟩ <;> (rw [e] at z; cases z)
theorem HR.not_frz (hr : HR K F m ih H) {a : Addr} {o : Obj} {u : HO} (e : H a = some (.frz o u)) : ¬ Lv m ih a := fun l => by
  rcases hr.lv_kind l with ⟨_, z⟩ | ⟨_, z⟩ | ⟨_, z⟩ <;> (rw [e] at z; cases z)
theorem rd_frame {a : Addr} {u : HO} (f : ∀ o, H a = some o → H' a = some o) (h : Rd H a u) : Rd H' a u := by
  rcases h with h | ⟨o, h⟩
  · exact .inl (f _ h)
  · exact .inr ⟨o, f _ h⟩
theorem Post.kp (hr : HR K F m ih H) (p : Post K F m ih H m' ih' H') : Kp H H' (Bd F m ih) (Bd F m' ih') :=
  ⟨fun a vs e => p.frame a _ e (hr.not_tup e), fun a vs n e => p.frame a _ e fun l => n (.inr l), fun a o u e => p.frame a _ e (hr.not_frz e), fun a n z => by
      rcases z with z | z
      · exact absurd (.inl z) n
      · rcases p.lv a z with l | l
        · exact absurd (.inr l) n
        · exact l⟩
theorem Post.ix (p : Post K F m ih H m' ih' H') (n : Nat) (a : Addr) (h : m[n]? = some a) : m'[n]? = some a := by
  obtain ⟨ms, rfl, _⟩ := p.ext
  rw [List.getElem?_append_left (List.getElem?_eq_some_iff.mp h).1]
  exact h
theorem Post.rd (hr : HR K F m ih H) (p : Post K F m ih H m' ih' H') {d : D} {v : V} (h : RD K H (Bd F m ih) m d v) : RD K H' (Bd F m' ih') m' d v := RD.mono (p.kp hr) p.ix h
theorem Post.rds (hr : HR K F m ih H) (p : Post K F m ih H m' ih' H') {d : List D} {v : List V} (h : RDs K H (Bd F m ih) m d v) : RDs K H' (Bd F m' ih') m' d v := RDs.mono (p.kp hr) p.ix h
theorem Post.rp (hr : HR K F m ih H) (p : Post K F m ih H m' ih' H') {d : P} {v : V} (h : RP H (Bd F m ih) d v) : RP H' (Bd F m' ih') d v := RP.mono (p.kp hr) d v h
theorem Post.rps (hr : HR K F m ih H) (p : Post K F m ih H m' ih' H') {d : List P} {v : List V} (h : RPs H (Bd F m ih) d v) : RPs H' (Bd F m' ih') d v := RPs.mono (p.kp hr) d v h
theorem Post.refl (hr : HR K F m ih H) : Post K F m ih H m ih H :=
  ⟨⟨[], by simp, fun a h => by simp at h⟩, fun _ _ e _ => e, fun a l => .inl l, hr⟩
theorem Post.tracked (hr : HR K F m ih H) (p : Post K F m ih H m' ih' H') {a : Addr} (h : H a ≠ none) : H' a ≠ none := by
  cases e : H a with
  | none => exact absurd e h
  | some o =>
    by_cases l : Lv m ih a
    · obtain ⟨n, c, h1, _, _⟩ := l
      exact p.hr.tr a (List.mem_of_getElem? (p.ix n a h1))
    · rw [p.frame a o e l]; exact fun z => by cases z
theorem Post.trans (hr : HR K F m ih H) (p : Post K F m ih H m' ih' H') (q : Post K F m' ih' H' m'' ih'' H'') : Post K F m ih H m'' ih'' H'' := by
  refine ⟨?_, fun a o e l => ?_, fun a l => ?_, q.hr⟩
  · obtain ⟨ms, e1, f1⟩ := p.ext
    obtain ⟨ms', e2, f2⟩ := q.ext
    refine ⟨ms ++ ms', by rw [e2, e1, List.append_assoc], fun a h => ?_⟩
    rcases List.mem_append.mp h with h | h
    · exact f1 a h
    · cases e : H a with
      | none => rfl
      | some o => exact absurd (f2 a h) (p.tracked hr (by rw [e]; exact fun z => by cases z))
  · refine q.frame a o (p.frame a o e l) fun l' => ?_
    rcases p.lv a l' with z | z
    · exact l z
    · rw [e] at z; cases z
  · rcases q.lv a l with z | z
    · exact p.lv a z
    · cases e : H a with
      | none => exact .inr rfl
      | some o => exact absurd z (p.tracked hr (by rw [e]; exact fun z => by cases z))

theorem ContR.mono (k : Kp H H' B B') (hm : ∀ (n : Nat) a, m[n]? = some a → m'[n]? = some a) {c : Cl} {o : HO} (h : ContR K H B m c o) : ContR K H' B' m' c o := by
  cases c <;> cases o <;> first | exact RDs.mono k hm h | exact RDk.mono k hm h | exact h.elim
/-- all that is tracked stays -/
theorem Kp.kept (k : ∀ a o, H a = some o → H' a = some o) : Kp H H' B B :=
  ⟨fun a vs e => k a _ e, fun a _ _ e => k a _ e, fun a _ _ e => k a _ e, fun a n z => absurd z n⟩
theorem kept_ne (k : ∀ a o, H a = some o → H' a = some o) {a : Addr} (h : H a ≠ none) : H' a ≠ none := by
  cases e : H a with
  | none => exact absurd e h
  | some o => rw [k a o e]; exact fun z => by cases z
theorem HR.kept (hr : HR K F m ih H) (k : ∀ a o, H a = some o → H' a = some o) : HR K F m ih H' :=
  ⟨hr.len, hr.nd, fun n a c h1 h2 h3 => by
    obtain ⟨o, e, r⟩ := hr.cell n a c h1 h2 h3
    exact ⟨o, k a o e, ContR.mono (Kp.kept k) (fun _ _ e => e) r⟩, hr.nf, fun a h => kept_ne k (hr.tr a h), fun a h => kept_ne k (hr.ft a h)⟩
theorem Post.kept (hr : HR K F m ih H) (k : ∀ a o, H a = some o → H' a = some o) : Post K F m ih H m ih H' :=
  ⟨⟨[], by simp, fun a h => by simp at h⟩, fun a o e _ => k a o e, fun a l => .inl l, hr.kept k⟩
theorem upd_kept {p : Addr} {o : HO} (h : H p = none) : ∀ a o', H a = some o' → (upd H p o) a = some o' := fun a o' e => by
  rw [upd_ne (ne_of_none e h)]; exact e
/-- a new object that nobody changes -/
theorem Post.fresh (hr : HR K F m ih H) {p : Addr} {o : HO} (h : H p = none) : Post K F m ih H m ih (upd H p o) := Post.kept hr (upd_kept h)

theorem Lv.lt {a : Addr} (l : Lv m ih a) : a ∈ m := by obtain ⟨n, c, h1, _, _⟩ := l; exact List.mem_of_getElem? h1
/-- a new cell -/
theorem Post.alloc (hr : HR K F m ih H) {p : Addr} {o : HO} {c : Cl} (h : H p = none) (hcell : ContR K H (Bd F m ih) m c o) : Post K F m ih H (m ++ [p]) (ih ++ [c]) (upd H p o) := by
  have np : p ∉ m := fun z => hr.tr p z h
  have nfp : ¬ F p := fun z => hr.ft p z h
  have hix : ∀ (n : Nat) a, m[n]? = some a → (m ++ [p])[n]? = some a := fun n a e => by
    rw [List.getElem?_append_left (List.getElem?_eq_some_iff.mp e).1]; exact e
  have lvs : ∀ a, Lv (m ++ [p]) (ih ++ [c]) a → Lv m ih a ∨ a = p := fun a ⟨n, c', h1, h2, h3⟩ => by
    by_cases hn : n < m.length
    · rw [List.getElem?_append_left hn] at h1
      rw [List.getElem?_append_left (by rw [← hr.len]; exact hn)] at h2
      exact .inl ⟨n, c', h1, h2, h3⟩
    · right
      rw [List.getElem?_append_right (by omega)] at h1
      cases e : n - m.length with
      | zero => rw [e] at h1; exact (Option.some.inj h1).symm
      | succ k => rw [e] at h1; simp at h1
  have kp : Kp H (upd H p o) (Bd F m ih) (Bd F (m ++ [p]) (ih ++ [c])) :=
    ⟨fun a vs e => upd_kept h a _ e, fun a _ _ e => upd_kept h a _ e, fun a _ _ e => upd_kept h a _ e, fun a n z => by
      rcases z with z | z
      · exact absurd (.inl z) n
      · rcases lvs a z with l | l
        · exact absurd (.inr l) n
        · rw [l]; exact h⟩
  refine ⟨⟨[p], rfl, fun a z => by rw [List.mem_singleton.mp z]; exact h⟩, fun a o' e _ => upd_kept h a o' e, fun a l => ?_, ⟨by simp [hr.len], ?_, fun n a c' h1 h2 h3 => ?_, fun a l => ?_, fun a z => ?_, fun a z => kept_ne (upd_kept h) (hr.ft a z)⟩⟩
  · rcases lvs a l with z | z
    · exact .inl z
    · right; rw [z]; exact h
  · exact List.nodup_append.mpr ⟨hr.nd, by simp, fun a ha b hb => by rw [List.mem_singleton.mp hb]; exact fun z => np (z ▸ ha)⟩
  · by_cases hn : n < m.length
    · rw [List.getElem?_append_left hn] at h1
      rw [List.getElem?_append_left (by rw [← hr.len]; exact hn)] at h2
      obtain ⟨o', e, r⟩ := hr.cell n a c' h1 h2 h3
      exact ⟨o', upd_kept h a o' e, ContR.mono kp hix r⟩
    · rw [List.getElem?_append_right (by omega)] at h1
      rw [List.getElem?_append_right (by rw [← hr.len]; omega)] at h2
      have e0 : n - m.length = 0 := by
        cases e : n - m.length with
        | zero => rfl
        | succ k => rw [e] at h1; simp at h1
      rw [e0] at h1
      rw [← hr.len, e0] at h2
      cases Option.some.inj h1
      cases Option.some.inj h2
      exact ⟨o, upd_same, ContR.mono kp hix hcell⟩
  · rcases lvs a l with z | z
    · exact hr.nf a z
    · rw [z]; exact nfp
  · rcases List.mem_append.mp z with z | z
    · cases e : H a with
      | none => exact absurd e (hr.tr a z)
      | some o' => rw [upd_kept h a o' e]; exact fun z => by cases z
    · rw [List.mem_singleton.mp z, upd_same]; exact fun z => by cases z
theorem Lv.set {n : Nat} {c : Cl} {a : Addr} (l : Lv m (ih.set n c) a) (hn : ∃ c0, ih[n]? = some c0 ∧ c0 ≠ .dead) : Lv m ih a := by
  obtain ⟨k, c', h1, h2, h3⟩ := l
  by_cases e : n = k
  · subst e
    obtain ⟨c0, g1, g2⟩ := hn
    exact ⟨n, c0, h1, g1, g2⟩
  · rw [List.getElem?_set_ne e] at h2
    exact ⟨k, c', h1, h2, h3⟩
/-- a living cell gets another content -/
theorem Post.write (hr : HR K F m ih H) {n : Nat} {a : Addr} {o : HO} {c c0 : Cl} (hm : m[n]? = some a) (hi : ih[n]? = some c0) (hl : c0 ≠ .dead) (hcell : ContR K H (Bd F m ih) m c o) : Post K F m ih H m (ih.set n c) (upd H a o) := by
  have la : Lv m ih a := ⟨n, c0, hm, hi, hl⟩
  have lvs : ∀ b, Lv m (ih.set n c) b → Lv m ih b := fun b l => l.set ⟨c0, hi, hl⟩
  have keep : ∀ b o', H b = some o' → b ≠ a → (upd H a o) b = some o' := fun b o' e z => by rw [upd_ne z]; exact e
  have notB : ∀ b, ¬ Bd F m ih b → b ≠ a := fun b n z => n (z ▸ .inr la)
  have kp : Kp H (upd H a o) (Bd F m ih) (Bd F m (ih.set n c)) :=
    ⟨fun b vs e => keep b _ e fun z => hr.not_tup e (z ▸ la), fun b _ q e => keep b _ e (notB b q), fun b _ _ e => keep b _ e fun z => hr.not_frz e (z ▸ la), fun b q z => by
      rcases z with z | z
      · exact absurd (.inl z) q
      · exact absurd (.inr (lvs b z)) q⟩
  have hlt : n < ih.length := (List.getElem?_eq_some_iff.mp hi).1
  refine ⟨⟨[], by simp, fun a h => by simp at h⟩, fun b o' e l => keep b o' e fun z => l (z ▸ la), fun b l => .inl (lvs b l), ⟨by simp [hr.len], hr.nd, fun k b c' h1 h2 h3 => ?_, fun b l => hr.nf b (lvs b l), fun b z => ?_, fun b z => ?_⟩⟩
  · by_cases e : n = k
    · subst e
      rw [List.getElem?_set_self hlt] at h2
      cases Option.some.inj h2
      rw [hm] at h1
      cases Option.some.inj h1
      exact ⟨o, upd_same, ContR.mono kp (fun _ _ e => e) hcell⟩
    · rw [List.getElem?_set_ne e] at h2
      obtain ⟨o', q, r⟩ := hr.cell k b c' h1 h2 h3
      have hb : b ≠ a := fun z => by
        subst z
        exact e (ix_one hr.nd hm h1)
      exact ⟨o', keep b o' q hb, ContR.mono kp (fun _ _ e => e) r⟩
  · by_cases e : b = a
    · rw [e, upd_same]; exact fun z => by cases z
    · rw [upd_ne e]; exact hr.tr b z
  · by_cases e : b = a
    · rw [e, upd_same]; exact fun z => by cases z
    · rw [upd_ne e]; exact hr.ft b z
/-- a cell is closed: what it holds will not change any more -/
theorem Post.kill (hr : HR K F m ih H) {n : Nat} {c0 : Cl} (hi : ih[n]? = some c0) (hl : c0 ≠ .dead) : Post K F m ih H m (ih.set n .dead) H := by
  have lvs : ∀ b, Lv m (ih.set n .dead) b → Lv m ih b := fun b l => l.set ⟨c0, hi, hl⟩
  have kp : Kp H H (Bd F m ih) (Bd F m (ih.set n .dead)) := Kp.less fun b z => by
    rcases z with z | z
    · exact .inl z
    · exact .inr (lvs b z)
  have hlt : n < ih.length := (List.getElem?_eq_some_iff.mp hi).1
  refine ⟨⟨[], by simp, fun a h => by simp at h⟩, fun b o' e l => e, fun b l => .inl (lvs b l), ⟨by simp [hr.len], hr.nd, fun k b c' h1 h2 h3 => ?_, fun b l => hr.nf b (lvs b l), hr.tr, hr.ft⟩⟩
  by_cases e : n = k
  · subst e
    rw [List.getElem?_set_self hlt] at h2
    exact absurd (Option.some.inj h2).symm h3
  · rw [List.getElem?_set_ne e] at h2
    obtain ⟨o', q, r⟩ := hr.cell k b c' h1 h2 h3
    exact ⟨o', q, ContR.mono kp (fun _ _ e => e) r⟩
theorem killed {n : Nat} {a : Addr} (hr : HR K F m ih H) (hm : m[n]? = some a) (hlt : n < ih.length) : ¬ Lv m (ih.set n .dead) a := fun ⟨k, c, h1, h2, h3⟩ => by
  have e : n = k := ix_one hr.nd hm h1
  subst e
  rw [List.getElem?_set_self hlt] at h2
  exact h3 (Option.some.inj h2).symm
end

/-! ### freezing: from cells to pure data -/
def frzL (f : IH → D → Option (P × IH)) : IH → List D → Option (List P × IH)
  | ih, [] => some ([], ih)
  | ih, d :: ds => match f ih d with
    | some (p, ih1) => (frzL f ih1 ds).map fun r => (p :: r.1, r.2)
    | none => none
def frzK {κ : Type} (f : IH → D → Option (P × IH)) : IH → List (κ × D) → Option (List (κ × P) × IH)
  | ih, [] => some ([], ih)
  | ih, (x, d) :: ds => match f ih d with
    | some (p, ih1) => (frzK f ih1 ds).map fun r => ((x, p) :: r.1, r.2)
    | none => none
def frz : Nat → IH → D → Option (P × IH)
  | 0, ih, d => match d with
    | .pu p => some (p, ih)
    | _ => none
  | k + 1, ih, d => match d with
    | .pu p => some (p, ih)
    | .ref n => match ih[n]? with
      | some (.lst ds) => (frzL (frz k) (ih.set n .dead) ds).map fun r => (.lst r.1, r.2)
      | some (.dic ds) => (frzK (frz k) (ih.set n .dead) ds).map fun r => (.dic r.1, r.2)
      | some (.dit ds) => (frzK (frz k) (ih.set n .dead) ds).map fun r => (.dit r.1, r.2)
      | _ => none
    | .scr _ => none
    | .ke => none
    | .tz _ => none

section
variable {K : PySem.W.Frag} {F : Addr → Prop} {m m' m'' : List Addr} {ih ih' ih'' : IH} {H H' H'' : Hp} {B B' : Addr → Prop}
/-- ghost steps: an object that is closed gets locked -/
inductive Gh (Q : Hp → Prop) : Hp → Prop
  | done {H : Hp} : Q H → Gh Q H
  | lock {H : Hp} {a : Addr} {u : HO} : H a = some u → Mut (some u) → (∀ o, Gh Q (upd H a (.frz o u))) → Gh Q H
theorem Gh.bind {Q Q' : Hp → Prop} (h : Gh Q H) (k : ∀ H', Q H' → Gh Q' H') : Gh Q' H := by
  induction h with
  | done q => exact k _ q
  | lock a b _ ih => exact .lock a b ih
theorem Gh.inv {X : Cx} {pins : List (Addr × Obj)} {σ : L2.St} {s : Shared} {Q : Hp → Prop} (h : Gh Q H) (I : Inv X pins σ H s) : ∃ H', Inv X pins σ H' s ∧ Q H' := by
  induction h with
  | done q => exact ⟨_, I, q⟩
  | lock a b _ ih =>
    obtain ⟨o, I'⟩ := I.lock a b
    exact ih o I'
def FrzOk (f : IH → D → Option (P × IH)) : Prop := ∀ (K : PySem.W.Frag) (F : Addr → Prop) (m : List Addr) (H : Hp) (ih ih' : IH) (d : D) (p : P) (v : V), f ih d = some (p, ih') → HR K F m ih H → RD K H (Bd F m ih) m d v → Gh (fun H' => Post K F m ih H m ih' H' ∧ RP H' (Bd F m ih') p v) H
theorem Post.rdk {κ : Type} (hr : HR K F m ih H) (p : Post K F m ih H m' ih' H') {d : List (κ × D)} {v : List (κ × V)} (h : RDk K H (Bd F m ih) m d v) : RDk K H' (Bd F m' ih') m' d v := RDk.mono (p.kp hr) p.ix h
theorem frzL_ok {f : IH → D → Option (P × IH)} (hf : FrzOk f) : ∀ (ds : List D) (H : Hp) (ih ih' : IH) (ps : List P) (vs : List V), frzL f ih ds = some (ps, ih') → HR K F m ih H → RDs K H (Bd F m ih) m ds vs → Gh (fun H' => Post K F m ih H m ih' H' ∧ RPs H' (Bd F m ih') ps vs) H
  | [], H, ih, ih', ps, vs, e, hr, r => by
    cases e
    exact .done ⟨Post.refl hr, r⟩
  | d :: ds, H, ih, ih', ps, vs, e, hr, r => by
    obtain ⟨v, rest, rfl, r1, r2⟩ := r
    rw [frzL] at e
    cases e1 : f ih d with
    | none => rw [e1] at e; cases e
    | some x =>
      obtain ⟨p, ih1⟩ := x
      rw [e1] at e
      refine (hf K F m H ih ih1 d p v e1 hr r1).bind fun H1 ⟨po, rp⟩ => ?_
      cases e2 : frzL f ih1 ds with
      | none => simp only [e2] at e; cases e
      | some y =>
        obtain ⟨qs, ih2⟩ := y
        simp only [e2] at e
        cases e
        refine (frzL_ok hf ds H1 ih1 ih2 qs rest e2 po.hr (po.rds hr r2)).bind fun H2 ⟨po2, rps⟩ => ?_
        exact .done ⟨po.trans hr po2, v, rest, rfl, po2.rp po.hr rp, rps⟩
theorem frzK_ok {f : IH → D → Option (P × IH)} (hf : FrzOk f) : ∀ (ds : List (Key × D)) (H : Hp) (ih ih' : IH) (ps : List (Key × P)) (vs : List (Key × V)), frzK f ih ds = some (ps, ih') → HR K F m ih H → RDk K H (Bd F m ih) m ds vs → Gh (fun H' => Post K F m ih H m ih' H' ∧ RPk H' (Bd F m ih') ps vs) H
  | [], H, ih, ih', ps, vs, e, hr, r => by
    cases e
    exact .done ⟨Post.refl hr, r⟩
  | (k, d) :: ds, H, ih, ih', ps, vs, e, hr, r => by
    obtain ⟨v, rest, rfl, r1, r2⟩ := r
    rw [frzK] at e
    cases e1 : f ih d with
    | none => rw [e1] at e; cases e
    | some x =>
      obtain ⟨p, ih1⟩ := x
      rw [e1] at e
      refine (hf K F m H ih ih1 d p v e1 hr r1).bind fun H1 ⟨po, rp⟩ => ?_
      cases e2 : frzK f ih1 ds with
      | none => simp only [e2] at e; cases e
      | some y =>
        obtain ⟨qs, ih2⟩ := y
        simp only [e2] at e
        cases e
        refine (frzK_ok hf ds H1 ih1 ih2 qs rest e2 po.hr (po.rdk hr r2)).bind fun H2 ⟨po2, rps⟩ => ?_
        exact .done ⟨po.trans hr po2, v, rest, rfl, po2.rp po.hr rp, rps⟩
theorem frzT_ok {f : IH → D → Option (P × IH)} (hf : FrzOk f) : ∀ (ds : List (List Key × D)) (H : Hp) (ih ih' : IH) (ps : List (List Key × P)) (vs : List (List Key × V)), frzK f ih ds = some (ps, ih') → HR K F m ih H → RDk K H (Bd F m ih) m ds vs → Gh (fun H' => Post K F m ih H m ih' H' ∧ RPt H' (Bd F m ih') ps vs) H
  | [], H, ih, ih', ps, vs, e, hr, r => by
    cases e
    exact .done ⟨Post.refl hr, r⟩
  | (k, d) :: ds, H, ih, ih', ps, vs, e, hr, r => by
    obtain ⟨v, rest, rfl, r1, r2⟩ := r
    rw [frzK] at e
    cases e1 : f ih d with
    | none => rw [e1] at e; cases e
    | some x =>
      obtain ⟨p, ih1⟩ := x
      rw [e1] at e
      refine (hf K F m H ih ih1 d p v e1 hr r1).bind fun H1 ⟨po, rp⟩ => ?_
      cases e2 : frzK f ih1 ds with
      | none => simp only [e2] at e; cases e
      | some y =>
        obtain ⟨qs, ih2⟩ := y
        simp only [e2] at e
        cases e
        refine (frzT_ok hf ds H1 ih1 ih2 qs rest e2 po.hr (po.rdk hr r2)).bind fun H2 ⟨po2, rps⟩ => ?_
        exact .done ⟨po.trans hr po2, v, rest, rfl, po2.rp po.hr rp, rps⟩
/-- a closed dict is locked -/
theorem Post.seal (hr : HR K F m ih H) {n : Nat} {a : Addr} {c0 : Cl} {o : HO} (hm : m[n]? = some a) (hi : ih[n]? = some c0) (hl : c0 ≠ .dead) : Post K F m ih H m (ih.set n .dead) (upd H a o) := by
  have la : Lv m ih a := ⟨n, c0, hm, hi, hl⟩
  have hlt : n < ih.length := (List.getElem?_eq_some_iff.mp hi).1
  have lvs : ∀ b, Lv m (ih.set n .dead) b → Lv m ih b := fun b l => l.set ⟨c0, hi, hl⟩
  have keep : ∀ b o', H b = some o' → b ≠ a → (upd H a o) b = some o' := fun b o' e z => by rw [upd_ne z]; exact e
  have notB : ∀ b, ¬ Bd F m ih b → b ≠ a := fun b n z => n (z ▸ .inr la)
  have kp : Kp H (upd H a o) (Bd F m ih) (Bd F m (ih.set n .dead)) :=
    ⟨fun b vs e => keep b _ e fun z => hr.not_tup e (z ▸ la), fun b _ q e => keep b _ e (notB b q), fun b _ _ e => keep b _ e fun z => hr.not_frz e (z ▸ la), fun b q z => by
      rcases z with z | z
      · exact absurd (.inl z) q
      · exact absurd (.inr (lvs b z)) q⟩
  refine ⟨⟨[], by simp, fun a h => by simp at h⟩, fun b o' e l => keep b o' e fun z => l (z ▸ la), fun b l => .inl (lvs b l), ⟨by simp [hr.len], hr.nd, fun k b c' h1 h2 h3 => ?_, fun b l => hr.nf b (lvs b l), fun b z => ?_, fun b z => ?_⟩⟩
  · by_cases e : n = k
    · subst e
      rw [List.getElem?_set_self hlt] at h2
      exact absurd (Option.some.inj h2).symm h3
    · rw [List.getElem?_set_ne e] at h2
      obtain ⟨o', q, r⟩ := hr.cell k b c' h1 h2 h3
      have hb : b ≠ a := fun z => by
        subst z
        exact e (ix_one hr.nd hm h1)
      exact ⟨o', keep b o' q hb, ContR.mono kp (fun _ _ e => e) r⟩
  · by_cases e : b = a
    · rw [e, upd_same]; exact fun z => by cases z
    · rw [upd_ne e]; exact hr.tr b z
  · by_cases e : b = a
    · rw [e, upd_same]; exact fun z => by cases z
    · rw [upd_ne e]; exact hr.ft b z
theorem frz_ok : ∀ k, FrzOk (frz k) := by
  intro k
  induction k with
  | zero =>
    intro K F m H ih ih' d p v e hr r
    cases d with
    | pu q => cases e; exact .done ⟨Post.refl hr, r⟩
    | ref n => cases e
    | scr n => cases e
    | ke => cases e
    | tz _ => cases e
  | succ k hk =>
    intro K F m H ih ih' d p v e hr r
    cases d with
    | pu q => cases e; exact .done ⟨Post.refl hr, r⟩
    | scr n => cases e
    | ke => cases e
    | tz _ => cases e
    | ref n =>
      obtain ⟨a, rfl, hm⟩ := r
      simp only [frz] at e
      have na : H a ≠ none := hr.tr a (List.mem_of_getElem? hm)
      cases hc : ih[n]? with
      | none => simp only [hc] at e; cases e
      | some c =>
        have hlt : n < ih.length := (List.getElem?_eq_some_iff.mp hc).1
        cases c with
        | dead => simp only [hc] at e; cases e
        | lst ds =>
          simp only [hc] at e
          obtain ⟨o, ho, r⟩ := hr.cell n a _ hm hc (by intro z; cases z)
          have pk := Post.kill hr hc (by intro z; cases z)
          cases o with
          | lst vs =>
            cases e2 : frzL (frz k) (ih.set n .dead) ds with
            | none => rw [e2] at e; cases e
            | some y =>
              rw [e2] at e
              cases e
              refine (frzL_ok hk ds H _ _ _ vs e2 pk.hr (pk.rds hr r)).bind fun H2 ⟨po, rp⟩ => .done ?_
              have nl : ¬ Bd F m (ih.set n .dead) a := fun z => z.elim (fun z => hr.nf a ⟨n, _, hm, hc, by intro z; cases z⟩ z) fun z => killed hr hm hlt z
              exact ⟨pk.trans hr po, a, vs, rfl, po.frame a _ ho fun z => nl (.inr z), fun z => z.elim (fun z => nl (.inl z)) fun z => (po.lv a z).elim (fun z => nl (.inr z)) na, rp⟩
          | _ => exact r.elim
        | dic ds =>
          simp only [hc] at e
          obtain ⟨o, ho, r⟩ := hr.cell n a _ hm hc (by intro z; cases z)
          cases o with
          | dK vs =>
            cases e2 : frzK (frz k) (ih.set n .dead) ds with
            | none => rw [e2] at e; cases e
            | some y =>
              rw [e2] at e
              cases e
              refine .lock ho trivial fun od => ?_
              have pk := Post.seal (o := .frz od (.dK vs)) hr hm hc (by intro z; cases z)
              refine (frzK_ok hk ds _ _ _ _ vs e2 pk.hr (pk.rdk hr r)).bind fun H2 ⟨po, rp⟩ => .done ?_
              exact ⟨pk.trans hr po, a, od, vs, rfl, po.frame a _ upd_same fun z => killed hr hm hlt z, rp⟩
          | _ => exact r.elim
        | dit ds =>
          simp only [hc] at e
          obtain ⟨o, ho, r⟩ := hr.cell n a _ hm hc (by intro z; cases z)
          cases o with
          | dT vs =>
            cases e2 : frzK (frz k) (ih.set n .dead) ds with
            | none => rw [e2] at e; cases e
            | some y =>
              rw [e2] at e
              cases e
              refine .lock ho trivial fun od => ?_
              have pk := Post.seal (o := .frz od (.dT vs)) hr hm hc (by intro z; cases z)
              refine (frzT_ok hk ds _ _ _ _ vs e2 pk.hr (pk.rdk hr r)).bind fun H2 ⟨po, rp⟩ => .done ?_
              exact ⟨pk.trans hr po, a, od, vs, rfl, po.frame a _ upd_same fun z => killed hr hm hlt z, rp⟩
          | _ => exact r.elim
end
end Dn

/-! Dn3: what a denotation says of a piece of syntax; sequencing. -/
namespace Dn
open PySem PySem.Spec PyProof.Rows L2

/-- the law's fixed surroundings -/
structure GI where
  P : Program
  w : World
  K : PySem.W.Frag
  mg : Str → Option Value
  base : Heap

/-- the scope as the block has it: a free name of sc may be called a cell -/
structure ScE (sc sc' : Scope) : Prop where
  kind : sc'.kind = sc.kind
  same : ∀ x, sc.names.lookup x ≠ some .free → sc'.names.lookup x = sc.names.lookup x
  free : ∀ x, sc.names.lookup x = some .free → sc'.names.lookup x = some .free ∨ sc'.names.lookup x = some .cell
theorem ScE.at {sc sc' : Scope} (h : ScE sc sc') {x : Str} {k : NameKind} (e : sc.names.lookup x = some k) (hk : k ≠ .free) : sc'.names.lookup x = some k := by
  rw [h.same x (by rw [e]; exact fun z => hk (Option.some.inj z))]; exact e
theorem ScE.loc {sc sc' : Scope} (h : ScE sc sc') {x : Str} (e : Loc sc x) : Loc sc' x := e.imp (fun e => h.at e (by intro z; cases z)) fun e => h.at e (by intro z; cases z)
theorem ScE.lo {sc sc' : Scope} (h : ScE sc sc') {x : Str} (e : sc.names.lookup x = some .local) : sc'.names.lookup x = some .local := h.at e (by intro z; cases z)
theorem ScE.gl {sc sc' : Scope} (h : ScE sc sc') {x : Str} (e : sc.names.lookup x = some .globalImplicit) : sc'.names.lookup x = some .globalImplicit := h.at e (by intro z; cases z)
theorem ScE.vis {sc sc' : Scope} (h : ScE sc sc') {x : Str} (e : Vis sc x) : Vis sc' x := by
  rcases e with e | e | e
  · exact .inl (h.lo e)
  · exact .inr (.inl (h.at e (by intro z; cases z)))
  · exact .inr ((h.free x e).symm)
theorem ScE.rfl {sc : Scope} : ScE sc sc := ⟨Eq.refl _, fun _ _ => Eq.refl _, fun _ e => .inl e⟩

/-- a context of the hand layer in which denotations are read: names N by slot, scope sc, room for lev calls, W: what is wanted of an exception -/
structure Gd (g : GI) (N : List Str) (lev : Nat) (sc : Scope) (W : WX) (X : Cx) : Prop where
  prog : X.prog = g.P
  w : X.w = g.w
  K : X.K = g.K
  mg : X.mg = g.mg
  base : X.base = g.base
  nm : X.N = N
  nd : N.Nodup
  scp : ScE sc X.env.scope
  calm : X.calm = true
  room : Room lev X.A
  gd : X.A.guards = some []
  fn : ∀ x, sc.names.lookup x = some .cell → X.fn x = true
  tk : Takes X W
  po : PassesOwn (model X.prog X.w) X.A X.env X.xe

/-- the slots -/
structure EvR (K : PySem.W.Frag) (H : Hp) (B : Addr → Prop) (m : List Addr) (env : Ev) (σ : L2.St) : Prop where
  len : env.length = σ.length
  get : ∀ (i : Nat) d, env[i]? = some (some d) → ∃ v, σ[i]? = some (some v) ∧ RD K H B m d v
/-- the fields of an exception -/
def RPf (H : Hp) (B : Addr → Prop) : List (Str × P) → List (Str × V) → Prop
  | [], vs => vs = []
  | (k, p) :: ps, vs => ∃ v r, vs = (k, v) :: r ∧ RP H B p v ∧ RPf H B ps r
def RX (g : GI) (H : Hp) (B : Addr → Prop) (c : Str) (fs : List (Str × P)) (cls : Value) (dd : Option Addr) : Prop :=
  g.mg c = some cls ∧ ∃ a vs, dd = some a ∧ H a = some (.xd vs) ∧ RPf H B fs vs

section
variable {g : GI} {F : Addr → Prop} {m m' m'' : List Addr} {ih ih' ih'' : IH} {H H' H'' : Hp} {B B' : Addr → Prop} {env : Ev} {σ : L2.St} {W : WX}
theorem EvR.post (hr : HR g.K F m ih H) (p : Post g.K F m ih H m' ih' H') (e : EvR g.K H (Bd F m ih) m env σ) : EvR g.K H' (Bd F m' ih') m' env σ :=
  ⟨e.len, fun i d h => by
    obtain ⟨v, h1, h2⟩ := e.get i d h
    exact ⟨v, h1, p.rd hr h2⟩⟩

/-- an expression's end: its result against what is wanted -/
def Fin (g : GI) (W : WX) (F : Addr → Prop) (m : List Addr) (ih : IH) (H : Hp) (σ : L2.St) (Q : VK) : R (D × IH) → Prop
  | .ok r => ∀ m' H' v, Post g.K F m ih H m' r.2 H' → RD g.K H' (Bd F m' r.2) m' r.1 v → Q v H'
  | .exc c fs ih' => ∀ m' H' cls dd, Post g.K F m ih H m' ih' H' → RX g H' (Bd F m' ih') c fs cls dd → W cls dd σ H'
  | .stuck => False
theorem Fin.rebase (hr : HR g.K F m ih H) (p : Post g.K F m ih H m' ih' H') {Q : VK} {r : R (D × IH)} (h : Fin g W F m ih H σ Q r) : Fin g W F m' ih' H' σ Q r := by
  cases r with
  | ok r => exact fun m2 H2 v p2 r2 => h m2 H2 v (p.trans hr p2) r2
  | exc c fs ih2 => exact fun m2 H2 cls dd p2 r2 => h m2 H2 cls dd (p.trans hr p2) r2
  | stuck => exact h
/-- a denotation as a reading -/
def tD (g : GI) (W : WX) (f : Ev → IH → R (D × IH)) : TE := fun σ H Q => ∃ F m ih env, HR g.K F m ih H ∧ EvR g.K H (Bd F m ih) m env σ ∧ Fin g W F m ih H σ Q (f env ih)
/-- one after another -/
theorem tD_bind {f : Ev → IH → R (D × IH)} {k : D → IH → R (D × IH)} {Q : VK} {T : V → Hp → Prop} (hr : HR g.K F m ih H) (er : EvR g.K H (Bd F m ih) m env σ) (h : Fin g W F m ih H σ Q ((f env ih).bind fun r => k r.1 r.2))
    (hT : ∀ m1 H1 x d ih1, HR g.K F m1 ih1 H1 → Post g.K F m ih H m1 ih1 H1 → RD g.K H1 (Bd F m1 ih1) m1 d x → Fin g W F m1 ih1 H1 σ Q (k d ih1) → T x H1) : tD g W f σ H T := by
  refine ⟨F, m, ih, env, hr, er, ?_⟩
  cases e : f env ih with
  | ok r =>
    rw [e] at h
    intro m1 H1 v p1 r1
    exact hT m1 H1 v r.1 r.2 p1.hr p1 r1 (Fin.rebase hr p1 h)
  | exc c fs ih2 => rw [e] at h; exact h
  | stuck => rw [e] at h; exact h
end

/-- SE: e is read as f does, in every such context -/
def SE (g : GI) (N : List Str) (lev : Nat) (sc : Scope) (f : Ev → IH → R (D × IH)) (e : Expr) : Prop := ∀ W X, Gd g N lev sc W X → PE X e (tD g W f)
theorem PE.con {X : Cx} {e : Expr} {t t' : TE} (h : PE X e t) (k : ∀ σ H Q, t' σ H Q → t σ H Q) : PE X e t' := ⟨fun pins s σ H Q I q => h.run pins s σ H Q I (k σ H Q q)⟩
theorem PT.con {X : Cx} {e : Expr} {t t' : TT} (h : PT X e t) (k : ∀ σ H Q, t' σ H Q → t σ H Q) : PT X e t' := ⟨fun pins s σ H Q I q => h.run pins s σ H Q I (k σ H Q q)⟩
theorem PS.con {X : Cx} {e : Stmt} {t t' : TS} (h : PS X e t) (k : ∀ D σ H, t' D σ H → t D σ H) : PS X e t' := ⟨fun pins s σ H Q I q => h.run pins s σ H Q I (k Q σ H q)⟩
theorem PSs.con {X : Cx} {e : List Stmt} {t t' : TS} (h : PSs X e t) (k : ∀ D σ H, t' D σ H → t D σ H) : PSs X e t' := ⟨fun pins s σ H Q I q => h.run pins s σ H Q I (k Q σ H q)⟩

section
variable {g : GI} {N : List Str} {lev : Nat} {sc : Scope}
def dVar (i : Nat) : Ev → IH → R (D × IH) := fun env ih => match env[i]? with
  | some (some d) => .ok (d, ih)
  | _ => .stuck
theorem se_var {i : Nat} {x : Str} {pos : Pos} (hN : N[i]? = some x) (hv : Vis sc x) (hd : (x == ("__debug__" : Str)) = false) (hcd : (x == ("__classdict__" : Str)) = false) : SE g N lev sc (dVar i) (.Name x pos) := fun W X G => by
  refine PE.con (pe_var (i := i) (by rw [G.nm]; exact hN) (G.scp.vis hv) hd hcd) fun σ H Q h => ?_
  obtain ⟨F, m, ih, env, hr, er, h⟩ := h
  unfold dVar at h
  cases e : env[i]? with
  | none => rw [e] at h; exact h.elim
  | some o =>
    rw [e] at h
    cases o with
    | none => exact h.elim
    | some d =>
      obtain ⟨v, h1, h2⟩ := er.get i d e
      exact ⟨v, h1, h m H v (Post.refl hr) h2⟩
/-- atoms -/
def atomV : P → Option V
  | .non => some .non
  | .bl b => some (.bl b)
  | .int i => some (.int i)
  | .str s => some (.str s)
  | _ => none
theorem atom_rp {H : Hp} {B : Addr → Prop} {p : P} {v : V} (h : atomV p = some v) : RP H B p v := by
  cases p <;> first | (cases h; rfl) | cases h
def dC (p : P) : Ev → IH → R (D × IH) := fun _ ih => .ok (.pu p, ih)
theorem tC_of {W : WX} {p : P} {v : V} (hp : atomV p = some v) (σ : L2.St) (H : Hp) (Q : VK) (h : tD g W (dC p) σ H Q) : tC v σ H Q := by
  obtain ⟨F, m, ih, env, hr, er, h⟩ := h
  exact h m H v (Post.refl hr) (atom_rp hp)
theorem se_int {i : Int} {j : Nat} {pos : Pos} : SE g N lev sc (dC (.int i)) (.Constant (.int i) j pos) := fun W X G => PE.con pe_int (tC_of (p := .int i) rfl)
theorem se_str {i : Str} {j : Nat} {pos : Pos} : SE g N lev sc (dC (.str i)) (.Constant (.str i) j pos) := fun W X G => PE.con pe_str (tC_of (p := .str i) rfl)
theorem se_bl {i : Bool} {j : Nat} {pos : Pos} : SE g N lev sc (dC (.bl i)) (.Constant (.bool i) j pos) := fun W X G => PE.con pe_bl (tC_of (p := .bl i) rfl)
theorem se_non {j : Nat} {pos : Pos} : SE g N lev sc (dC .non) (.Constant .none j pos) := fun W X G => PE.con pe_non (tC_of (p := .non) rfl)
theorem se_glob {x : Str} {p : P} {v : V} {u : Value} {pos : Pos} (hp : atomV p = some v) (hg : sc.names.lookup x = some .globalImplicit) (hm : g.mg x = some u) (r : RelV v u) (hd : (x == ("__debug__" : Str)) = false) : SE g N lev sc (dC p) (.Name x pos) := fun W X G =>
  PE.con (pe_glob (G.scp.gl hg) (by rw [G.mg]; exact hm) r hd) (tC_of hp)

/-! ### two operands -/
/-- an operation by values: od on denotations is sound for f -/
def OpD (g : GI) (f : Value → Value → Sem Value) (od : D → D → IH → R (D × IH)) : Prop := ∀ (N : List Str) (lev : Nat) (sc : Scope) (W : WX) (X : Cx), Gd g N lev sc W X → ∃ r, OpR X f r ∧
  ∀ F m ih H σ Q x y d1 d2, HR g.K F m ih H → RD g.K H (Bd F m ih) m d1 x → RD g.K H (Bd F m ih) m d2 y → Fin g W F m ih H σ Q (od d1 d2 ih) → r x y H Q
def dOp (od : D → D → IH → R (D × IH)) (f h : Ev → IH → R (D × IH)) : Ev → IH → R (D × IH) := fun env ih => (f env ih).bind fun r1 => (h env r1.2).bind fun r2 => od r1.1 r2.1 r2.2
theorem tOp_of {W : WX} {X : Cx} {r : R2} {od : D → D → IH → R (D × IH)} {f h : Ev → IH → R (D × IH)}
    (hr : ∀ F m ih H σ Q x y d1 d2, HR g.K F m ih H → RD g.K H (Bd F m ih) m d1 x → RD g.K H (Bd F m ih) m d2 y → Fin g W F m ih H σ Q (od d1 d2 ih) → r x y H Q) (σ : L2.St) (H : Hp) (Q : VK) (q : tD g W (dOp od f h) σ H Q) :
    tOp r (tD g W f) (tD g W h) σ H Q := by
  obtain ⟨F, m, ih, env, hr0, er, q⟩ := q
  refine tD_bind (k := fun d ih1 => (h env ih1).bind fun r2 => od d r2.1 r2.2) hr0 er q fun m1 H1 x d1 ih1 hr1 p1 rx q1 => ?_
  refine tD_bind (k := fun d ih2 => od d1 d ih2) hr1 (er.post hr0 p1) q1 fun m2 H2 y d2 ih2 hr2 p2 ry q2 => ?_
  exact hr F m2 ih2 H2 σ Q x y d1 d2 hr2 (p2.rd hr1 rx) ry q2
theorem se_bin {op : Operator} {a b : Expr} {pos : Pos} {od : D → D → IH → R (D × IH)} {f h : Ev → IH → R (D × IH)} (ho : OpD g (binaryOp op) od) (ha : SE g N lev sc f a) (hb : SE g N lev sc h b) : SE g N lev sc (dOp od f h) (.BinOp a op b pos) := fun W X G => by
  obtain ⟨r, h1, h2⟩ := ho N lev sc W X G
  exact PE.con (pe_op h1 (ha W X G) (hb W X G)) (tOp_of (X := X) h2)
theorem se_cmp {op : CmpOp} {a b : Expr} {pos : Pos} {od : D → D → IH → R (D × IH)} {f h : Ev → IH → R (D × IH)} (ho : OpD g (compareOp op) od) (ha : SE g N lev sc f a) (hb : SE g N lev sc h b) (hm : behindInMarks op b = false) : SE g N lev sc (dOp od f h) (.Compare a [op] [b] pos) := fun W X G => by
  obtain ⟨r, h1, h2⟩ := ho N lev sc W X G
  exact PE.con (pe_cmpR h1 (ha W X G) (hb W X G) hm) (tOp_of (X := X) h2)
/-- one more way -/
theorem OpD.or {f : Value → Value → Sem Value} {od od1 od2 : D → D → IH → R (D × IH)} (h1 : OpD g f od1) (h2 : OpD g f od2) (h : ∀ d1 d2 ih, od d1 d2 ih = od1 d1 d2 ih ∨ od d1 d2 ih = od2 d1 d2 ih) : OpD g f od := fun N lev sc W X G => by
  obtain ⟨r1, a1, b1⟩ := h1 N lev sc W X G
  obtain ⟨r2, a2, b2⟩ := h2 N lev sc W X G
  refine ⟨_, a1.or a2, fun F m ih H σ Q x y d1 d2 hr rx ry q => ?_⟩
  rcases h d1 d2 ih with e | e
  · rw [e] at q; exact .inl (b1 F m ih H σ Q x y d1 d2 hr rx ry q)
  · rw [e] at q; exact .inr (b2 F m ih H σ Q x y d1 d2 hr rx ry q)
end
end Dn

/-! Dn4: operators. -/
namespace Dn
open PySem PySem.Spec PyProof.Rows L2

/-! ### lists of data -/
section
variable {H : Hp} {B : Addr → Prop}
theorem RPs.length : ∀ {ps : List P} {vs : List V}, RPs H B ps vs → vs.length = ps.length
  | [], _, h => by rw [show _ = _ from h]; rfl
  | _ :: _, _, h => by
    obtain ⟨v, r, rfl, _, h⟩ := h
    simp [RPs.length h]
theorem RPs.append : ∀ {ps qs : List P} {vs ws : List V}, RPs H B ps vs → RPs H B qs ws → RPs H B (ps ++ qs) (vs ++ ws)
  | [], _, _, _, h, k => by rw [show _ = _ from h]; exact k
  | _ :: _, _, _, _, h, k => by
    obtain ⟨v, r, rfl, h1, h⟩ := h
    exact ⟨v, _, rfl, h1, RPs.append h k⟩
theorem RPs.get : ∀ {ps : List P} {vs : List V} {i : Nat} {p : P}, RPs H B ps vs → ps[i]? = some p → ∃ v, vs[i]? = some v ∧ RP H B p v
  | [], _, _, _, _, e => by simp at e
  | _ :: _, _, 0, _, h, e => by
    obtain ⟨v, r, rfl, h1, h⟩ := h
    cases e
    exact ⟨v, rfl, h1⟩
  | _ :: _, _, i + 1, _, h, e => by
    obtain ⟨v, r, rfl, h1, h⟩ := h
    exact RPs.get (i := i) h (by simpa using e)
theorem RPs.take : ∀ {ps : List P} {vs : List V} (n : Nat), RPs H B ps vs → RPs H B (ps.take n) (vs.take n)
  | _, _, 0, _ => rfl
  | [], _, n + 1, h => by rw [show _ = _ from h]; rfl
  | _ :: _, _, n + 1, h => by
    obtain ⟨v, r, rfl, h1, h⟩ := h
    exact ⟨v, _, rfl, h1, RPs.take n h⟩
theorem RPs.drop : ∀ {ps : List P} {vs : List V} (n : Nat), RPs H B ps vs → RPs H B (ps.drop n) (vs.drop n)
  | _, _, 0, h => h
  | [], _, n + 1, h => by rw [show _ = _ from h]; rfl
  | _ :: _, _, n + 1, h => by
    obtain ⟨v, r, rfl, h1, h⟩ := h
    exact RPs.drop n h
theorem RPs.reverse {ps : List P} {vs : List V} (h : RPs H B ps vs) : RPs H B ps.reverse vs.reverse := by
  induction ps generalizing vs with
  | nil => rw [show vs = [] from h]; rfl
  | cons p ps ih =>
    obtain ⟨v, r, rfl, h1, h⟩ := h
    rw [List.reverse_cons, List.reverse_cons]
    exact (ih h).append ⟨v, [], rfl, h1, rfl⟩
theorem RPs.rep {ps : List P} {vs : List V} (h : RPs H B ps vs) : ∀ k : Nat, RPs H B (List.replicate k ps).flatten (List.replicate k vs).flatten
  | 0 => rfl
  | k + 1 => by
    rw [List.replicate_succ, List.replicate_succ, List.flatten_cons, List.flatten_cons]
    exact h.append (RPs.rep h k)
theorem RPs.one {p : P} {v : V} (h : RP H B p v) : RPs H B [p] [v] := ⟨v, [], rfl, h, rfl⟩
end

/-! ### ends -/
section
variable {g : GI} {W : WX} {F : Addr → Prop} {m : List Addr} {ih : IH} {H : Hp} {σ : L2.St} {Q : VK}
theorem HR.newB (hr : HR g.K F m ih H) {p : Addr} (h : H p = none) : ¬ Bd F m ih p := fun z => by
  rcases z with z | z
  · exact hr.ft p z h
  · exact hr.tr p z.lt h
theorem fin_pu {p : P} {v : V} (hr : HR g.K F m ih H) (h : Fin g W F m ih H σ Q (.ok (.pu p, ih))) (r : RP H (Bd F m ih) p v) : Q v H := h m H v (Post.refl hr) r
theorem RPs.fresh {ps : List P} {vs : List V} {p : Addr} {o : HO} (hr : HR g.K F m ih H) (h : H p = none) (r : RPs H (Bd F m ih) ps vs) : RPs (upd H p o) (Bd F m ih) ps vs := (Post.fresh (o := o) hr h).rps hr r
theorem fin_lst {ps : List P} {vs : List V} (hr : HR g.K F m ih H) (h : Fin g W F m ih H σ Q (.ok (.pu (.lst ps), ih))) (r : RPs H (Bd F m ih) ps vs) (p : Addr) (hp : H p = none) : Q (.ref p) (upd H p (.lst vs)) :=
  h m _ _ (Post.fresh hr hp) ⟨p, vs, rfl, upd_same, hr.newB hp, r.fresh hr hp⟩
theorem fin_tup {ps : List P} {vs : List V} (hr : HR g.K F m ih H) (h : Fin g W F m ih H σ Q (.ok (.pu (.tup ps), ih))) (r : RPs H (Bd F m ih) ps vs) (p : Addr) (hp : H p = none) : Q (.ref p) (upd H p (.tup vs)) :=
  h m _ _ (Post.fresh hr hp) ⟨p, vs, rfl, upd_same, r.fresh hr hp⟩
end

/-! ### arithmetic -/
/-- an operation on two ints -/
def od2 (c : Int → Int → Bool) (q : Int → Int → P) : D → D → IH → R (D × IH)
  | .pu (.int i), .pu (.int j), ih => if c i j then .ok (.pu (q i j), ih) else .stuck
  | _, _, _ => .stuck
theorem odI_ok {g : GI} {f : Value → Value → Sem Value} {c : Int → Int → Bool} {q : Int → Int → P} {C : Int → Int → Prop} {v : Int → Int → V} (ho : ∀ X : Cx, OpR X f (rI C v)) (hc : ∀ i j, c i j = true → C i j) (hv : ∀ i j, atomV (q i j) = some (v i j)) : OpD g f (od2 c q) := fun N lev sc W X G => by
  refine ⟨_, ho X, fun F m ih H σ Q x y d1 d2 hr rx ry h => ?_⟩
  unfold od2 at h
  split at h
  · cases rx
    cases ry
    split at h
    · rename_i z
      exact ⟨_, _, rfl, rfl, hc _ _ z, fin_pu hr h (atom_rp (hv _ _))⟩
    · exact h.elim
  · exact h.elim
theorem odI0_ok {g : GI} {f : Value → Value → Sem Value} {q : Int → Int → P} {v : Int → Int → V} (ho : ∀ X : Cx, OpR X f (rI0 v)) (hv : ∀ i j, atomV (q i j) = some (v i j)) : OpD g f (od2 (fun _ _ => true) q) := fun N lev sc W X G => by
  refine ⟨_, ho X, fun F m ih H σ Q x y d1 d2 hr rx ry h => ?_⟩
  unfold od2 at h
  split at h
  · cases rx
    cases ry
    exact ⟨_, _, rfl, rfl, fin_pu hr h (atom_rp (hv _ _))⟩
  · exact h.elim
def SL : Nat := 16777216
theorem SL_eq : sizeLine = SL := sizeLine_eq
def addS : D → D → IH → R (D × IH)
  | .pu (.str x), .pu (.str y), ih => if x.length + y.length ≤ SL then .ok (.pu (.str (x ++ y)), ih) else .stuck
  | _, _, _ => .stuck
def addL : D → D → IH → R (D × IH)
  | .pu (.lst x), .pu (.lst y), ih => if x.length + y.length ≤ SL then .ok (.pu (.lst (x ++ y)), ih) else .stuck
  | _, _, _ => .stuck
def addT : D → D → IH → R (D × IH)
  | .pu (.tup x), .pu (.tup y), ih => if x.length + y.length ≤ SL then .ok (.pu (.tup (x ++ y)), ih) else .stuck
  | _, _, _ => .stuck
def addD : D → D → IH → R (D × IH)
  | .pu (.int i), .pu (.int j), ih => .ok (.pu (.int (i + j)), ih)
  | .pu (.str x), .pu (.str y), ih => if x.length + y.length ≤ SL then .ok (.pu (.str (x ++ y)), ih) else .stuck
  | .pu (.lst x), .pu (.lst y), ih => if x.length + y.length ≤ SL then .ok (.pu (.lst (x ++ y)), ih) else .stuck
  | .pu (.tup x), .pu (.tup y), ih => if x.length + y.length ≤ SL then .ok (.pu (.tup (x ++ y)), ih) else .stuck
  | _, _, _ => .stuck
theorem addS_ok {g : GI} : OpD g (binaryOp .Add) addS := fun N lev sc W X G => by
  refine ⟨_, op_add_str, fun F m ih H σ Q x y d1 d2 hr rx ry h => ?_⟩
  unfold addS at h
  split at h
  · cases rx
    cases ry
    split at h
    · rename_i z
      exact ⟨_, _, rfl, rfl, by rw [SL_eq]; exact z, fin_pu hr h rfl⟩
    · exact h.elim
  · exact h.elim
theorem addL_ok {g : GI} : OpD g (binaryOp .Add) addL := fun N lev sc W X G => by
  refine ⟨_, op_cat, fun F m ih H σ Q x y d1 d2 hr rx ry h => ?_⟩
  unfold addL at h
  split at h
  · obtain ⟨a, vs, rfl, ha, _, ra⟩ := rx
    obtain ⟨b, ws, rfl, hb, _, rb⟩ := ry
    split at h
    · rename_i z
      exact ⟨_, _, _, _, rfl, rfl, ha, hb, by rw [SL_eq, ra.length, rb.length]; exact z, fin_lst hr h (ra.append rb)⟩
    · exact h.elim
  · exact h.elim
theorem addT_ok {g : GI} : OpD g (binaryOp .Add) addT := fun N lev sc W X G => by
  refine ⟨_, op_catA, fun F m ih H σ Q x y d1 d2 hr rx ry h => ?_⟩
  unfold addT at h
  split at h
  · obtain ⟨a, vs, rfl, ha, ra⟩ := rx
    obtain ⟨b, ws, rfl, hb, rb⟩ := ry
    split at h
    · rename_i z
      refine ⟨_, _, _, _, rfl, rfl, .of ha, .of hb, by rw [SL_eq, ra.length, rb.length]; exact z, fun e => ?_, fun e e2 => ?_, fun e e2 => fin_tup hr h (ra.append rb)⟩
      · subst e
        rename_i p1 p2
        have : p1 = [] := by cases p1 with
          | nil => rfl
          | cons a b => have := ra.length; simp at this
        subst this
        exact fin_pu hr h ⟨b, ws, rfl, hb, rb⟩
      · subst e2
        rename_i p1 p2
        have : p2 = [] := by cases p2 with
          | nil => rfl
          | cons a b => have := rb.length; simp at this
        subst this
        rw [List.append_nil] at h
        exact fin_pu hr h ⟨a, vs, rfl, ha, ra⟩
    · exact h.elim
  · exact h.elim
theorem addD_ok {g : GI} : OpD g (binaryOp .Add) addD := by
  refine OpD.or (odI0_ok (q := fun i j => .int (i + j)) (fun X => op_add) (fun _ _ => rfl)) (OpD.or addS_ok (OpD.or addL_ok addT_ok (od := fun a b ih => match a, b with | .pu (.lst _), _ => addL a b ih | _, _ => addT a b ih) fun a b ih => ?_) (od := fun a b ih => match a, b with | .pu (.str _), _ => addS a b ih | .pu (.lst _), _ => addL a b ih | _, _ => addT a b ih) fun a b ih => ?_) fun a b ih => ?_
  · split
    · exact .inl rfl
    · exact .inr rfl
  · split
    · exact .inl rfl
    · exact .inr rfl
    · rename_i h1 h2
      right
      split
      · exact absurd rfl (h2 _ )
      · rfl
  · unfold addD
    split
    · exact .inl rfl
    · exact .inr rfl
    · exact .inr rfl
    · exact .inr rfl
    · left
      unfold od2
      split
      · rename_i h1 h2 h3 h4
        exact absurd rfl (fun z => h1 _ _ z rfl)
      · rfl
/-- ints: - * % // ** -/
def subD : D → D → IH → R (D × IH) := od2 (fun _ _ => true) fun i j => .int (i - j)
theorem subD_ok {g : GI} : OpD g (binaryOp .Sub) subD := odI0_ok (fun X => op_sub) (fun _ _ => rfl)
def small64 (i : Int) : Bool := decide (-18446744073709551616 < i) && decide (i < 18446744073709551616)
def mulI : D → D → IH → R (D × IH) := od2 (fun i j => small64 i || small64 j) fun i j => .int (i * j)
theorem mulI_ok {g : GI} : OpD g (binaryOp .Mult) mulI := odI_ok (fun X => op_mul) (fun i j h => by
  rcases Bool.or_eq_true_iff.mp h with h | h
  · obtain ⟨h1, h2⟩ := Bool.and_eq_true_iff.mp h
    exact .inl ⟨by simpa using of_decide_eq_true h1, by simpa using of_decide_eq_true h2⟩
  · obtain ⟨h1, h2⟩ := Bool.and_eq_true_iff.mp h
    exact .inr ⟨by simpa using of_decide_eq_true h1, by simpa using of_decide_eq_true h2⟩) (fun _ _ => rfl)
def modD : D → D → IH → R (D × IH) := od2 (fun _ j => decide (0 < j)) fun i j => .int (i % j)
theorem modD_ok {g : GI} : OpD g (binaryOp .Mod) modD := odI_ok (fun X => op_mod) (fun i j h => of_decide_eq_true h) (fun _ _ => rfl)
def fdivD : D → D → IH → R (D × IH) := od2 (fun _ j => decide (0 < j) && decide (j < 1073741824)) fun i j => .int (i / j)
theorem fdivD_ok {g : GI} : OpD g (binaryOp .FloorDiv) fdivD := odI_ok (fun X => op_fdiv) (fun i j h => by
  obtain ⟨h1, h2⟩ := Bool.and_eq_true_iff.mp h
  exact ⟨of_decide_eq_true h1, of_decide_eq_true h2⟩) (fun _ _ => rfl)
def powD : D → D → IH → R (D × IH) := od2 (fun i j => decide (0 ≤ j) && (decide (j ≤ 1000000) && decide (i.natAbs < 18446744073709551616))) fun i j => .int (i ^ j.toNat)
theorem powD_ok {g : GI} : OpD g (binaryOp .Pow) powD := odI_ok (fun X => op_pow) (fun i j h => by
  obtain ⟨h1, h2⟩ := Bool.and_eq_true_iff.mp h
  obtain ⟨h2, h3⟩ := Bool.and_eq_true_iff.mp h2
  exact ⟨of_decide_eq_true h1, of_decide_eq_true h2, by simpa using of_decide_eq_true h3⟩) (fun _ _ => rfl)
/-- a list times an int -/
def mulL : D → D → IH → R (D × IH)
  | .pu (.lst x), .pu (.int k), ih => if (decide (-1000 ≤ k) && decide (k ≤ 1000)) && decide (x.length * k.toNat ≤ SL) then .ok (.pu (.lst (List.replicate k.toNat x).flatten), ih) else .stuck
  | _, _, _ => .stuck
theorem mulL_ok {g : GI} : OpD g (binaryOp .Mult) mulL := fun N lev sc W X G => by
  refine ⟨_, op_rep, fun F m ih H σ Q x y d1 d2 hr rx ry h => ?_⟩
  unfold mulL at h
  split at h
  · obtain ⟨a, vs, rfl, ha, _, ra⟩ := rx
    cases ry
    split at h
    · rename_i z
      obtain ⟨z1, z2⟩ := Bool.and_eq_true_iff.mp z
      obtain ⟨z0, z1⟩ := Bool.and_eq_true_iff.mp z1
      have z0 := of_decide_eq_true z0
      have z1 := of_decide_eq_true z1
      have z2 := of_decide_eq_true z2
      exact ⟨_, _, _, rfl, rfl, ha, by omega, by omega, by rw [SL_eq, ra.length]; exact z2, fin_lst hr h (ra.rep _)⟩
    · exact h.elim
  · exact h.elim
def mulT : D → D → IH → R (D × IH)
  | .pu (.tup x), .pu (.int k), ih => if (decide (2 ≤ k) && decide (k ≤ 1000)) && (!x.isEmpty && decide (x.length ≤ 1000)) then .ok (.pu (.tup (List.replicate k.toNat x).flatten), ih) else .stuck
  | _, _, _ => .stuck
theorem mulT_ok {g : GI} : OpD g (binaryOp .Mult) mulT := fun N lev sc W X G => by
  refine ⟨_, op_repT, fun F m ih H σ Q x y d1 d2 hr rx ry h => ?_⟩
  unfold mulT at h
  split at h
  · obtain ⟨a, vs, rfl, ha, ra⟩ := rx
    cases ry
    split at h
    · rename_i z
      obtain ⟨z1, z2⟩ := Bool.and_eq_true_iff.mp z
      obtain ⟨z0, z1⟩ := Bool.and_eq_true_iff.mp z1
      obtain ⟨z2, z3⟩ := Bool.and_eq_true_iff.mp z2
      have z3 := of_decide_eq_true z3
      refine ⟨_, _, _, rfl, rfl, .of ha, fun e => ?_, of_decide_eq_true z0, of_decide_eq_true z1, by rw [ra.length]; exact z3, fin_tup hr h (ra.rep _)⟩
      subst e
      have hx := List.eq_nil_of_length_eq_zero (ra.length.symm.trans rfl)
      rw [hx] at z2
      simp at z2
    · exact h.elim
  · exact h.elim
def mulD : D → D → IH → R (D × IH)
  | .pu (.lst x), b, ih => mulL (.pu (.lst x)) b ih
  | .pu (.tup x), b, ih => mulT (.pu (.tup x)) b ih
  | a, b, ih => mulI a b ih
theorem mulD_ok {g : GI} : OpD g (binaryOp .Mult) mulD := by
  refine OpD.or mulL_ok (OpD.or mulT_ok mulI_ok (od := fun a b ih => match a with | .pu (.tup x) => mulT a b ih | _ => mulI a b ih) fun a b ih => ?_) fun a b ih => ?_
  · split
    · exact .inl rfl
    · exact .inr rfl
  · unfold mulD
    split
    · exact .inl rfl
    · exact .inr rfl
    · right
      rename_i h1 h2
      split
      · exact absurd rfl (h2 _)
      · rfl
end Dn

/-! Dn5: comparisons, truth, dicts looked at. -/
namespace Dn
open PySem PySem.Spec PyProof.Rows L2

mutual
def pd : P → PyData
  | .non => .none
  | .bl b => .bool b
  | .int i => .int i
  | .str s => .str s
  | .tup xs => .tuple (pds xs)
  | .lst xs => .list (pds xs)
  | .dic _ => .dict []
  | .dit _ => .dict []
def pds : List P → List PyData
  | [] => []
  | p :: ps => pd p :: pds ps
end
theorem pds_map (ps : List P) : pds ps = ps.map pd := by
  induction ps with
  | nil => rfl
  | cons p ps ih => rw [pds, ih]; rfl
/-- data that == and repr take -/
def shp (p : P) : Bool := SeqAt.shaped (pd p)
section
variable {K : PySem.W.Frag} {H : Hp} {B : Addr → Prop}
mutual
theorem dp_of : ∀ (p : P) (v : V), RP H B p v → (pd p).canLay0 = true → Dp K H v (pd p)
  | .non, _, h, _ => by cases h; exact .non
  | .bl _, _, h, _ => by cases h; exact .bl _
  | .int _, _, h, _ => by cases h; exact .int _
  | .str _, _, h, _ => by cases h; exact .str _
  | .tup ps, _, h, c => by
    obtain ⟨a, vs, rfl, h1, h2⟩ := h
    exact .tup (.of h1) (dps_of ps vs h2 c)
  | .lst ps, _, h, c => by
    obtain ⟨a, vs, rfl, h1, _, h2⟩ := h
    exact .lst (.of h1) (dps_of ps vs h2 c)
  | .dic _, _, _, c => by cases c
  | .dit _, _, _, c => by cases c
theorem dps_of : ∀ (ps : List P) (vs : List V), RPs H B ps vs → PyData.canLayAll0 (pds ps) = true → DpAll K H vs (pds ps)
  | [], _, h, _ => by rw [show _ = [] from h]; exact .nil
  | p :: ps, _, h, c => by
    obtain ⟨v, r, rfl, h1, h2⟩ := h
    obtain ⟨c1, c2⟩ := Bool.and_eq_true_iff.mp (show ((pd p).canLay0 && PyData.canLayAll0 (pds ps)) = true from c)
    exact .cons (dp_of p v h1 c1) (dps_of ps r h2 c2)
end
end

/-! ### == and != -/
def eqP (p q : P) : Bool := PyData.eqv (pd p) (pd q)
def eqD0 (t : Bool → Bool) : D → D → IH → R (D × IH)
  | .pu p, .pu q, ih => if shp p && shp q then .ok (.pu (.bl (t (eqP p q))), ih) else .stuck
  | _, _, _ => .stuck
def eqDs (t : Bool → Bool) : D → D → IH → R (D × IH)
  | .pu (.str p), .pu (.str q), ih => .ok (.pu (.bl (t (decide (p = q)))), ih)
  | _, _, _ => .stuck
def eqDt (t : Bool → Bool) : D → D → IH → R (D × IH)
  | .pu (.str p), .pu (.str q), ih => .ok (.pu (.bl (t (decide (p = q)))), ih)
  | a, b, ih => eqD0 t a b ih
def eqD : D → D → IH → R (D × IH) := eqDt id
def neD : D → D → IH → R (D × IH) := eqDt not
theorem eqD0_ok {g : GI} : OpD g (compareOp .Eq) (eqD0 id) := fun N lev sc W X G => by
  refine ⟨_, op_eqD G.room.units, fun F m ih H σ Q x y d1 d2 hr rx ry h => ?_⟩
  unfold eqD0 at h
  split at h
  · split at h
    · rename_i z
      obtain ⟨z1, z2⟩ := Bool.and_eq_true_iff.mp z
      exact ⟨_, _, dp_of _ _ rx (SeqAt.canLay_of_shaped z1), dp_of _ _ ry (SeqAt.canLay_of_shaped z2), z1, z2, fin_pu hr h rfl⟩
    · exact h.elim
  · exact h.elim
theorem neD0_ok {g : GI} : OpD g (compareOp .NotEq) (eqD0 not) := fun N lev sc W X G => by
  refine ⟨_, op_neD G.room.units, fun F m ih H σ Q x y d1 d2 hr rx ry h => ?_⟩
  unfold eqD0 at h
  split at h
  · split at h
    · rename_i z
      obtain ⟨z1, z2⟩ := Bool.and_eq_true_iff.mp z
      exact ⟨_, _, dp_of _ _ rx (SeqAt.canLay_of_shaped z1), dp_of _ _ ry (SeqAt.canLay_of_shaped z2), z1, z2, fin_pu hr h rfl⟩
    · exact h.elim
  · exact h.elim
theorem dec_str' {p q : Str} : decide (V.str p = V.str q) = decide (p = q) := by simp
theorem eqDs_ok {g : GI} : OpD g (compareOp .Eq) (eqDs id) := fun N lev sc W X G => by
  refine ⟨_, op_eq, fun F m ih H σ Q x y d1 d2 hr rx ry h => ?_⟩
  unfold eqDs at h
  split at h
  · cases rx
    cases ry
    exact ⟨rfl, by rw [dec_str']; exact fin_pu hr h rfl⟩
  · exact h.elim
theorem neDs_ok {g : GI} : OpD g (compareOp .NotEq) (eqDs not) := fun N lev sc W X G => by
  refine ⟨_, op_ne, fun F m ih H σ Q x y d1 d2 hr rx ry h => ?_⟩
  unfold eqDs at h
  split at h
  · cases rx
    cases ry
    exact ⟨rfl, by rw [dec_str']; exact fin_pu hr h rfl⟩
  · exact h.elim
theorem eqDt_or (t : Bool → Bool) (a b : D) (ih : IH) : eqDt t a b ih = eqDs t a b ih ∨ eqDt t a b ih = eqD0 t a b ih := by
  unfold eqDt
  split
  · exact .inl rfl
  · exact .inr rfl
theorem eqD_ok {g : GI} : OpD g (compareOp .Eq) eqD := OpD.or eqDs_ok eqD0_ok (eqDt_or id)
theorem neD_ok {g : GI} : OpD g (compareOp .NotEq) neD := OpD.or neDs_ok neD0_ok (eqDt_or not)

/-! ### order -/
def ltT : D → D → IH → R (D × IH)
  | .pu (.tup p), .pu (.tup q), ih => if PySem.W.alike (pd (.tup p)) (pd (.tup q)) && (shp (.tup p) && shp (.tup q)) then .ok (.pu (.bl (PySem.W.dataLt (pd (.tup p)) (pd (.tup q)))), ih) else .stuck
  | _, _, _ => .stuck
def ordS (f : List Nat → List Nat → Bool) : D → D → IH → R (D × IH)
  | .pu (.str p), .pu (.str q), ih => .ok (.pu (.bl (f p.cps.toList q.cps.toList)), ih)
  | _, _, _ => .stuck
/-- strings first, then ints -/
def ordD (s : List Nat → List Nat → Bool) (c : Int → Int → Bool) : D → D → IH → R (D × IH)
  | .pu (.str p), .pu (.str q), ih => .ok (.pu (.bl (s p.cps.toList q.cps.toList)), ih)
  | a, b, ih => od2 (fun _ _ => true) (fun i j => .bl (c i j)) a b ih
theorem ordD_or (s : List Nat → List Nat → Bool) (c : Int → Int → Bool) (a b : D) (ih : IH) : ordD s c a b ih = ordS s a b ih ∨ ordD s c a b ih = od2 (fun _ _ => true) (fun i j => .bl (c i j)) a b ih := by
  unfold ordD
  split
  · exact .inl rfl
  · exact .inr rfl
theorem ordS_ok {g : GI} {f : Value → Value → Sem Value} {s : List Nat → List Nat → Bool} (ho : ∀ X : Cx, OpR X f (fun x y H Q => ∃ i j, x = .str i ∧ y = .str j ∧ Q (.bl (s i.cps.toList j.cps.toList)) H)) : OpD g f (ordS s) := fun N lev sc W X G => by
  refine ⟨_, ho X, fun F m ih H σ Q x y d1 d2 hr rx ry h => ?_⟩
  unfold ordS at h
  split at h
  · cases rx
    cases ry
    exact ⟨_, _, rfl, rfl, fin_pu hr h rfl⟩
  · exact h.elim
def ltS : D → D → IH → R (D × IH) := ordD (fun a b => decide (a < b)) fun i j => decide (i < j)
def leD : D → D → IH → R (D × IH) := ordD (fun a b => !decide (b < a)) fun i j => decide (i ≤ j)
def gtD : D → D → IH → R (D × IH) := ordD (fun a b => decide (b < a)) fun i j => decide (j < i)
def geD : D → D → IH → R (D × IH) := ordD (fun a b => !decide (a < b)) fun i j => decide (j ≤ i)
theorem ltS_ok {g : GI} : OpD g (compareOp .Lt) ltS := OpD.or (ordS_ok fun X => op_lt_str) (odI0_ok (fun X => op_lt) (fun _ _ => rfl)) (ordD_or _ _)
theorem leD_ok {g : GI} : OpD g (compareOp .LtE) leD := OpD.or (ordS_ok fun X => op_le_str) (odI0_ok (fun X => op_le) (fun _ _ => rfl)) (ordD_or _ _)
theorem gtD_ok {g : GI} : OpD g (compareOp .Gt) gtD := OpD.or (ordS_ok fun X => op_gt_str) (odI0_ok (fun X => op_gt) (fun _ _ => rfl)) (ordD_or _ _)
theorem geD_ok {g : GI} : OpD g (compareOp .GtE) geD := OpD.or (ordS_ok fun X => op_ge_str) (odI0_ok (fun X => op_ge) (fun _ _ => rfl)) (ordD_or _ _)
theorem ltT_ok {g : GI} : OpD g (compareOp .Lt) ltT := fun N lev sc W X G => by
  refine ⟨fun x y H Q => ∃ d e, Dp X.K H x d ∧ Dp X.K H y e ∧ PySem.W.alike d e = true ∧ d ≠ .none ∧ SeqAt.shaped d = true ∧ Q (.bl (PySem.W.dataLt d e)) H, ?_, fun F m ih H σ Q x y d1 d2 hr rx ry h => ?_⟩
  · intro pins s σ H x y v u Q I rx ry h
    obtain ⟨d, e, hd, he, al, nn, sd, q⟩ := h
    obtain ⟨as, r1⟩ := Dp.reads I d x v hd rx
    obtain ⟨bs, r2⟩ := Dp.reads I e y u he ry
    exact PySem.W.rcLt_alike d e X.A s v u as bs r1 r2 al nn (SeqAt.room_of_shaped sd G.room.units) _ _ _ _ ⟨.bl _, H, I, rfl, q⟩
  · unfold ltT at h
    split at h
    · split at h
      · rename_i z
        obtain ⟨z0, z⟩ := Bool.and_eq_true_iff.mp z
        obtain ⟨z1, z2⟩ := Bool.and_eq_true_iff.mp z
        exact ⟨_, _, dp_of _ _ rx (SeqAt.canLay_of_shaped z1), dp_of _ _ ry (SeqAt.canLay_of_shaped z2), z0, (fun e => by cases e), z1, fin_pu hr h rfl⟩
      · exact h.elim
    · exact h.elim
def ltD : D → D → IH → R (D × IH)
  | .pu (.tup p), b, ih => ltT (.pu (.tup p)) b ih
  | a, b, ih => ltS a b ih
theorem ltD_ok {g : GI} : OpD g (compareOp .Lt) ltD := OpD.or ltT_ok ltS_ok fun a b ih => by
  unfold ltD
  split
  · exact .inl rfl
  · exact .inr rfl

/-! ### is None -/
def isNon : P → Bool
  | .non => true
  | _ => false
def isN (t : Bool → Bool) : D → D → IH → R (D × IH)
  | .pu p, .pu .non, ih => .ok (.pu (.bl (t (isNon p))), ih)
  | .ref _, .pu .non, ih => .ok (.pu (.bl (t false)), ih)
  | _, _, _ => .stuck
theorem rp_non {H : Hp} {B : Addr → Prop} {p : P} {v : V} (h : RP H B p v) : decide (v = .non) = isNon p := by
  cases p with
  | non => cases h; rfl
  | bl _ => cases h; rfl
  | int _ => cases h; rfl
  | str _ => cases h; rfl
  | tup _ => obtain ⟨a, _, rfl, _⟩ := h; rfl
  | lst _ => obtain ⟨a, _, rfl, _⟩ := h; rfl
  | dic _ => obtain ⟨a, _, _, rfl, _⟩ := h; rfl
  | dit _ => obtain ⟨a, _, _, rfl, _⟩ := h; rfl
theorem isN_ok {g : GI} : OpD g (compareOp .Is) (isN id) := fun N lev sc W X G => by
  refine ⟨_, op_isN, fun F m ih H σ Q x y d1 d2 hr rx ry h => ?_⟩
  unfold isN at h
  split at h
  · cases ry
    exact ⟨rfl, by rw [rp_non rx]; exact fin_pu hr h rfl⟩
  · cases ry
    obtain ⟨a, rfl, _⟩ := rx
    exact ⟨rfl, fin_pu hr h rfl⟩
  · exact h.elim
theorem isNotN_ok {g : GI} : OpD g (compareOp .IsNot) (isN not) := fun N lev sc W X G => by
  refine ⟨_, op_notN, fun F m ih H σ Q x y d1 d2 hr rx ry h => ?_⟩
  unfold isN at h
  split at h
  · cases ry
    exact ⟨rfl, by rw [rp_non rx]; exact fin_pu hr h rfl⟩
  · cases ry
    obtain ⟨a, rfl, _⟩ := rx
    exact ⟨rfl, fin_pu hr h rfl⟩
  · exact h.elim
end Dn

/-! Dn6: in, dict look-ups, truth, and, or, not, if. -/
namespace Dn
open PySem PySem.Spec PyProof.Rows L2

/-! ### tables -/
def lk {κ α : Type} [DecidableEq κ] (kvs : List (κ × α)) (k : κ) : Option α := (kvs.find? fun kv => decide (kv.1 = k)).map (·.2)
def toK : P → Option Key
  | .int i => some (.inl i)
  | .str s => some (.inr s)
  | _ => none
def toKs : List P → Option (List Key)
  | [] => some []
  | p :: ps => match toK p, toKs ps with
    | some k, some ks => some (k :: ks)
    | _, _ => none
section
variable {g : GI} {F : Addr → Prop} {m : List Addr} {ih : IH} {H : Hp} {B : Addr → Prop} {K : PySem.W.Frag}
theorem lk_cons {κ α : Type} [DecidableEq κ] (k k' : κ) (a : α) (r : List (κ × α)) : lk ((k', a) :: r) k = if k' = k then some a else lk r k := by
  unfold lk
  rw [List.find?_cons]
  by_cases h : k' = k <;> simp [h]
theorem valV_lk {κ : Type} [DecidableEq κ] (kvs : List (κ × V)) (k : κ) : valV kvs k = lk kvs k := rfl
theorem toK_rp {p : P} {k : Key} {v : V} (e : toK p = some k) (h : RP H B p v) : v = kV k := by
  cases p with
  | int i => cases e; exact h
  | str s => cases e; exact h
  | _ => cases e
theorem toKs_rp : ∀ {ps : List P} {ks : List Key} {vs : List V}, toKs ps = some ks → RPs H B ps vs → vs = ks.map kV
  | [], _, _, e, h => by cases e; exact h
  | p :: ps, ks, vs, e, h => by
    obtain ⟨v, r, rfl, h1, h2⟩ := h
    rw [toKs] at e
    cases e1 : toK p with
    | none => rw [e1] at e; cases e
    | some k =>
      cases e2 : toKs ps with
      | none => rw [e1, e2] at e; cases e
      | some ks' =>
        rw [e1, e2] at e
        cases e
        rw [toK_rp e1 h1, toKs_rp e2 h2]
        rfl
/-- the same key, related values -/
def OptR (R : P → V → Prop) : Option P → Option V → Prop
  | some p, some v => R p v
  | none, none => True
  | _, _ => False
def OptD (R : D → V → Prop) : Option D → Option V → Prop
  | some p, some v => R p v
  | none, none => True
  | _, _ => False
theorem RPk.val : ∀ {ks : List (Key × P)} {kvs : List (Key × V)} (k : Key), RPk H B ks kvs → OptR (RP H B) (lk ks k) (lk kvs k)
  | [], _, k, h => by rw [show _ = [] from h]; trivial
  | (k', p) :: ks, _, k, h => by
    obtain ⟨v, r, rfl, h1, h2⟩ := h
    rw [lk_cons, lk_cons]
    by_cases e : k' = k
    · rw [if_pos e, if_pos e]; exact h1
    · rw [if_neg e, if_neg e]; exact RPk.val k h2
theorem RPt.val : ∀ {ks : List (List Key × P)} {kvs : List (List Key × V)} (k : List Key), RPt H B ks kvs → OptR (RP H B) (lk ks k) (lk kvs k)
  | [], _, k, h => by rw [show _ = [] from h]; trivial
  | (k', p) :: ks, _, k, h => by
    obtain ⟨v, r, rfl, h1, h2⟩ := h
    rw [lk_cons, lk_cons]
    by_cases e : k' = k
    · rw [if_pos e, if_pos e]; exact h1
    · rw [if_neg e, if_neg e]; exact RPt.val k h2
theorem RDk.val {κ : Type} [DecidableEq κ] : ∀ {ks : List (κ × D)} {kvs : List (κ × V)} (k : κ), RDk K H B m ks kvs → OptD (RD K H B m) (lk ks k) (lk kvs k)
  | [], _, k, h => by rw [show _ = [] from h]; trivial
  | (k', p) :: ks, _, k, h => by
    obtain ⟨v, r, rfl, h1, h2⟩ := h
    rw [lk_cons, lk_cons]
    by_cases e : k' = k
    · rw [if_pos e, if_pos e]; exact h1
    · rw [if_neg e, if_neg e]; exact RDk.val k h2
/-- what a dict holds at a key: none: no dict, no key; some none: not there -/
def dlook (o k : D) (ih : IH) : Option (Option D) := match o with
  | .pu (.dic ks) => (match k with
    | .pu p => (toK p).map fun k => (lk ks k).map .pu
    | _ => none)
  | .pu (.dit ks) => (match k with
    | .pu (.tup ps) => (toKs ps).map fun k => (lk ks k).map .pu
    | _ => none)
  | .ref n => (match ih[n]? with
    | some (.dic ks) => (match k with
      | .pu p => (toK p).map fun k => lk ks k
      | _ => none)
    | some (.dit ks) => (match k with
      | .pu (.tup ps) => (toKs ps).map fun k => lk ks k
      | _ => none)
    | _ => none)
  | _ => none
theorem OptR.toD {o : Option P} {v : Option V} (h : OptR (RP H B) o v) : OptD (RD K H B m) (o.map .pu) v := by
  cases o with
  | none => cases v with
    | none => trivial
    | some _ => exact h.elim
  | some p => cases v with
    | none => exact h.elim
    | some _ => exact h
theorem dlook_ok {o k : D} {r : Option D} {x y : V} (hr : HR g.K F m ih H) (e : dlook o k ih = some r) (rx : RD g.K H (Bd F m ih) m o x) (ry : RD g.K H (Bd F m ih) m k y) :
    ∃ a r', x = .ref a ∧ DGet H a y r' ∧ OptD (RD g.K H (Bd F m ih) m) r r' := by
  unfold dlook at e
  split at e
  · obtain ⟨a, od, kvs, rfl, h1, h2⟩ := rx
    split at e
    · obtain ⟨k, e1, e2⟩ := Option.map_eq_some_iff.mp e
      subst e2
      exact ⟨a, valV kvs k, rfl, .inl ⟨kvs, k, .inr ⟨od, h1⟩, toK_rp e1 ry, rfl⟩, (RPk.val k h2).toD⟩
    · cases e
  · obtain ⟨a, od, kvs, rfl, h1, h2⟩ := rx
    split at e
    · obtain ⟨k, e1, e2⟩ := Option.map_eq_some_iff.mp e
      subst e2
      obtain ⟨b, vs, rfl, hb, rb⟩ := ry
      exact ⟨a, valV kvs k, rfl, .inr ⟨kvs, k, b, .inr ⟨od, h1⟩, rfl, by rw [hb, toKs_rp e1 rb], rfl⟩, (RPt.val k h2).toD⟩
    · cases e
  · obtain ⟨a, rfl, hm⟩ := rx
    split at e
    · rename_i ks hc
      obtain ⟨o, ho, rc⟩ := hr.cell _ a _ hm hc (by intro z; cases z)
      split at e
      · obtain ⟨k, e1, e2⟩ := Option.map_eq_some_iff.mp e
        subst e2
        cases o with
        | dK kvs => exact ⟨a, valV kvs k, rfl, .inl ⟨kvs, k, .inl ho, toK_rp e1 ry, rfl⟩, RDk.val k rc⟩
        | _ => exact rc.elim
      · cases e
    · rename_i ks hc
      obtain ⟨o, ho, rc⟩ := hr.cell _ a _ hm hc (by intro z; cases z)
      split at e
      · obtain ⟨k, e1, e2⟩ := Option.map_eq_some_iff.mp e
        subst e2
        obtain ⟨b, vs, rfl, hb, rb⟩ := ry
        cases o with
        | dT kvs => exact ⟨a, valV kvs k, rfl, .inr ⟨kvs, k, b, .inl ho, rfl, by rw [hb, toKs_rp e1 rb], rfl⟩, RDk.val k rc⟩
        | _ => exact rc.elim
      · cases e
    · cases e
  · cases e
end

/-! ### in, not in -/
def flatP : P → Bool
  | .non | .bl _ | .int _ | .str _ => true
  | _ => false
theorem flat_rp {H : Hp} {B : Addr → Prop} {p : P} {v : V} (f : flatP p = true) (h : RP H B p v) : flatV v = true := by
  cases p <;> first | (cases h; rfl) | cases f
theorem eq_rp {H : Hp} {B : Addr → Prop} {p q : P} {v w : V} (f : flatP p = true) (f' : flatP q = true) (h : RP H B p v) (h' : RP H B q w) : eqV v w = eqP p q := by
  cases p <;> first
    | exact absurd f Bool.false_ne_true
    | (cases q <;> first
      | exact absurd f' Bool.false_ne_true
      | (cases h; cases h'; unfold eqP pd; first | rfl | (simp only [eqV, PyData.eqv])))
def eltsP : P → Option (List P)
  | .lst xs => some xs
  | .tup xs => some xs
  | _ => none
def inF (t : Bool → Bool) : D → D → IH → R (D × IH)
  | .pu x, .pu c, ih => (match eltsP c with
    | some xs => if flatP x && xs.all flatP then .ok (.pu (.bl (t (xs.any fun y => eqP y x))), ih) else .stuck
    | none => .stuck)
  | _, _, _ => .stuck
def inDeep (t : Bool → Bool) : D → D → IH → R (D × IH)
  | .pu x, .pu c, ih => (match eltsP c with
    | some xs => if shp x && shp c then .ok (.pu (.bl (t (xs.any fun y => eqP y x))), ih) else .stuck
    | none => .stuck)
  | _, _, _ => .stuck
def inSign (t : Bool → Bool) : D → D → IH → R (D × IH)
  | .pu (.str x), .pu (.str z), ih => (match x.cps.toList with
    | [c] => .ok (.pu (.bl (t (decide (c ∈ z.cps.toList)))), ih)
    | _ => .stuck)
  | _, _, _ => .stuck
def inDict (t : Bool → Bool) : D → D → IH → R (D × IH) := fun k o ih => match dlook o k ih with
  | some r => .ok (.pu (.bl (t r.isSome)), ih)
  | none => .stuck
def inDt (t : Bool → Bool) : D → D → IH → R (D × IH) := fun k o ih => match o with
  | .pu (.str z) => inSign t k (.pu (.str z)) ih
  | .pu (.lst xs) => if (match k with | .pu x => flatP x && xs.all flatP | _ => false) then inF t k (.pu (.lst xs)) ih else inDeep t k (.pu (.lst xs)) ih
  | .pu (.tup xs) => if (match k with | .pu x => flatP x && xs.all flatP | _ => false) then inF t k (.pu (.tup xs)) ih else inDeep t k (.pu (.tup xs)) ih
  | o => inDict t k o ih
section
variable {g : GI}
theorem any_rp {H : Hp} {B : Addr → Prop} {p : P} {v : V} (f : flatP p = true) (h : RP H B p v) : ∀ {ps : List P} {vs : List V}, ps.all flatP = true → RPs H B ps vs → inV v vs = (ps.any fun y => eqP y p) ∧ vs.all flatV = true
  | [], _, _, r => by rw [show _ = [] from r]; exact ⟨rfl, rfl⟩
  | q :: ps, _, fa, r => by
    obtain ⟨w, rr, rfl, r1, r2⟩ := r
    rw [List.all_cons, Bool.and_eq_true] at fa
    obtain ⟨e1, e2⟩ := any_rp f h fa.2 r2
    refine ⟨?_, by rw [List.all_cons, flat_rp fa.1 r1, e2]; rfl⟩
    unfold inV at e1 ⊢
    rw [List.any_cons, List.any_cons, e1, eq_rp fa.1 f r1 h]
theorem elts_rp {H : Hp} {B : Addr → Prop} {c : P} {xs : List P} {K : PySem.W.Frag} {y : V} (e : eltsP c = some xs) (r : RP H B c y) : ∃ a vs, y = .ref a ∧ (SqL K H a vs ∨ SqT K H a vs) ∧ RPs H B xs vs := by
  cases c with
  | lst ps => cases e; obtain ⟨a, vs, rfl, h1, _, h2⟩ := r; exact ⟨a, vs, rfl, .inl (.of h1), h2⟩
  | tup ps => cases e; obtain ⟨a, vs, rfl, h1, h2⟩ := r; exact ⟨a, vs, rfl, .inr (.of h1), h2⟩
  | _ => cases e
theorem inF_ok (neg : Bool) {f : Value → Value → Sem Value} (ho : ∀ X : Cx, OpR X f (rIn X.K neg)) : OpD g f (inF fun b => if neg then !b else b) := fun N lev sc W X G => by
  refine ⟨_, ho X, fun F m ih H σ Q x y d1 d2 hr rx ry h => ?_⟩
  unfold inF at h
  split at h
  · split at h
    · rename_i e
      split at h
      · rename_i z
        obtain ⟨z1, z2⟩ := Bool.and_eq_true_iff.mp z
        obtain ⟨a, vs, rfl, h1, h2⟩ := elts_rp (K := X.K) e ry
        obtain ⟨e1, e2⟩ := any_rp z1 rx z2 h2
        exact ⟨a, vs, rfl, h1, flat_rp z1 rx, e2, by rw [e1]; exact fin_pu hr h rfl⟩
      · exact h.elim
    · exact h.elim
  · exact h.elim
def rInS (K : PySem.W.Frag) (neg : Bool) : R2 := fun x y H Q => ∃ d ds, Dp K H x d ∧ (Dp K H y (.list ds) ∨ Dp K H y (.tuple ds)) ∧ SeqAt.shaped d = true ∧ SeqAt.shaped (.list ds) = true ∧ Q (.bl (if neg then !(ds.any fun z => PyData.eqv z d) else (ds.any fun z => PyData.eqv z d))) H
theorem op_inS {X : Cx} (hu : X.A.units + 65 < cLine) : OpR X (compareOp .In) (rInS X.K false) := by
  intro pins s σ H x y v u Q I rx ry h
  obtain ⟨d, ds, hd, he | he, sd, se, q⟩ := h
  · exact op_inD hu pins s σ H x y v u Q I rx ry ⟨d, ds, hd, he, sd, se, q⟩
  · obtain ⟨as, r1⟩ := Dp.reads I d x v hd rx
    obtain ⟨bs, r2⟩ := Dp.reads I (.tuple ds) y u he ry
    exact SeqAt.in_tuple_reads r2 r1 (SeqAt.canLay_of_shaped se) (SeqAt.canLay_of_shaped sd) (room_in_shaped sd hu) ⟨.bl _, H, I, rfl, q⟩
theorem op_notInS {X : Cx} (hu : X.A.units + 65 < cLine) : OpR X (compareOp .NotIn) (rInS X.K true) := by
  intro pins s σ H x y v u Q I rx ry h
  obtain ⟨d, ds, hd, he | he, sd, se, q⟩ := h
  · exact op_notInD hu pins s σ H x y v u Q I rx ry ⟨d, ds, hd, he, sd, se, q⟩
  · obtain ⟨as, r1⟩ := Dp.reads I d x v hd rx
    obtain ⟨bs, r2⟩ := Dp.reads I (.tuple ds) y u he ry
    exact SeqAt.notIn_tuple_reads r2 r1 (SeqAt.canLay_of_shaped se) (SeqAt.canLay_of_shaped sd) (room_in_shaped sd hu) ⟨.bl _, H, I, rfl, q⟩
theorem any_pds (x : P) : ∀ xs : List P, ((pds xs).any fun z => PyData.eqv z (pd x)) = xs.any fun y => eqP y x
  | [] => rfl
  | y :: ys => by rw [pds, List.any_cons, List.any_cons, any_pds x ys]; rfl
theorem inDeep_ok (neg : Bool) {f : Value → Value → Sem Value} (ho : ∀ X : Cx, X.A.units + 65 < cLine → OpR X f (rInS X.K neg)) : OpD g f (inDeep fun b => if neg then !b else b) := fun N lev sc W X G => by
  refine ⟨_, ho X (by have := G.room.un; omega), fun F m ih H σ Q x y d1 d2 hr rx ry h => ?_⟩
  unfold inDeep at h
  split at h
  · rename_i c
    split at h
    · rename_i e
      split at h
      · rename_i z
        obtain ⟨z1, z2⟩ := Bool.and_eq_true_iff.mp z
        have dy := dp_of (K := X.K) _ _ ry (SeqAt.canLay_of_shaped z2)
        have dx := dp_of (K := X.K) _ _ rx (SeqAt.canLay_of_shaped z1)
        cases c with
        | lst ps =>
          cases e
          exact ⟨_, _, dx, .inl dy, z1, z2, by rw [any_pds]; exact fin_pu hr h rfl⟩
        | tup ps =>
          cases e
          exact ⟨_, _, dx, .inr dy, z1, z2, by rw [any_pds]; exact fin_pu hr h rfl⟩
        | _ => cases e
      · exact h.elim
    · exact h.elim
  · exact h.elim
theorem sign_of {x : Str} {c : Nat} (h : x.cps.toList = [c]) : x = ⟨#[c]⟩ := by
  cases x with
  | mk a => cases a with
    | mk l => cases (show l = [c] from h); rfl
theorem inSign_ok (t : Bool → Bool) {f : Value → Value → Sem Value} (ho : ∀ X : Cx, OpR X f (fun x y H Q => ∃ (c : Nat) (z : Str), x = .str ⟨#[c]⟩ ∧ y = .str z ∧ Q (.bl (t (decide (c ∈ z.cps.toList)))) H)) : OpD g f (inSign t) := fun N lev sc W X G => by
  refine ⟨_, ho X, fun F m ih H σ Q x y d1 d2 hr rx ry h => ?_⟩
  unfold inSign at h
  split at h
  · cases rx
    cases ry
    split at h
    · rename_i e
      exact ⟨_, _, by rw [sign_of e], rfl, fin_pu hr h rfl⟩
    · exact h.elim
  · exact h.elim
theorem inDict_ok (t : Bool → Bool) {f : Value → Value → Sem Value} (ho : ∀ X : Cx, X.A.units + 1 < cLine → OpR X f (fun x y H Q => ∃ a o, y = .ref a ∧ DGet H a x o ∧ Q (.bl (t o.isSome)) H)) : OpD g f (inDict t) := fun N lev sc W X G => by
  refine ⟨_, ho X (hu_of G.room), fun F m ih H σ Q x y d1 d2 hr rx ry h => ?_⟩
  unfold inDict at h
  split at h
  · rename_i r e
    obtain ⟨a, r', rfl, dg, o⟩ := dlook_ok hr e ry rx
    refine ⟨a, r', rfl, dg, ?_⟩
    have : r'.isSome = r.isSome := by cases r <;> cases r' <;> first | rfl | exact o.elim
    rw [this]
    exact fin_pu hr h rfl
  · exact h.elim
theorem op_inDic {X : Cx} (hu : X.A.units + 1 < cLine) : OpR X (compareOp .In) (fun x y H Q => ∃ a o, y = .ref a ∧ DGet H a x o ∧ Q (.bl o.isSome) H) := by
  intro pins s σ H x y v u Q I rx ry h
  obtain ⟨a, o, rfl, dg, q⟩ := h
  cases ry
  exact d_in hu I dg rx fun s' I' => ⟨.bl _, H, I', rfl, q⟩
theorem op_notInDic {X : Cx} (hu : X.A.units + 1 < cLine) : OpR X (compareOp .NotIn) (fun x y H Q => ∃ a o, y = .ref a ∧ DGet H a x o ∧ Q (.bl (!o.isSome)) H) := by
  intro pins s σ H x y v u Q I rx ry h
  obtain ⟨a, o, rfl, dg, q⟩ := h
  cases ry
  exact d_notIn hu I dg rx fun s' I' => ⟨.bl _, H, I', rfl, q⟩
theorem ite_or {α : Type} (c : Bool) (x y : α) : (if c = true then x else y) = x ∨ (if c = true then x else y) = y := by cases c <;> simp
theorem inDt_ways (t : Bool → Bool) {f : Value → Value → Sem Value} (h1 : OpD g f (inF t)) (h2 : OpD g f (inDeep t)) (h3 : OpD g f (inSign t)) (h4 : OpD g f (inDict t)) : OpD g f (inDt t) := by
  have h12 : OpD g f (fun k o ih => if (match k, o with | .pu x, .pu c => (match eltsP c with | some xs => flatP x && xs.all flatP | none => false) | _, _ => false) then inF t k o ih else inDeep t k o ih) := OpD.or h1 h2 fun a b ih => ite_or _ _ _
  refine OpD.or h12 (OpD.or h3 h4 (od := fun k o ih => match o with | .pu (.str z) => inSign t k (.pu (.str z)) ih | o => inDict t k o ih) fun a b ih => ?_) fun a b ih => ?_
  · split
    · exact .inl rfl
    · exact .inr rfl
  · unfold inDt
    split
    · exact .inr rfl
    · left
      cases a <;> rfl
    · left
      cases a <;> rfl
    · right
      rename_i n1 n2 n3
      split
      · exact absurd rfl (n1 _)
      · rfl
def inD : D → D → IH → R (D × IH) := inDt id
def notInD : D → D → IH → R (D × IH) := inDt not
theorem inD_ok : OpD g (compareOp .In) inD := inDt_ways id (inF_ok false fun X => op_in_seq) (inDeep_ok false fun X => op_inS) (inSign_ok id fun X => op_in_sign) (inDict_ok id fun X => op_inDic)
theorem notInD_ok : OpD g (compareOp .NotIn) notInD := inDt_ways not (inF_ok true fun X => op_notIn_seq) (inDeep_ok true fun X => op_notInS) (inSign_ok not fun X => op_notIn_sign) (inDict_ok not fun X => op_notInDic)
end
end Dn

/-! Dn7: truth, tests, and, or, not, if; subscripts, slices; argument lists and displays. -/
namespace Dn
open PySem PySem.Spec PyProof.Rows L2

/-! ### truth -/
def truP : P → Option Bool
  | .non => some false
  | .bl b => some b
  | .int i => some (i != 0)
  | .str s => if s.length ≤ SL then some ((s.length : Int) != 0) else none
  | .tup xs => some !xs.isEmpty
  | .lst xs => some !xs.isEmpty
  | _ => none
def truD : D → IH → Option Bool
  | .pu p, _ => truP p
  | .ref n, ih => match ih[n]? with
    | some (.lst xs) => some !xs.isEmpty
    | some (.dic xs) => some !xs.isEmpty
    | _ => none
  | .scr _, _ => none
  | .ke, _ => none
  | .tz _, _ => none
section
variable {g : GI} {F : Addr → Prop} {m : List Addr} {ih : IH} {H : Hp} {B : Addr → Prop} {K : PySem.W.Frag} {W : WX} {σ : L2.St} {env : Ev}
theorem RPs.empty {ps : List P} {vs : List V} (r : RPs H B ps vs) : vs.isEmpty = ps.isEmpty := by
  cases ps with
  | nil => rw [show vs = [] from r]; rfl
  | cons _ _ => obtain ⟨_, _, rfl, _⟩ := r; rfl
theorem RDs.empty {ps : List D} {vs : List V} (r : RDs K H B m ps vs) : vs.isEmpty = ps.isEmpty := by
  cases ps with
  | nil => rw [show vs = [] from r]; rfl
  | cons _ _ => obtain ⟨_, _, rfl, _⟩ := r; rfl
theorem RDk.empty {κ : Type} {ps : List (κ × D)} {vs : List (κ × V)} (r : RDk K H B m ps vs) : vs.isEmpty = ps.isEmpty := by
  cases ps with
  | nil => rw [show vs = [] from r]; rfl
  | cons p _ => obtain ⟨k, d⟩ := p; obtain ⟨_, _, rfl, _⟩ := r; rfl
theorem truP_ok {p : P} {v : V} {b : Bool} (e : truP p = some b) (r : RP H B p v) : TruV K v H b := by
  cases p with
  | non => cases e; cases r; rfl
  | bl b => cases e; cases r; rfl
  | int i => cases e; cases r; rfl
  | str s =>
    cases r
    simp only [truP] at e
    split at e
    · cases e; exact ⟨by rw [SL_eq]; assumption, rfl⟩
    · cases e
  | tup xs => cases e; obtain ⟨a, vs, rfl, h1, h2⟩ := r; exact .inr (.inl ⟨vs, .of h1, by rw [h2.empty]⟩)
  | lst xs => cases e; obtain ⟨a, vs, rfl, h1, _, h2⟩ := r; exact .inl ⟨vs, .of h1, by rw [h2.empty]⟩
  | dic _ => cases e
  | dit _ => cases e
theorem truD_ok {d : D} {v : V} {b : Bool} (hr : HR g.K F m ih H) (e : truD d ih = some b) (r : RD g.K H (Bd F m ih) m d v) : TruV g.K v H b := by
  cases d with
  | pu p => exact truP_ok e r
  | scr _ => cases e
  | ke => cases e
  | tz _ => cases e
  | ref n =>
    obtain ⟨a, rfl, hm⟩ := r
    simp only [truD] at e
    split at e
    · rename_i hc
      obtain ⟨o, ho, rc⟩ := hr.cell _ a _ hm hc (by intro z; cases z)
      cases e
      cases o with
      | lst vs => exact .inl ⟨vs, .of ho, by rw [RDs.empty rc]⟩
      | _ => exact rc.elim
    · rename_i hc
      obtain ⟨o, ho, rc⟩ := hr.cell _ a _ hm hc (by intro z; cases z)
      cases e
      cases o with
      | dK vs => exact .inr (.inr ⟨vs, ho, by rw [RDk.empty rc]⟩)
      | _ => exact rc.elim
    · cases e

/-! ### tests -/
/-- a test's end -/
def FinT (g : GI) (W : WX) (F : Addr → Prop) (m : List Addr) (ih : IH) (H : Hp) (σ : L2.St) (Q : Bool → Hp → Prop) : R (D × IH) → Prop
  | .ok r => ∃ b, truD r.1 r.2 = some b ∧ ∀ m' H', Post g.K F m ih H m' r.2 H' → Q b H'
  | .exc c fs ih' => ∀ m' H' cls dd, Post g.K F m ih H m' ih' H' → RX g H' (Bd F m' ih') c fs cls dd → W cls dd σ H'
  | .stuck => False
theorem FinT.rebase {m' : List Addr} {ih' : IH} {H' : Hp} (hr : HR g.K F m ih H) (p : Post g.K F m ih H m' ih' H') {Q : Bool → Hp → Prop} {r : R (D × IH)} (h : FinT g W F m ih H σ Q r) : FinT g W F m' ih' H' σ Q r := by
  cases r with
  | ok r =>
    obtain ⟨b, e, h⟩ := h
    exact ⟨b, e, fun m2 H2 p2 => h m2 H2 (p.trans hr p2)⟩
  | exc c fs ih2 => exact fun m2 H2 cls dd p2 r2 => h m2 H2 cls dd (p.trans hr p2) r2
  | stuck => exact h
def tT (g : GI) (W : WX) (f : Ev → IH → R (D × IH)) : TT := fun σ H Q => ∃ F m ih env, HR g.K F m ih H ∧ EvR g.K H (Bd F m ih) m env σ ∧ FinT g W F m ih H σ Q (f env ih)
end
def ST (g : GI) (N : List Str) (lev : Nat) (sc : Scope) (f : Ev → IH → R (D × IH)) (e : Expr) : Prop := ∀ W X, Gd g N lev sc W X → PT X e (tT g W f)
section
variable {g : GI} {N : List Str} {lev : Nat} {sc : Scope} {W : WX}
/-- from a test back to the value's truth -/
theorem tD_tT {f : Ev → IH → R (D × IH)} {σ : L2.St} {H : Hp} {Q : Bool → Hp → Prop} {T : V → Hp → Prop} (h : tT g W f σ H Q) (hT : ∀ x H1 b, TruV g.K x H1 b → Q b H1 → T x H1) : tD g W f σ H T := by
  obtain ⟨F, m, ih, env, hr, er, h⟩ := h
  refine ⟨F, m, ih, env, hr, er, ?_⟩
  cases e : f env ih with
  | ok r =>
    rw [e] at h
    obtain ⟨b, e2, h⟩ := h
    exact fun m1 H1 v p1 r1 => hT v H1 b (truD_ok p1.hr e2 r1) (h m1 H1 p1)
  | exc c fs ih2 => rw [e] at h; exact h
  | stuck => rw [e] at h; exact h
theorem st_of {f : Ev → IH → R (D × IH)} {e : Expr} (h : SE g N lev sc f e) (he : ∀ (env : Env) (whole : Sem Value), isTrue e env whole = (do let v ← whole; standAt e.pos; holding [v] (truthy v))) : ST g N lev sc f e := fun W X G => by
  refine PT.con (pt_truth (h W X G) (he X.env)) fun σ H Q q => ?_
  exact tD_tT q fun x H1 b t q => ⟨b, by rw [G.K]; exact t, q⟩

/-! ### not, and, or, if -/
def dNot (f : Ev → IH → R (D × IH)) : Ev → IH → R (D × IH) := fun env ih => (f env ih).bind fun r => match truD r.1 r.2 with
  | some b => .ok (.pu (.bl !b), r.2)
  | none => .stuck
theorem st_not {f : Ev → IH → R (D × IH)} {a : Expr} {pos : Pos} (h : ST g N lev sc f a) : ST g N lev sc (dNot f) (.UnaryOp .Not a pos) := fun W X G => by
  refine PT.con (pt_not (h W X G)) fun σ H Q q => ?_
  obtain ⟨F, m, ih, env, hr, er, q⟩ := q
  refine ⟨F, m, ih, env, hr, er, ?_⟩
  unfold dNot at q
  cases e : f env ih with
  | ok r =>
    rw [e] at q
    simp only [R.bind] at q
    cases e2 : truD r.1 r.2 with
    | none => simp only [e2] at q; exact q.elim
    | some b =>
      simp only [e2] at q
      obtain ⟨b', e3, q⟩ := q
      cases e3
      exact ⟨b, e2, q⟩
  | exc c fs ih2 => rw [e] at q; exact q
  | stuck => rw [e] at q; exact q
theorem se_not {f : Ev → IH → R (D × IH)} {a : Expr} {pos : Pos} (h : SE g N lev sc f a) : SE g N lev sc (dNot f) (.UnaryOp .Not a pos) := fun W X G => by
  refine PE.con (pe_notT (h W X G)) fun σ H Q q => ?_
  obtain ⟨F, m, ih, env, hr, er, q⟩ := q
  refine tD_bind (k := fun d ih1 => match truD d ih1 with | some b => .ok (.pu (.bl !b), ih1) | none => .stuck) hr er q fun m1 H1 x d ih1 hr1 p1 rx q1 => ?_
  cases e2 : truD d ih1 with
  | none => simp only [e2] at q1; exact q1.elim
  | some b =>
    simp only [e2] at q1
    exact ⟨b, by rw [G.K]; exact truD_ok hr1 e2 rx, fin_pu hr1 q1 rfl⟩
def dAnd (f h : Ev → IH → R (D × IH)) : Ev → IH → R (D × IH) := fun env ih => (f env ih).bind fun r => match truD r.1 r.2 with
  | some true => h env r.2
  | some false => .ok r
  | none => .stuck
def dOr (f h : Ev → IH → R (D × IH)) : Ev → IH → R (D × IH) := fun env ih => (f env ih).bind fun r => match truD r.1 r.2 with
  | some true => .ok r
  | some false => h env r.2
  | none => .stuck
theorem se_one {f : Ev → IH → R (D × IH)} {a : Expr} {op : BoolOp} {pos : Pos} (h : SE g N lev sc f a) : SE g N lev sc f (.BoolOp op [a] pos) := fun W X G => pe_one (h W X G)
theorem se_and {f h : Ev → IH → R (D × IH)} {a b : Expr} {rest : List Expr} {pos : Pos} (ha : SE g N lev sc f a) (hb : SE g N lev sc h (.BoolOp .And (b :: rest) pos)) : SE g N lev sc (dAnd f h) (.BoolOp .And (a :: b :: rest) pos) := fun W X G => by
  refine PE.con (pe_andT (ha W X G) (hb W X G)) fun σ H Q q => ?_
  obtain ⟨F, m, ih, env, hr, er, q⟩ := q
  refine tD_bind (k := fun d ih1 => match truD d ih1 with | some true => h env ih1 | some false => .ok (d, ih1) | none => .stuck) hr er q fun m1 H1 x d ih1 hr1 p1 rx q1 => ?_
  cases e2 : truD d ih1 with
  | none => simp only [e2] at q1; exact q1.elim
  | some b =>
    simp only [e2] at q1
    refine ⟨b, by rw [G.K]; exact truD_ok hr1 e2 rx, ?_⟩
    cases b with
    | true => exact ⟨F, m1, ih1, env, hr1, er.post hr p1, q1⟩
    | false => exact q1 m1 H1 x (Post.refl hr1) rx
theorem se_or {f h : Ev → IH → R (D × IH)} {a b : Expr} {rest : List Expr} {pos : Pos} (ha : SE g N lev sc f a) (hb : SE g N lev sc h (.BoolOp .Or (b :: rest) pos)) : SE g N lev sc (dOr f h) (.BoolOp .Or (a :: b :: rest) pos) := fun W X G => by
  refine PE.con (pe_orT (ha W X G) (hb W X G)) fun σ H Q q => ?_
  obtain ⟨F, m, ih, env, hr, er, q⟩ := q
  refine tD_bind (k := fun d ih1 => match truD d ih1 with | some true => .ok (d, ih1) | some false => h env ih1 | none => .stuck) hr er q fun m1 H1 x d ih1 hr1 p1 rx q1 => ?_
  cases e2 : truD d ih1 with
  | none => simp only [e2] at q1; exact q1.elim
  | some b =>
    simp only [e2] at q1
    refine ⟨b, by rw [G.K]; exact truD_ok hr1 e2 rx, ?_⟩
    cases b with
    | false => exact ⟨F, m1, ih1, env, hr1, er.post hr p1, q1⟩
    | true => exact q1 m1 H1 x (Post.refl hr1) rx
/-- a test whatever stands around it -/
def SW (g : GI) (N : List Str) (lev : Nat) (sc : Scope) (f : Ev → IH → R (D × IH)) (e : Expr) : Prop := ∀ W X, Gd g N lev sc W X → PW X e (tT g W f)
theorem SW.st {f : Ev → IH → R (D × IH)} {e : Expr} (h : SW g N lev sc f e) : ST g N lev sc f e := fun W X G => (h W X G).pt
theorem PW.con {X : Cx} {e : Expr} {t t' : TT} (h : PW X e t) (k : ∀ σ H Q, t' σ H Q → t σ H Q) : PW X e t' := ⟨fun wh pins s σ H Q I q => h.run wh pins s σ H Q I (k σ H Q q)⟩
theorem sw_and1 {f : Ev → IH → R (D × IH)} {a : Expr} {pos : Pos} (h : ST g N lev sc f a) : SW g N lev sc f (.BoolOp .And [a] pos) := fun W X G => pw_and1 (h W X G)
theorem sw_or1 {f : Ev → IH → R (D × IH)} {a : Expr} {pos : Pos} (h : ST g N lev sc f a) : SW g N lev sc f (.BoolOp .Or [a] pos) := fun W X G => pw_or1 (h W X G)
theorem tT_bind {f : Ev → IH → R (D × IH)} {k : D → IH → R (D × IH)} {Q : Bool → Hp → Prop} {T : Bool → Hp → Prop} {F : Addr → Prop} {m : List Addr} {ih : IH} {H : Hp} {σ : L2.St} {env : Ev} (hr : HR g.K F m ih H) (er : EvR g.K H (Bd F m ih) m env σ)
    (h : FinT g W F m ih H σ Q ((f env ih).bind fun r => k r.1 r.2)) (hk : ∀ d ih1, truD d ih1 = none → k d ih1 = .stuck)
    (hT : ∀ m1 H1 b d ih1, HR g.K F m1 ih1 H1 → Post g.K F m ih H m1 ih1 H1 → truD d ih1 = some b → FinT g W F m1 ih1 H1 σ Q (k d ih1) → T b H1) : tT g W f σ H T := by
  refine ⟨F, m, ih, env, hr, er, ?_⟩
  cases e : f env ih with
  | ok r =>
    rw [e] at h
    cases e2 : truD r.1 r.2 with
    | none =>
      have h : FinT g W F m ih H σ Q (k r.1 r.2) := h
      rw [hk _ _ e2] at h
      exact h.elim
    | some b => exact ⟨b, e2, fun m1 H1 p1 => hT m1 H1 b r.1 r.2 p1.hr p1 e2 (FinT.rebase hr p1 h)⟩
  | exc c fs ih2 => rw [e] at h; exact h
  | stuck => rw [e] at h; exact h
theorem sw_and {f h : Ev → IH → R (D × IH)} {a b : Expr} {rest : List Expr} {pos : Pos} (ha : ST g N lev sc f a) (hb : SW g N lev sc h (.BoolOp .And (b :: rest) pos)) : SW g N lev sc (dAnd f h) (.BoolOp .And (a :: b :: rest) pos) := fun W X G => by
  refine PW.con (pw_and (ha W X G) (hb W X G)) fun σ H Q q => ?_
  obtain ⟨F, m, ih, env, hr, er, q⟩ := q
  refine tT_bind (k := fun d ih1 => match truD d ih1 with | some true => h env ih1 | some false => .ok (d, ih1) | none => .stuck) hr er q (fun d ih1 e => by simp only [e]) fun m1 H1 b d ih1 hr1 p1 e2 q1 => ?_
  simp only [e2] at q1
  cases b with
  | true => exact ⟨F, m1, ih1, env, hr1, er.post hr p1, q1⟩
  | false =>
    obtain ⟨b', e3, q1⟩ := q1
    rw [e2] at e3
    cases e3
    exact q1 m1 H1 (Post.refl hr1)
theorem sw_or {f h : Ev → IH → R (D × IH)} {a b : Expr} {rest : List Expr} {pos : Pos} (ha : ST g N lev sc f a) (hb : SW g N lev sc h (.BoolOp .Or (b :: rest) pos)) : SW g N lev sc (dOr f h) (.BoolOp .Or (a :: b :: rest) pos) := fun W X G => by
  refine PW.con (pw_or (ha W X G) (hb W X G)) fun σ H Q q => ?_
  obtain ⟨F, m, ih, env, hr, er, q⟩ := q
  refine tT_bind (k := fun d ih1 => match truD d ih1 with | some true => .ok (d, ih1) | some false => h env ih1 | none => .stuck) hr er q (fun d ih1 e => by simp only [e]) fun m1 H1 b d ih1 hr1 p1 e2 q1 => ?_
  simp only [e2] at q1
  cases b with
  | false => exact ⟨F, m1, ih1, env, hr1, er.post hr p1, q1⟩
  | true =>
    obtain ⟨b', e3, q1⟩ := q1
    rw [e2] at e3
    cases e3
    exact q1 m1 H1 (Post.refl hr1)
def dIf (c f h : Ev → IH → R (D × IH)) : Ev → IH → R (D × IH) := fun env ih => (c env ih).bind fun r => match truD r.1 r.2 with
  | some true => f env r.2
  | some false => h env r.2
  | none => .stuck
theorem se_if {c f h : Ev → IH → R (D × IH)} {ec a b : Expr} {pos : Pos} (hc : ST g N lev sc c ec) (ha : SE g N lev sc f a) (hb : SE g N lev sc h b) : SE g N lev sc (dIf c f h) (.IfExp ec a b pos) := fun W X G => by
  refine PE.con (pe_ifExp (hc W X G) (ha W X G) (hb W X G)) fun σ H Q q => ?_
  obtain ⟨F, m, ih, env, hr, er, q⟩ := q
  refine ⟨F, m, ih, env, hr, er, ?_⟩
  unfold dIf at q
  cases e : c env ih with
  | ok r =>
    rw [e] at q
    simp only [R.bind] at q
    cases e2 : truD r.1 r.2 with
    | none => simp only [e2] at q; exact q.elim
    | some b =>
      simp only [e2] at q
      refine ⟨b, e2, fun m1 H1 p1 => ?_⟩
      cases b with
      | true => exact ⟨F, m1, r.2, env, p1.hr, er.post hr p1, Fin.rebase hr p1 q⟩
      | false => exact ⟨F, m1, r.2, env, p1.hr, er.post hr p1, Fin.rebase hr p1 q⟩
  | exc c fs ih2 => rw [e] at q; exact q
  | stuck => rw [e] at q; exact q
/-- a comparison as a test: the answer is a bool -/
def BoolOd (od : D → D → IH → R (D × IH)) : Prop := ∀ a b ih r, od a b ih = .ok r → ∃ k, r.1 = .pu (.bl k)
theorem bool_fin {F : Addr → Prop} {m : List Addr} {ih : IH} {H : Hp} {σ : L2.St} {Q : Bool → Hp → Prop} {r : R (D × IH)} (hb : ∀ x, r = .ok x → ∃ k, x.1 = .pu (.bl k)) (h : FinT g W F m ih H σ Q r) : Fin g W F m ih H σ (fun x H' => ∃ k, x = .bl k ∧ Q k H') r := by
  cases r with
  | ok x =>
    obtain ⟨k, e⟩ := hb x rfl
    intro m1 H1 v p1 r1
    rw [e] at r1
    obtain ⟨b, e2, h⟩ := h
    rw [e] at e2
    cases e2
    exact ⟨_, r1, h m1 H1 p1⟩
  | exc c fs ih2 => exact h
  | stuck => exact h
theorem st_cmp {op : CmpOp} {a b : Expr} {pos : Pos} {od : D → D → IH → R (D × IH)} {f h : Ev → IH → R (D × IH)} (ho : OpD g (compareOp op) od) (bo : BoolOd od) (ha : SE g N lev sc f a) (hb : SE g N lev sc h b) (hm : behindInMarks op b = false) : ST g N lev sc (dOp od f h) (.Compare a [op] [b] pos) := fun W X G => by
  obtain ⟨r, h1, h2⟩ := ho N lev sc W X G
  refine PT.con (pt_cmpR h1 (ha W X G) (hb W X G) hm) fun σ H Q q => ?_
  refine tOp_of (X := X) h2 σ H _ ?_
  obtain ⟨F, m, ih, env, hr, er, q⟩ := q
  refine ⟨F, m, ih, env, hr, er, bool_fin (fun x e => ?_) q⟩
  unfold dOp at e
  cases e1 : f env ih with
  | ok r1 =>
    rw [e1] at e
    simp only [R.bind] at e
    cases e2 : h env r1.2 with
    | ok r2 => rw [e2] at e; exact bo _ _ _ _ e
    | exc _ _ _ => rw [e2] at e; cases e
    | stuck => rw [e2] at e; cases e
  | exc _ _ _ => rw [e1] at e; cases e
  | stuck => rw [e1] at e; cases e
/-- a < b < c -/
def dCh (od od' : D → D → IH → R (D × IH)) (f h k : Ev → IH → R (D × IH)) : Ev → IH → R (D × IH) := fun env ih => (f env ih).bind fun r1 => (h env r1.2).bind fun r2 => (od r1.1 r2.1 r2.2).bind fun r3 => match r3.1 with
  | .pu (.bl true) => (k env r3.2).bind fun r4 => od' r2.1 r4.1 r4.2
  | .pu (.bl false) => .ok r3
  | _ => .stuck
theorem tCh_of {X : Cx} {r r' : R2} {od od' : D → D → IH → R (D × IH)} {f h k : Ev → IH → R (D × IH)}
    (hr : ∀ F m ih H σ Q x y d1 d2, HR g.K F m ih H → RD g.K H (Bd F m ih) m d1 x → RD g.K H (Bd F m ih) m d2 y → Fin g W F m ih H σ Q (od d1 d2 ih) → r x y H Q)
    (hr' : ∀ F m ih H σ Q x y d1 d2, HR g.K F m ih H → RD g.K H (Bd F m ih) m d1 x → RD g.K H (Bd F m ih) m d2 y → Fin g W F m ih H σ Q (od' d1 d2 ih) → r' x y H Q) (σ : L2.St) (H : Hp) (Q : VK) (q : tD g W (dCh od od' f h k) σ H Q) :
    tChain r r' (tD g W f) (tD g W h) (tD g W k) σ H Q := by
  obtain ⟨F, m, ih, env, hr0, er, q⟩ := q
  refine tD_bind (k := fun d ih1 => (h env ih1).bind fun r2 => (od d r2.1 r2.2).bind fun r3 => match r3.1 with | .pu (.bl true) => (k env r3.2).bind fun r4 => od' r2.1 r4.1 r4.2 | .pu (.bl false) => .ok r3 | _ => .stuck) hr0 er q fun m1 H1 x d1 ih1 hr1 p1 rx q1 => ?_
  refine tD_bind (k := fun d ih2 => (od d1 d ih2).bind fun r3 => match r3.1 with | .pu (.bl true) => (k env r3.2).bind fun r4 => od' d r4.1 r4.2 | .pu (.bl false) => .ok r3 | _ => .stuck) hr1 (er.post hr0 p1) q1 fun m2 H2 y d2 ih2 hr2 p2 ry q2 => ?_
  refine hr F m2 ih2 H2 σ _ x y d1 d2 hr2 (p2.rd hr1 rx) ry ?_
  cases e : od d1 d2 ih2 with
  | stuck => rw [e] at q2; exact q2
  | exc c fs ih3 => rw [e] at q2; exact q2
  | ok r3 =>
    rw [e] at q2
    simp only [R.bind] at q2
    intro m3 H3 z p3 rz
    have hr3 := p3.hr
    split at q2
    · rename_i e3
      rw [e3] at rz
      refine ⟨true, rz, ?_⟩
      rw [if_pos rfl]
      have q3 := Fin.rebase hr2 p3 q2
      refine tD_bind (k := fun d ih4 => od' d2 d ih4) hr3 ((er.post hr0 p1).post hr1 p2 |>.post hr2 p3) q3 fun m4 H4 w d4 ih4 hr4 p4 rw' q4 => ?_
      exact hr' F m4 ih4 H4 σ Q y w d2 d4 hr4 (p4.rd hr3 (p3.rd hr2 ry)) rw' q4
    · rename_i e3
      rw [e3] at rz
      refine ⟨false, rz, ?_⟩
      rw [if_neg Bool.false_ne_true]
      have q3 := q2 m3 H3 (.bl false) p3 (by rw [e3]; rfl)
      exact q3
    · exact q2.elim
theorem se_chain {op op' : CmpOp} {a b c : Expr} {pos : Pos} {od od' : D → D → IH → R (D × IH)} {f h k : Ev → IH → R (D × IH)} (ho : OpD g (compareOp op) od) (ho' : OpD g (compareOp op') od') (ha : SE g N lev sc f a) (hb : SE g N lev sc h b) (hc : SE g N lev sc k c)
    (hm : lastMarks [op, op'] [b, c] = false) : SE g N lev sc (dCh od od' f h k) (.Compare a [op, op'] [b, c] pos) := fun W X G => by
  obtain ⟨r, h1, h2⟩ := ho N lev sc W X G
  obtain ⟨r', h1', h2'⟩ := ho' N lev sc W X G
  exact PE.con (pe_chain h1 h1' (ha W X G) (hb W X G) (hc W X G) hm) (tCh_of (X := X) h2 h2')
theorem st_chain {op op' : CmpOp} {a b c : Expr} {pos : Pos} {od od' : D → D → IH → R (D × IH)} {f h k : Ev → IH → R (D × IH)} (ho : OpD g (compareOp op) od) (ho' : OpD g (compareOp op') od') (bo : BoolOd od) (bo' : BoolOd od') (ha : SE g N lev sc f a) (hb : SE g N lev sc h b) (hc : SE g N lev sc k c)
    (hm : lastMarks [op, op'] [b, c] = false) : ST g N lev sc (dCh od od' f h k) (.Compare a [op, op'] [b, c] pos) := fun W X G => by
  obtain ⟨r, h1, h2⟩ := ho N lev sc W X G
  obtain ⟨r', h1', h2'⟩ := ho' N lev sc W X G
  refine PT.con (pt_chain h1 h1' (ha W X G) (hb W X G) (hc W X G) hm) fun σ H Q q => ?_
  refine tCh_of (X := X) h2 h2' σ H _ ?_
  obtain ⟨F, m, ih, env, hr, er, q⟩ := q
  refine ⟨F, m, ih, env, hr, er, bool_fin (fun x e => ?_) q⟩
  unfold dCh at e
  cases e1 : f env ih with
  | ok r1 =>
    rw [e1] at e
    simp only [R.bind] at e
    cases e2 : h env r1.2 with
    | ok r2 =>
      rw [e2] at e
      simp only [R.bind] at e
      cases e3 : od r1.1 r2.1 r2.2 with
      | ok r3 =>
        rw [e3] at e
        simp only [R.bind] at e
        split at e
        · cases e4 : k env r3.2 with
          | ok r4 => rw [e4] at e; exact bo' _ _ _ _ e
          | exc _ _ _ => rw [e4] at e; cases e
          | stuck => rw [e4] at e; cases e
        · cases e
          exact ⟨_, by assumption⟩
        · cases e
      | exc _ _ _ => rw [e3] at e; cases e
      | stuck => rw [e3] at e; cases e
    | exc _ _ _ => rw [e2] at e; cases e
    | stuck => rw [e2] at e; cases e
  | exc _ _ _ => rw [e1] at e; cases e
  | stuck => rw [e1] at e; cases e
/-- -a -/
def negD (f : Ev → IH → R (D × IH)) : Ev → IH → R (D × IH) := fun env ih => (f env ih).bind fun r => match r.1 with
  | .pu (.int i) => .ok (.pu (.int (-i)), r.2)
  | _ => .stuck
theorem se_neg {f : Ev → IH → R (D × IH)} {a : Expr} {pos : Pos} (h : SE g N lev sc f a) : SE g N lev sc (negD f) (.UnaryOp .USub a pos) := fun W X G => by
  refine PE.con (pe_un un_neg (h W X G)) fun σ H Q q => ?_
  obtain ⟨F, m, ih, env, hr, er, q⟩ := q
  refine tD_bind (k := fun d ih1 => match d with | .pu (.int i) => .ok (.pu (.int (-i)), ih1) | _ => .stuck) hr er q fun m1 H1 x d ih1 hr1 p1 rx q1 => ?_
  split at q1
  · cases rx
    exact ⟨_, rfl, fin_pu hr1 q1 rfl⟩
  · exact q1.elim
end
end Dn

/-! Dn8: subscripts, slices; argument lists and displays. -/
namespace Dn
open PySem PySem.Spec PyProof.Rows L2

/-! ### a[i] -/
/-- as OpD, for subscripts -/
def IxD (g : GI) (od : D → D → IH → R (D × IH)) : Prop := ∀ (N : List Str) (lev : Nat) (sc : Scope) (W : WX) (X : Cx), Gd g N lev sc W X → ∃ r, IxR X r ∧
  ∀ F m ih H σ Q x y d1 d2, HR g.K F m ih H → RD g.K H (Bd F m ih) m d1 x → RD g.K H (Bd F m ih) m d2 y → Fin g W F m ih H σ Q (od d1 d2 ih) → r x y H Q
section
variable {g : GI} {N : List Str} {lev : Nat} {sc : Scope} {W : WX}
theorem IxD.or {od od1 od2 : D → D → IH → R (D × IH)} (h1 : IxD g od1) (h2 : IxD g od2) (h : ∀ d1 d2 ih, od d1 d2 ih = od1 d1 d2 ih ∨ od d1 d2 ih = od2 d1 d2 ih) : IxD g od := fun N lev sc W X G => by
  obtain ⟨r1, a1, b1⟩ := h1 N lev sc W X G
  obtain ⟨r2, a2, b2⟩ := h2 N lev sc W X G
  refine ⟨_, a1.or a2, fun F m ih H σ Q x y d1 d2 hr rx ry q => ?_⟩
  rcases h d1 d2 ih with e | e
  · rw [e] at q; exact .inl (b1 F m ih H σ Q x y d1 d2 hr rx ry q)
  · rw [e] at q; exact .inr (b2 F m ih H σ Q x y d1 d2 hr rx ry q)
theorem se_idx {a b : Expr} {pos : Pos} {od : D → D → IH → R (D × IH)} {f h : Ev → IH → R (D × IH)} (ho : IxD g od) (ha : SE g N lev sc f a) (hb : SE g N lev sc h b) (hs : PlainIx b) : SE g N lev sc (dOp od f h) (.Subscript a b pos) := fun W X G => by
  obtain ⟨r, h1, h2⟩ := ho N lev sc W X G
  exact PE.con (pe_ix h1 (ha W X G) (hb W X G) hs) (tOp_of (X := X) h2)
/-- an item by its place -/
def atP {α : Type} (xs : List α) (i : Int) : Option α := atI xs i
theorem RPs.at {H : Hp} {B : Addr → Prop} {ps : List P} {vs : List V} {i : Int} {p : P} (r : RPs H B ps vs) (e : atI ps i = some p) : ∃ v, atI vs i = some v ∧ RP H B p v := by
  unfold atI at e ⊢
  rw [r.length]
  cases e1 : ixN ps.length i with
  | none => rw [e1] at e; cases e
  | some j =>
    rw [e1] at e
    exact r.get e
theorem RDs.length {K : PySem.W.Frag} {H : Hp} {B : Addr → Prop} {m : List Addr} : ∀ {ps : List D} {vs : List V}, RDs K H B m ps vs → vs.length = ps.length
  | [], _, h => by rw [show _ = _ from h]; rfl
  | _ :: _, _, h => by
    obtain ⟨v, r, rfl, _, h⟩ := h
    simp [RDs.length h]
theorem RDs.get {K : PySem.W.Frag} {H : Hp} {B : Addr → Prop} {m : List Addr} : ∀ {ps : List D} {vs : List V} {i : Nat} {p : D}, RDs K H B m ps vs → ps[i]? = some p → ∃ v, vs[i]? = some v ∧ RD K H B m p v
  | [], _, _, _, _, e => by simp at e
  | _ :: _, _, 0, _, h, e => by
    obtain ⟨v, r, rfl, h1, h⟩ := h
    cases e
    exact ⟨v, rfl, h1⟩
  | _ :: _, _, i + 1, _, h, e => by
    obtain ⟨v, r, rfl, h1, h⟩ := h
    exact RDs.get (i := i) h (by simpa using e)
theorem RDs.at {K : PySem.W.Frag} {H : Hp} {B : Addr → Prop} {m : List Addr} {ps : List D} {vs : List V} {i : Int} {p : D} (r : RDs K H B m ps vs) (e : atI ps i = some p) : ∃ v, atI vs i = some v ∧ RD K H B m p v := by
  unfold atI at e ⊢
  rw [r.length]
  cases e1 : ixN ps.length i with
  | none => rw [e1] at e; cases e
  | some j =>
    rw [e1] at e
    exact r.get e
def ixL : D → D → IH → R (D × IH)
  | .pu (.lst xs), .pu (.int i), ih => (match atI xs i with
    | some p => .ok (.pu p, ih)
    | none => .stuck)
  | .ref n, .pu (.int i), ih => (match ih[n]? with
    | some (.lst xs) => (match atI xs i with
      | some d => .ok (d, ih)
      | none => .stuck)
    | _ => .stuck)
  | _, _, _ => .stuck
def ixT : D → D → IH → R (D × IH)
  | .pu (.tup xs), .pu (.int i), ih => (match atI xs i with
    | some p => .ok (.pu p, ih)
    | none => .stuck)
  | _, _, _ => .stuck
def ixS : D → D → IH → R (D × IH)
  | .pu (.str s), .pu (.int i), ih => (match atI s.cps.toList i with
    | some c => if s.length ≤ SL then .ok (.pu (.str ⟨#[c]⟩), ih) else .stuck
    | none => .stuck)
  | _, _, _ => .stuck
def ixK : D → D → IH → R (D × IH) := fun o k ih => match dlook o k ih with
  | some (some d) => .ok (d, ih)
  | _ => .stuck
theorem ixL_ok : IxD g ixL := fun N lev sc W X G => by
  refine ⟨_, ix_list, fun F m ih H σ Q x y d1 d2 hr rx ry h => ?_⟩
  unfold ixL at h
  split at h
  · obtain ⟨a, vs, rfl, h1, _, h2⟩ := rx
    cases ry
    split at h
    · rename_i e
      obtain ⟨v, e1, r1⟩ := h2.at e
      exact ⟨a, vs, _, v, rfl, rfl, .of h1, e1, fin_pu hr h r1⟩
    · exact h.elim
  · obtain ⟨a, rfl, hm⟩ := rx
    cases ry
    split at h
    · rename_i hc
      obtain ⟨o, ho, rc⟩ := hr.cell _ a _ hm hc (by intro z; cases z)
      split at h
      · rename_i e
        cases o with
        | lst vs =>
          obtain ⟨v, e1, r1⟩ := RDs.at rc e
          exact ⟨a, vs, _, v, rfl, rfl, .of ho, e1, h m H v (Post.refl hr) r1⟩
        | _ => exact rc.elim
      · exact h.elim
    · exact h.elim
  · exact h.elim
theorem ixT_ok : IxD g ixT := fun N lev sc W X G => by
  refine ⟨_, ix_tup, fun F m ih H σ Q x y d1 d2 hr rx ry h => ?_⟩
  unfold ixT at h
  split at h
  · obtain ⟨a, vs, rfl, h1, h2⟩ := rx
    cases ry
    split at h
    · rename_i e
      obtain ⟨v, e1, r1⟩ := h2.at e
      exact ⟨a, vs, _, v, rfl, rfl, .of h1, e1, fin_pu hr h r1⟩
    · exact h.elim
  · exact h.elim
theorem ixS_ok : IxD g ixS := fun N lev sc W X G => by
  refine ⟨_, ix_str, fun F m ih H σ Q x y d1 d2 hr rx ry h => ?_⟩
  unfold ixS at h
  split at h
  · cases rx
    cases ry
    split at h
    · rename_i e
      split at h
      · rename_i z
        exact ⟨_, _, _, rfl, rfl, by rw [SL_eq]; exact z, e, fin_pu hr h rfl⟩
      · exact h.elim
    · exact h.elim
  · exact h.elim
theorem ix_dict {X : Cx} (hu : X.A.units + 1 < cLine) : IxR X (fun x y H Q => ∃ a v, x = .ref a ∧ DGet H a y (some v) ∧ Q v H) := by
  intro value slice pins s σ H x y v u Q I rx ry h hs
  obtain ⟨a, w, rfl, dg, q⟩ := h
  cases rx
  exact tail_any (ops := [.ref a, u]) (dict_typeIs I dg) PySem.F.slot_dict_getitem.lookup (d_getItem hu I dg ry fun w' s3 I3 rw' => ⟨w, H, I3, rw', q⟩) hs
theorem ixK_ok : IxD g ixK := fun N lev sc W X G => by
  refine ⟨_, ix_dict (hu_of G.room), fun F m ih H σ Q x y d1 d2 hr rx ry h => ?_⟩
  unfold ixK at h
  split at h
  · rename_i d e
    obtain ⟨a, r', rfl, dg, o⟩ := dlook_ok hr e rx ry
    cases r' with
    | none => exact o.elim
    | some v => exact ⟨a, v, rfl, dg, h m H v (Post.refl hr) o⟩
  · exact h.elim
def ixD : D → D → IH → R (D × IH) := fun o k ih => match o with
  | .pu (.lst xs) => ixL (.pu (.lst xs)) k ih
  | .pu (.tup xs) => ixT (.pu (.tup xs)) k ih
  | .pu (.str xs) => ixS (.pu (.str xs)) k ih
  | .ref n => (match ih[n]? with
    | some (.lst _) => ixL (.ref n) k ih
    | _ => ixK (.ref n) k ih)
  | o => ixK o k ih
theorem ixD_ok : IxD g ixD := by
  have h1 : IxD g (fun o k ih => match o with | .ref n => (match ih[n]? with | some (.lst _) => ixL (.ref n) k ih | _ => ixK (.ref n) k ih) | .pu (.lst xs) => ixL (.pu (.lst xs)) k ih | o => ixK o k ih) := IxD.or ixL_ok ixK_ok fun a b ih => by
    split
    · split
      · exact .inl rfl
      · exact .inr rfl
    · exact .inl rfl
    · exact .inr rfl
  have h2 : IxD g (fun o k ih => match o with | .pu (.tup xs) => ixT (.pu (.tup xs)) k ih | o => ixS o k ih) := IxD.or ixT_ok ixS_ok fun a b ih => by
    split
    · exact .inl rfl
    · exact .inr rfl
  refine IxD.or h1 h2 fun a b ih => ?_
  unfold ixD
  split
  · exact .inl rfl
  · exact .inr rfl
  · exact .inr rfl
  · exact .inl rfl
  · rename_i n1 n2 n3 n4
    left
    split
    · exact absurd rfl (n4 _)
    · exact absurd rfl (n1 _)
    · rfl

/-! ### a[lo:hi] -/
/-- a part of a slice -/
def dPart (f : Option (Ev → IH → R (D × IH))) : Ev → IH → R (Option Int × IH) := fun env ih => match f with
  | none => .ok (none, ih)
  | some f => (f env ih).bind fun r => match r.1 with
    | .pu (.int i) => .ok (some i, r.2)
    | _ => .stuck
def cutP {α : Type} (xs : List α) (lo hi : Option Int) : List α := (xs.drop (HT.sIx xs.length 0 lo)).take (HT.sIx xs.length xs.length hi - HT.sIx xs.length 0 lo)
theorem RPs.cut {H : Hp} {B : Addr → Prop} {ps : List P} {vs : List V} (lo hi : Option Int) (r : RPs H B ps vs) : RPs H B (cutP ps lo hi) (cutV vs lo hi) := by
  unfold cutP cutV
  rw [r.length]
  exact (r.drop _).take _
def cutS' (s : Str) (lo hi : Option Int) : Str := cutS s lo hi
/-- what a slice of a value is -/
def slP : D → Option Int → Option Int → IH → R (D × IH)
  | .pu (.lst xs), lo, hi, ih => .ok (.pu (.lst (cutP xs lo hi)), ih)
  | .pu (.tup xs), lo, hi, ih => .ok (.pu (.tup (cutP xs lo hi)), ih)
  | .pu (.str s), lo, hi, ih => if s.length ≤ SL then .ok (.pu (.str (cutS s lo hi)), ih) else .stuck
  | .scr ns, lo, hi, ih => .ok (.pu (.lst ((cutP ns lo hi).map .int)), ih)
  | _, _, _, _ => .stuck
def dSl (f : Ev → IH → R (D × IH)) (lo hi : Option (Ev → IH → R (D × IH))) : Ev → IH → R (D × IH) := fun env ih => (f env ih).bind fun r => (dPart lo env r.2).bind fun l => (dPart hi env l.2).bind fun u => slP r.1 l.1 u.1 u.2
theorem RPs.ints {H : Hp} {B : Addr → Prop} : ∀ ns : List Int, RPs H B (ns.map .int) (ns.map V.int)
  | [] => rfl
  | n :: ns => ⟨_, _, rfl, rfl, RPs.ints ns⟩
theorem cut_map {α β : Type} (f : α → β) (xs : List α) (lo hi : Option Int) : cutP (xs.map f) lo hi = (cutP xs lo hi).map f := by
  unfold cutP
  rw [List.length_map, List.map_take, List.map_drop]
theorem cutP_all {α : Type} (xs : List α) (lo hi : Option Int) (h : HT.sIx xs.length 0 lo = 0 ∧ HT.sIx xs.length xs.length hi = xs.length) : cutP xs lo hi = xs := by
  unfold cutP
  rw [h.1, h.2]
  simp
def SO (g : GI) (N : List Str) (lev : Nat) (sc : Scope) (f : Option (Ev → IH → R (D × IH))) (e : Option Expr) : Prop := match f, e with
  | none, none => True
  | some f, some e => SE g N lev sc f e
  | _, _ => False
/-- the reading of a part -/
def tO (g : GI) (W : WX) (f : Option (Ev → IH → R (D × IH))) : TO := match f with
  | none => tNoPart
  | some f => tPart (tD g W f)
theorem po_of {f : Option (Ev → IH → R (D × IH))} {e : Option Expr} {X : Cx} (G : Gd g N lev sc W X) (h : SO g N lev sc f e) : PO X e (tO g W f) := by
  cases f with
  | none => cases e with
    | none => exact po_none
    | some _ => exact h.elim
  | some f => cases e with
    | none => exact h.elim
    | some e => exact po_some (h W X G)
theorem tO_bind {f : Option (Ev → IH → R (D × IH))} {k : Option Int → IH → R (D × IH)} {Q : VK} {T : Option Int → Hp → Prop} {F : Addr → Prop} {m : List Addr} {ih : IH} {H : Hp} {σ : L2.St} {env : Ev} (hr : HR g.K F m ih H) (er : EvR g.K H (Bd F m ih) m env σ)
    (h : Fin g W F m ih H σ Q ((dPart f env ih).bind fun r => k r.1 r.2)) (hT : ∀ m1 H1 o ih1, HR g.K F m1 ih1 H1 → Post g.K F m ih H m1 ih1 H1 → Fin g W F m1 ih1 H1 σ Q (k o ih1) → T o H1) : tO g W f σ H T := by
  cases f with
  | none => exact hT m H none ih hr (Post.refl hr) h
  | some f =>
    have h : Fin g W F m ih H σ Q ((f env ih).bind fun r => (match r.1 with | .pu (.int i) => (.ok (some i, r.2) : R (Option Int × IH)) | _ => .stuck).bind fun r => k r.1 r.2) := by
      have e : dPart (some f) env ih = (f env ih).bind fun r => match r.1 with | .pu (.int i) => (.ok (some i, r.2) : R (Option Int × IH)) | _ => .stuck := rfl
      rw [e] at h
      cases e1 : f env ih with
      | ok r => rw [e1] at h; exact h
      | exc _ _ _ => rw [e1] at h; exact h
      | stuck => rw [e1] at h; exact h
    refine tD_bind (k := fun d ih1 => (match d with | .pu (.int i) => (.ok (some i, ih1) : R (Option Int × IH)) | _ => .stuck).bind fun r => k r.1 r.2) hr er h fun m1 H1 x d ih1 hr1 p1 rx q1 => ?_
    split at q1
    · cases rx
      exact ⟨_, rfl, hT m1 H1 _ ih1 hr1 p1 q1⟩
    · exact q1.elim
theorem se_slice {e : Expr} {lo hi : Option Expr} {p2 pos : Pos} {f : Ev → IH → R (D × IH)} {fl fh : Option (Ev → IH → R (D × IH))} (he : SE g N lev sc f e) (hl : SO g N lev sc fl lo) (hh : SO g N lev sc fh hi) : SE g N lev sc (dSl f fl fh) (.Subscript e (.Slice lo hi none p2) pos) := fun W X G => by
  refine PE.con (pe_slice (sl_list.or (sl_tupA.or sl_str)) (he W X G) (po_of G hl) (po_of G hh)) fun σ H Q q => ?_
  obtain ⟨F, m, ih, env, hr, er, q⟩ := q
  refine tD_bind (k := fun d ih1 => (dPart fl env ih1).bind fun l => (dPart fh env l.2).bind fun u => slP d l.1 u.1 u.2) hr er q fun m1 H1 x d ih1 hr1 p1 rx q1 => ?_
  refine tO_bind (k := fun l ih2 => (dPart fh env ih2).bind fun u => slP d l u.1 u.2) hr1 (er.post hr p1) q1 fun m2 H2 l ih2 hr2 p2' q2 => ?_
  refine tO_bind (k := fun u ih3 => slP d l u ih3) hr2 ((er.post hr p1).post hr1 p2') q2 fun m3 H3 u ih3 hr3 p3 q3 => ?_
  have rx3 := p3.rd hr2 (p2'.rd hr1 rx)
  unfold slP at q3
  split at q3
  · obtain ⟨a, vs, rfl, h1, _, h2⟩ := rx3
    exact .inl ⟨a, vs, rfl, .of h1, fun p hp => fin_lst hr3 q3 (h2.cut l u) p hp⟩
  · obtain ⟨a, vs, rfl, h1, h2⟩ := rx3
    refine .inr (.inl ⟨a, vs, rfl, .of h1, fun z => ?_, fun _ p hp => fin_tup hr3 q3 (h2.cut l u) p hp⟩)
    rw [h2.length] at z
    rw [cutP_all _ _ _ z] at q3
    exact fin_pu hr3 q3 ⟨a, vs, rfl, h1, h2⟩
  · split at q3
    · cases rx3
      exact .inr (.inr ⟨_, rfl, by rw [SL_eq]; assumption, fin_pu hr3 q3 rfl⟩)
    · exact q3.elim
  · obtain ⟨a, rfl, h1⟩ := rx3
    refine .inl ⟨a, _, rfl, by rw [G.K]; exact h1.sq, fun p hp => ?_⟩
    rw [show cutV _ _ _ = cutP (List.map V.int _) l u from rfl, cut_map]
    exact fin_lst hr3 q3 (RPs.ints _) p hp
  · exact q3.elim
/-- a[::-1] -/
def dRev (f : Ev → IH → R (D × IH)) : Ev → IH → R (D × IH) := fun env ih => (f env ih).bind fun r => match r.1 with
  | .pu (.lst xs) => .ok (.pu (.lst xs.reverse), r.2)
  | .ref n => (match r.2[n]? with
    | some (.lst xs) => (match frzL (frz 0) r.2 xs with
      | some (ps, _) => .ok (.pu (.lst ps.reverse), r.2)
      | none => .stuck)
    | _ => .stuck)
  | _ => .stuck
theorem frz0_pure {ih ih' : IH} {d : D} {p : P} (h : frz 0 ih d = some (p, ih')) : d = .pu p ∧ ih' = ih := by
  cases d with
  | pu q => cases h; exact ⟨rfl, rfl⟩
  | ref n => cases h
  | scr n => cases h
  | ke => cases h
  | tz _ => cases h
theorem frzL0_pure {K : PySem.W.Frag} {H : Hp} {B : Addr → Prop} {m : List Addr} {ih ih' : IH} : ∀ {ds : List D} {ps : List P} {vs : List V}, frzL (frz 0) ih ds = some (ps, ih') → RDs K H B m ds vs → ih' = ih ∧ RPs H B ps vs
  | [], ps, vs, e, r => by cases e; exact ⟨rfl, r⟩
  | d :: ds, ps, vs, e, r => by
    obtain ⟨v, rr, rfl, r1, r2⟩ := r
    rw [frzL] at e
    cases e1 : frz 0 ih d with
    | none => rw [e1] at e; cases e
    | some x =>
      obtain ⟨p, ih1⟩ := x
      obtain ⟨rfl, rfl⟩ := frz0_pure e1
      rw [e1] at e
      cases e2 : frzL (frz 0) ih1 ds with
      | none => simp only [e2] at e; cases e
      | some y =>
        obtain ⟨qs, ih2⟩ := y
        simp only [e2] at e
        cases e
        obtain ⟨e3, r3⟩ := frzL0_pure e2 r2
        exact ⟨e3, v, rr, rfl, r1, r3⟩
theorem se_rev {e : Expr} {k : Nat} {p1 p2 p3 pos : Pos} {f : Ev → IH → R (D × IH)} (he : SE g N lev sc f e) : SE g N lev sc (dRev f) (.Subscript e (.Slice none none (some (.UnaryOp .USub (.Constant (.int 1) k p1) p2)) p3) pos) := fun W X G => by
  refine PE.con (pe_revL (he W X G)) fun σ H Q q => ?_
  obtain ⟨F, m, ih, env, hr, er, q⟩ := q
  refine tD_bind (k := fun d ih1 => match d with | .pu (.lst xs) => .ok (.pu (.lst xs.reverse), ih1) | .ref n => (match ih1[n]? with | some (.lst xs) => (match frzL (frz 0) ih1 xs with | some (ps, _) => .ok (.pu (.lst ps.reverse), ih1) | none => .stuck) | _ => .stuck) | _ => .stuck) hr er q fun m1 H1 x d ih1 hr1 p1 rx q1 => ?_
  split at q1
  · obtain ⟨a, vs, rfl, h1, _, h2⟩ := rx
    exact ⟨a, vs, rfl, .of h1, fun p hp => fin_lst hr1 q1 h2.reverse p hp⟩
  · obtain ⟨a, rfl, hm⟩ := rx
    split at q1
    · rename_i hc
      obtain ⟨o, ho, rc⟩ := hr1.cell _ a _ hm hc (by intro z; cases z)
      split at q1
      · rename_i e
        cases o with
        | lst vs =>
          obtain ⟨_, r3⟩ := frzL0_pure e rc
          exact ⟨a, vs, rfl, .of ho, fun p hp => fin_lst hr1 q1 r3.reverse p hp⟩
        | _ => exact rc.elim
      · exact q1.elim
    · exact q1.elim
  · exact q1.elim

/-! ### argument lists -/
def dArgs : List (Ev → IH → R (D × IH)) → Ev → IH → R (List D × IH)
  | [], _, ih => .ok ([], ih)
  | f :: fs, env, ih => (f env ih).bind fun r => (dArgs fs env r.2).bind fun rs => .ok (r.1 :: rs.1, rs.2)
def FinA (g : GI) (W : WX) (F : Addr → Prop) (m : List Addr) (ih : IH) (H : Hp) (σ : L2.St) (Q : List V → Hp → Prop) : R (List D × IH) → Prop
  | .ok r => ∀ m' H' vs, Post g.K F m ih H m' r.2 H' → RDs g.K H' (Bd F m' r.2) m' r.1 vs → Q vs H'
  | .exc c fs ih' => ∀ m' H' cls dd, Post g.K F m ih H m' ih' H' → RX g H' (Bd F m' ih') c fs cls dd → W cls dd σ H'
  | .stuck => False
def tA (g : GI) (W : WX) (fs : List (Ev → IH → R (D × IH))) : TA := fun σ H Q => ∃ F m ih env, HR g.K F m ih H ∧ EvR g.K H (Bd F m ih) m env σ ∧ FinA g W F m ih H σ Q (dArgs fs env ih)
inductive SA (g : GI) (N : List Str) (lev : Nat) (sc : Scope) : List (Ev → IH → R (D × IH)) → List Expr → Prop
  | nil : SA g N lev sc [] []
  | cons {f : Ev → IH → R (D × IH)} {fs : List (Ev → IH → R (D × IH))} {e : Expr} {es : List Expr} : SE g N lev sc f e → (∀ (e' : Expr) (p : Pos), e ≠ .Starred e' p) → SA g N lev sc fs es → SA g N lev sc (f :: fs) (e :: es)
theorem star_plain {e : Expr} {es : List Expr} {env : Env} (h : ∀ (e' : Expr) (p : Pos), e ≠ .Starred e' p) : starEach (e :: es) env = (false, eval e env) :: starEach es env := by
  cases e <;> first | rfl | exact absurd rfl (h _ _)
theorem pa_of {X : Cx} (G : Gd g N lev sc W X) : ∀ {fs : List (Ev → IH → R (D × IH))} {es : List Expr}, SA g N lev sc fs es → PA X es (tA g W fs)
  | _, _, .nil => ⟨fun pos pins s σ H Q I h => pa_nil.run pos pins s σ H Q I (by
      obtain ⟨F, m, ih, env, hr, er, h⟩ := h
      exact h m H [] (Post.refl hr) rfl)⟩
  | _, _, .cons (f := f) (fs := fs) h1 h2 h3 => ⟨fun pos pins s σ H Q I h => (pa_cons (h1 W X G) (pa_of G h3) (star_plain h2)).run pos pins s σ H Q I (by
      obtain ⟨F, m, ih, env, hr, er, h⟩ := h
      refine ⟨F, m, ih, env, hr, er, ?_⟩
      rw [dArgs] at h
      cases e : f env ih with
      | ok r =>
        rw [e] at h
        simp only [R.bind] at h
        intro m1 H1 v p1 r1
        refine ⟨F, m1, r.2, env, p1.hr, er.post hr p1, ?_⟩
        cases e2 : dArgs fs env r.2 with
        | ok rs =>
          rw [e2] at h
          intro m2 H2 vs p2 r2
          exact h m2 H2 (v :: vs) (p1.trans hr p2) ⟨v, vs, rfl, p2.rd p1.hr r1, r2⟩
        | exc c fs ih2 => rw [e2] at h; exact fun m2 H2 cls dd p2 r2 => h m2 H2 cls dd (p1.trans hr p2) r2
        | stuck => rw [e2] at h; exact h.elim
      | exc c fs ih2 => rw [e] at h; exact h
      | stuck => rw [e] at h; exact h)⟩
theorem tA_bind {fs : List (Ev → IH → R (D × IH))} {k : List D → IH → R (D × IH)} {Q : VK} {T : List V → Hp → Prop} {F : Addr → Prop} {m : List Addr} {ih : IH} {H : Hp} {σ : L2.St} {env : Ev} (hr : HR g.K F m ih H) (er : EvR g.K H (Bd F m ih) m env σ) (h : Fin g W F m ih H σ Q ((dArgs fs env ih).bind fun r => k r.1 r.2))
    (hT : ∀ m1 H1 xs ds ih1, HR g.K F m1 ih1 H1 → Post g.K F m ih H m1 ih1 H1 → RDs g.K H1 (Bd F m1 ih1) m1 ds xs → Fin g W F m1 ih1 H1 σ Q (k ds ih1) → T xs H1) : tA g W fs σ H T := by
  refine ⟨F, m, ih, env, hr, er, ?_⟩
  cases e : dArgs fs env ih with
  | ok r =>
    rw [e] at h
    intro m1 H1 v p1 r1
    exact hT m1 H1 v r.1 r.2 p1.hr p1 r1 (Fin.rebase hr p1 h)
  | exc c fs ih2 => rw [e] at h; exact h
  | stuck => rw [e] at h; exact h

/-! ### displays -/
def allPu : List D → Option (List P)
  | [] => some []
  | .pu p :: ds => (allPu ds).map (p :: ·)
  | _ :: _ => none
theorem allPu_rp {K : PySem.W.Frag} {H : Hp} {B : Addr → Prop} {m : List Addr} : ∀ {ds : List D} {ps : List P} {vs : List V}, allPu ds = some ps → RDs K H B m ds vs → RPs H B ps vs
  | [], _, _, e, r => by cases e; exact r
  | .pu p :: ds, ps, vs, e, r => by
    obtain ⟨v, rr, rfl, r1, r2⟩ := r
    rw [allPu] at e
    cases e1 : allPu ds with
    | none => rw [e1] at e; cases e
    | some qs =>
      rw [e1] at e
      cases e
      exact ⟨v, rr, rfl, r1, allPu_rp e1 r2⟩
  | .ref _ :: _, _, _, e, _ => by cases e
  | .scr _ :: _, _, _, e, _ => by cases e
  | .ke :: _, _, _, e, _ => by cases e
  | .tz _ :: _, _, _, e, _ => by cases e
def dTup (fs : List (Ev → IH → R (D × IH))) : Ev → IH → R (D × IH) := fun env ih => (dArgs fs env ih).bind fun r => match allPu r.1 with
  | some ps => if ps.length ≤ SL then .ok (.pu (.tup ps), r.2) else .stuck
  | none => .stuck
def dLst (fs : List (Ev → IH → R (D × IH))) : Ev → IH → R (D × IH) := fun env ih => (dArgs fs env ih).bind fun r => match allPu r.1 with
  | some ps => if ps.length ≤ SL then .ok (.pu (.lst ps), r.2) else .stuck
  | none => .stuck
/-- a list that will be changed: a new cell -/
def dBox (fs : List (Ev → IH → R (D × IH))) : Ev → IH → R (D × IH) := fun env ih => (dArgs fs env ih).bind fun r => if r.1.length ≤ SL then .ok (.ref r.2.length, r.2 ++ [.lst r.1]) else .stuck
theorem fin_box {F : Addr → Prop} {m : List Addr} {ih : IH} {H : Hp} {σ : L2.St} {Q : VK} {c : Cl} {o : HO} {p : Addr} (hr : HR g.K F m ih H) (h : Fin g W F m ih H σ Q (.ok (.ref ih.length, ih ++ [c]))) (rc : ContR g.K H (Bd F m ih) m c o) (hp : H p = none) : Q (.ref p) (upd H p o) := by
  refine h (m ++ [p]) _ _ (Post.alloc hr hp rc) ⟨p, rfl, ?_⟩
  rw [← hr.len]
  simp
theorem se_tup {fs : List (Ev → IH → R (D × IH))} {es : List Expr} {k : Nat} {pos : Pos} (h : SA g N lev sc fs es) : SE g N lev sc (dTup fs) (.Tuple es k pos) := fun W X G => by
  refine PE.con (pe_tup (pa_of G h)) fun σ H Q q => ?_
  obtain ⟨F, m, ih, env, hr, er, q⟩ := q
  refine tA_bind (k := fun ds ih1 => match allPu ds with | some ps => if ps.length ≤ SL then .ok (.pu (.tup ps), ih1) else .stuck | none => .stuck) hr er q fun m1 H1 xs ds ih1 hr1 p1 rx q1 => ?_
  split at q1
  · rename_i e
    split at q1
    · have r := allPu_rp e rx
      exact ⟨by rw [SL_eq, r.length]; assumption, fin_tup hr1 q1 r⟩
    · exact q1.elim
  · exact q1.elim
theorem se_lst {fs : List (Ev → IH → R (D × IH))} {es : List Expr} {pos : Pos} (h : SA g N lev sc fs es) : SE g N lev sc (dLst fs) (.List es pos) := fun W X G => by
  refine PE.con (pe_lst (pa_of G h)) fun σ H Q q => ?_
  obtain ⟨F, m, ih, env, hr, er, q⟩ := q
  refine tA_bind (k := fun ds ih1 => match allPu ds with | some ps => if ps.length ≤ SL then .ok (.pu (.lst ps), ih1) else .stuck | none => .stuck) hr er q fun m1 H1 xs ds ih1 hr1 p1 rx q1 => ?_
  split at q1
  · rename_i e
    split at q1
    · have r := allPu_rp e rx
      exact ⟨by rw [SL_eq, r.length]; assumption, fin_lst hr1 q1 r⟩
    · exact q1.elim
  · exact q1.elim
theorem se_box {fs : List (Ev → IH → R (D × IH))} {es : List Expr} {pos : Pos} (h : SA g N lev sc fs es) : SE g N lev sc (dBox fs) (.List es pos) := fun W X G => by
  refine PE.con (pe_lst (pa_of G h)) fun σ H Q q => ?_
  obtain ⟨F, m, ih, env, hr, er, q⟩ := q
  refine tA_bind (k := fun ds ih1 => if ds.length ≤ SL then .ok (.ref ih1.length, ih1 ++ [.lst ds]) else .stuck) hr er q fun m1 H1 xs ds ih1 hr1 p1 rx q1 => ?_
  split at q1
  · exact ⟨by rw [SL_eq, rx.length]; assumption, fun p hp => fin_box hr1 q1 rx hp⟩
  · exact q1.elim
end
end Dn

/-! Dn9: built-in functions by value. -/
namespace Dn
open PySem PySem.Spec PyProof.Rows L2

/-- a built-in called by value -/
def CaD (g : GI) (f : Value) (cd : List D → IH → R (D × IH)) : Prop := ∀ (N : List Str) (lev : Nat) (sc : Scope) (W : WX) (X : Cx), Gd g N lev sc W X → ∃ r, CallR X f r ∧
  ∀ F m ih H σ Q xs ds, HR g.K F m ih H → RDs g.K H (Bd F m ih) m ds xs → Fin g W F m ih H σ Q (cd ds ih) → r xs H Q
def dCall (cd : List D → IH → R (D × IH)) (fs : List (Ev → IH → R (D × IH))) : Ev → IH → R (D × IH) := fun env ih => (dArgs fs env ih).bind fun r => cd r.1 r.2
section
variable {g : GI} {N : List Str} {lev : Nat} {sc : Scope} {W : WX}
theorem SA.star {X : Cx} {fs : List (Ev → IH → R (D × IH))} {e : Expr} {es : List Expr} (h : SA g N lev sc fs (e :: es)) : starEach (e :: es) X.env = (false, eval e X.env) :: starEach es X.env := by
  cases h with
  | cons h1 h2 h3 => exact star_plain h2
theorem SA.noStar {env : Env} : ∀ {fs : List (Ev → IH → R (D × IH))} {es : List Expr}, SA g N lev sc fs es → (starEach es env).any (·.1) = false
  | _, _, .nil => rfl
  | _, _, .cons h1 h2 h3 => by
    rw [star_plain h2, List.any_cons, SA.noStar h3]
    rfl
theorem backTo_any (pos : Pos) : ∀ l : List (Bool × Sem Value), (backTo pos l).any (·.1) = l.any (·.1) := by
  intro l
  unfold backTo
  rw [List.any_map]
  rfl
theorem CaD.or {f : Value} {cd cd1 cd2 : List D → IH → R (D × IH)} (h1 : CaD g f cd1) (h2 : CaD g f cd2) (h : ∀ ds ih, cd ds ih = cd1 ds ih ∨ cd ds ih = cd2 ds ih) : CaD g f cd := fun N lev sc W X G => by
  obtain ⟨r1, a1, b1⟩ := h1 N lev sc W X G
  obtain ⟨r2, a2, b2⟩ := h2 N lev sc W X G
  refine ⟨_, a1.or a2, fun F m ih H σ Q xs ds hr rx q => ?_⟩
  rcases h ds ih with e | e
  · rw [e] at q; exact .inl (b1 F m ih H σ Q xs ds hr rx q)
  · rw [e] at q; exact .inr (b2 F m ih H σ Q xs ds hr rx q)
theorem tCB_of {X : Cx} {r : List V → Hp → VK → Prop} {cd : List D → IH → R (D × IH)} {fs : List (Ev → IH → R (D × IH))} (hr : ∀ F m ih H σ Q xs ds, HR g.K F m ih H → RDs g.K H (Bd F m ih) m ds xs → Fin g W F m ih H σ Q (cd ds ih) → r xs H Q)
    (σ : L2.St) (H : Hp) (Q : VK) (q : tD g W (dCall cd fs) σ H Q) : tCB r (tA g W fs) σ H Q := by
  obtain ⟨F, m, ih, env, hr0, er, q⟩ := q
  exact tA_bind (k := cd) hr0 er q fun m1 H1 xs ds ih1 hr1 p1 rx q1 => hr F m1 ih1 H1 σ Q xs ds hr1 rx q1
theorem se_callB {x : Str} {id : String} {e : Expr} {es : List Expr} {p pos : Pos} {cd : List D → IH → R (D × IH)} {fs : List (Ev → IH → R (D × IH))} (ho : CaD g (.builtin id) cd) (hg : sc.names.lookup x = some .globalImplicit) (hm : g.mg x = none) (hv : bootBuiltins x = some (.builtin id)) (ha : SA g N lev sc fs (e :: es))
    (hn : x ≠ "__name__") (hdb : (x == ("__debug__" : Str)) = false) : SE g N lev sc (dCall cd fs) (.Call (.Name x p) (e :: es) [] pos) := fun W X G => by
  obtain ⟨r, h1, h2⟩ := ho N lev sc W X G
  refine PE.con (pe_callB h1 (G.scp.gl hg) (by rw [G.mg]; exact hm) hv (pa_of G ha) hn hdb ha.star ?_) (tCB_of (X := X) h2)
  cases ha with
  | cons _ _ h3 => rw [backTo_any]; exact h3.noStar
theorem se_callT {x : Str} {T : String} {e : Expr} {es : List Expr} {p pos : Pos} {cd : List D → IH → R (D × IH)} {fs : List (Ev → IH → R (D × IH))} (ho : CaD g (.type T) cd) (hg : sc.names.lookup x = some .globalImplicit) (hm : g.mg x = none) (hv : bootBuiltins x = some (.type T)) (ha : SA g N lev sc fs (e :: es))
    (hn : x ≠ "__name__") (hdb : (x == ("__debug__" : Str)) = false) : SE g N lev sc (dCall cd fs) (.Call (.Name x p) (e :: es) [] pos) := fun W X G => by
  obtain ⟨r, h1, h2⟩ := ho N lev sc W X G
  refine PE.con (pe_callTy h1 (G.scp.gl hg) (by rw [G.mg]; exact hm) hv (pa_of G ha) hn hdb ha.star ?_) (tCB_of (X := X) h2)
  cases ha with
  | cons _ _ h3 => rw [backTo_any]; exact h3.noStar
theorem RDs.one {K : PySem.W.Frag} {H : Hp} {B : Addr → Prop} {m : List Addr} {d : D} {xs : List V} (h : RDs K H B m [d] xs) : ∃ x, xs = [x] ∧ RD K H B m d x := by
  obtain ⟨v, r, rfl, h1, rfl⟩ := h
  exact ⟨v, rfl, h1⟩
theorem RDs.two {K : PySem.W.Frag} {H : Hp} {B : Addr → Prop} {m : List Addr} {d e : D} {xs : List V} (h : RDs K H B m [d, e] xs) : ∃ x y, xs = [x, y] ∧ RD K H B m d x ∧ RD K H B m e y := by
  obtain ⟨v, r, rfl, h1, v2, r2, rfl, h2, rfl⟩ := h
  exact ⟨v, v2, rfl, h1, h2⟩

/-! ### len -/
def lenS : List D → IH → R (D × IH)
  | [.pu (.lst xs)], ih => .ok (.pu (.int xs.length), ih)
  | [.pu (.tup xs)], ih => .ok (.pu (.int xs.length), ih)
  | [.pu (.str s)], ih => if s.length ≤ SL then .ok (.pu (.int s.length), ih) else .stuck
  | [.ref n], ih => (match ih[n]? with
    | some (.lst xs) => .ok (.pu (.int xs.length), ih)
    | _ => .stuck)
  | _, _ => .stuck
theorem lenS_ok : CaD g (.builtin "len") lenS := fun N lev sc W X G => by
  refine ⟨_, call_len, fun F m ih H σ Q xs ds hr rx h => ?_⟩
  unfold lenS at h
  split at h
  · obtain ⟨x, rfl, r1⟩ := rx.one
    obtain ⟨a, vs, rfl, h1, _, h2⟩ := r1
    exact ⟨_, _, rfl, .inl ⟨vs, .of h1, rfl⟩, by rw [h2.length]; exact fin_pu hr h rfl⟩
  · obtain ⟨x, rfl, r1⟩ := rx.one
    obtain ⟨a, vs, rfl, h1, h2⟩ := r1
    exact ⟨_, _, rfl, .inr ⟨vs, .of h1, rfl⟩, by rw [h2.length]; exact fin_pu hr h rfl⟩
  · obtain ⟨x, rfl, r1⟩ := rx.one
    cases r1
    split at h
    · exact ⟨_, _, rfl, (show LenV X.K (.str _) H _ from ⟨by rw [SL_eq]; assumption, rfl⟩), fin_pu hr h rfl⟩
    · exact h.elim
  · obtain ⟨x, rfl, r1⟩ := rx.one
    obtain ⟨a, rfl, hm⟩ := r1
    split at h
    · rename_i hc
      obtain ⟨o, ho, rc⟩ := hr.cell _ a _ hm hc (by intro z; cases z)
      cases o with
      | lst vs => exact ⟨_, _, rfl, .inl ⟨vs, .of ho, rfl⟩, by rw [RDs.length rc]; exact fin_pu hr h rfl⟩
      | _ => exact rc.elim
    · exact h.elim
  · exact h.elim
def lenK : List D → IH → R (D × IH)
  | [.pu (.dic xs)], ih => .ok (.pu (.int xs.length), ih)
  | [.ref n], ih => (match ih[n]? with
    | some (.dic xs) => .ok (.pu (.int xs.length), ih)
    | _ => .stuck)
  | _, _ => .stuck
theorem RPk.length {H : Hp} {B : Addr → Prop} : ∀ {ps : List (Key × P)} {vs : List (Key × V)}, RPk H B ps vs → vs.length = ps.length
  | [], _, h => by rw [show _ = _ from h]; rfl
  | (_, _) :: _, _, h => by
    obtain ⟨v, r, rfl, _, h⟩ := h
    simp [RPk.length h]
theorem RDk.length {κ : Type} {K : PySem.W.Frag} {H : Hp} {B : Addr → Prop} {m : List Addr} : ∀ {ps : List (κ × D)} {vs : List (κ × V)}, RDk K H B m ps vs → vs.length = ps.length
  | [], _, h => by rw [show _ = _ from h]; rfl
  | (_, _) :: _, _, h => by
    obtain ⟨v, r, rfl, _, h⟩ := h
    simp [RDk.length h]
theorem call_lenRd {X : Cx} : CallR X (.builtin "len") (fun xs H Q => ∃ a kvs, xs = [.ref a] ∧ Rd H a (.dK kvs) ∧ Q (.int kvs.length) H) := by
  intro pins s σ H xs us Q I r h
  obtain ⟨a, kvs, rfl, e, q⟩ := h
  obtain ⟨u, rfl, ru⟩ := vals1 r
  cases ru
  exact d_len I e fun t s' I' => ⟨.int _, H, I', ⟨t, rfl⟩, q⟩
theorem lenK_ok : CaD g (.builtin "len") lenK := fun N lev sc W X G => by
  refine ⟨_, call_lenRd, fun F m ih H σ Q xs ds hr rx h => ?_⟩
  unfold lenK at h
  split at h
  · obtain ⟨x, rfl, r1⟩ := rx.one
    obtain ⟨a, od, vs, rfl, h1, h2⟩ := r1
    exact ⟨_, _, rfl, .inr ⟨od, h1⟩, by rw [h2.length]; exact fin_pu hr h rfl⟩
  · obtain ⟨x, rfl, r1⟩ := rx.one
    obtain ⟨a, rfl, hm⟩ := r1
    split at h
    · rename_i hc
      obtain ⟨o, ho, rc⟩ := hr.cell _ a _ hm hc (by intro z; cases z)
      cases o with
      | dK vs => exact ⟨_, _, rfl, .inl ho, by rw [RDk.length rc]; exact fin_pu hr h rfl⟩
      | _ => exact rc.elim
    · exact h.elim
  · exact h.elim
def lenD : List D → IH → R (D × IH)
  | [.pu (.dic xs)], ih => .ok (.pu (.int xs.length), ih)
  | [.ref n], ih => (match ih[n]? with
    | some (.dic xs) => .ok (.pu (.int xs.length), ih)
    | some (.lst xs) => .ok (.pu (.int xs.length), ih)
    | _ => .stuck)
  | ds, ih => lenS ds ih
theorem lenD_ok : CaD g (.builtin "len") lenD := CaD.or lenK_ok lenS_ok fun ds ih => by
  unfold lenD
  split
  · exact .inl rfl
  · split
    · rename_i e; left; simp only [lenK, e]
    · rename_i e; right; simp only [lenS, e]
    · rename_i n1 n2
      left
      unfold lenK
      simp only
  · exact .inr rfl

/-! ### int, tuple, list -/
def intD : List D → IH → R (D × IH)
  | [.pu (.int i)], ih => .ok (.pu (.int i), ih)
  | [.pu (.bl b)], ih => .ok (.pu (.int (if b then 1 else 0)), ih)
  | _, _ => .stuck
theorem intD_ok : CaD g (.type "int") intD := fun N lev sc W X G => by
  refine ⟨_, call_int1, fun F m ih H σ Q xs ds hr rx h => ?_⟩
  unfold intD at h
  split at h
  · obtain ⟨x, rfl, r1⟩ := rx.one
    cases r1
    exact .inl ⟨_, rfl, fin_pu hr h rfl⟩
  · obtain ⟨x, rfl, r1⟩ := rx.one
    cases r1
    exact .inr ⟨_, rfl, fin_pu hr h rfl⟩
  · exact h.elim
/-- the items of an inline list or tuple, or of a cell that holds pure data -/
def itemsD : D → IH → Option (List P)
  | .pu (.lst xs), _ => some xs
  | .pu (.tup xs), _ => some xs
  | .ref n, ih => (match ih[n]? with
    | some (.lst ds) => allPu ds
    | _ => none)
  | _, _ => none
theorem itemsD_ok {F : Addr → Prop} {m : List Addr} {ih : IH} {H : Hp} {d : D} {ps : List P} {x : V} (K : PySem.W.Frag) (hr : HR g.K F m ih H) (e : itemsD d ih = some ps) (rx : RD g.K H (Bd F m ih) m d x) : ∃ a vs, x = .ref a ∧ (H a = some (.lst vs) ∨ (H a = some (.tup vs) ∧ d = .pu (.tup ps))) ∧ RPs H (Bd F m ih) ps vs := by
  unfold itemsD at e
  split at e
  · cases e; obtain ⟨a, vs, rfl, h1, _, h2⟩ := rx; exact ⟨a, vs, rfl, .inl h1, h2⟩
  · cases e; obtain ⟨a, vs, rfl, h1, h2⟩ := rx; exact ⟨a, vs, rfl, .inr ⟨h1, rfl⟩, h2⟩
  · obtain ⟨a, rfl, hm⟩ := rx
    split at e
    · rename_i hc
      obtain ⟨o, ho, rc⟩ := hr.cell _ a _ hm hc (by intro z; cases z)
      cases o with
      | lst vs => exact ⟨a, vs, rfl, .inl ho, allPu_rp e rc⟩
      | _ => exact rc.elim
    · cases e
  · cases e
def tupleD : List D → IH → R (D × IH)
  | [d], ih => (match itemsD d ih with
    | some ps => .ok (.pu (.tup ps), ih)
    | none => .stuck)
  | _, _ => .stuck
theorem tupleD_ok : CaD g (.type "tuple") tupleD := fun N lev sc W X G => by
  refine ⟨_, call_tuple_of, fun F m ih H σ Q xs ds hr rx h => ?_⟩
  unfold tupleD at h
  split at h
  · obtain ⟨x, rfl, r1⟩ := rx.one
    split at h
    · rename_i e
      obtain ⟨a, vs, rfl, h1, h2⟩ := itemsD_ok X.K hr e r1
      rcases h1 with h1 | ⟨h1, rfl⟩
      · exact ⟨a, vs, rfl, .inl ⟨.of h1, fun l hl => fin_tup hr h h2 l hl⟩⟩
      · exact ⟨a, vs, rfl, .inr ⟨.of h1, fin_pu hr h ⟨a, vs, rfl, h1, h2⟩⟩⟩
    · exact h.elim
  · exact h.elim
def listD : List D → IH → R (D × IH)
  | [d], ih => (match itemsD d ih with
    | some ps => .ok (.pu (.lst ps), ih)
    | none => .stuck)
  | _, _ => .stuck
theorem listD_ok : CaD g (.type "list") listD := fun N lev sc W X G => by
  refine ⟨_, call_list_of, fun F m ih H σ Q xs ds hr rx h => ?_⟩
  unfold listD at h
  split at h
  · obtain ⟨x, rfl, r1⟩ := rx.one
    split at h
    · rename_i e
      obtain ⟨a, vs, rfl, h1, h2⟩ := itemsD_ok X.K hr e r1
      refine ⟨a, vs, rfl, ?_, fun l hl => fin_lst hr h h2 l hl⟩
      rcases h1 with h1 | ⟨h1, _⟩
      · exact .inl (.of h1)
      · exact .inr (.of h1)
    · exact h.elim
  · exact h.elim
/-- list(x), to be changed -/
def listB : List D → IH → R (D × IH)
  | [d], ih => (match itemsD d ih with
    | some ps => .ok (.ref ih.length, ih ++ [.lst (ps.map .pu)])
    | none => .stuck)
  | _, _ => .stuck
theorem RPs.toD {K : PySem.W.Frag} {H : Hp} {B : Addr → Prop} {m : List Addr} : ∀ {ps : List P} {vs : List V}, RPs H B ps vs → RDs K H B m (ps.map .pu) vs
  | [], _, h => h
  | _ :: _, _, h => by
    obtain ⟨v, r, rfl, h1, h2⟩ := h
    exact ⟨v, r, rfl, h1, RPs.toD h2⟩
theorem listB_ok : CaD g (.type "list") listB := fun N lev sc W X G => by
  refine ⟨_, call_list_of, fun F m ih H σ Q xs ds hr rx h => ?_⟩
  unfold listB at h
  split at h
  · obtain ⟨x, rfl, r1⟩ := rx.one
    split at h
    · rename_i e
      obtain ⟨a, vs, rfl, h1, h2⟩ := itemsD_ok X.K hr e r1
      refine ⟨a, vs, rfl, ?_, fun l hl => fin_box (o := .lst vs) hr h h2.toD hl⟩
      rcases h1 with h1 | ⟨h1, _⟩
      · exact .inl (.of h1)
      · exact .inr (.of h1)
    · exact h.elim
  · exact h.elim

/-! ### sum, all, any, max, min -/
def intsP : List P → Option (List Int)
  | [] => some []
  | .int i :: ps => (intsP ps).map (i :: ·)
  | _ :: _ => none
def blsP : List P → Option (List Bool)
  | [] => some []
  | .bl i :: ps => (blsP ps).map (i :: ·)
  | _ :: _ => none
theorem intsP_rp {H : Hp} {B : Addr → Prop} : ∀ {ps : List P} {ns : List Int} {vs : List V}, intsP ps = some ns → RPs H B ps vs → vs = ns.map V.int
  | [], _, _, e, r => by cases e; exact r
  | p :: ps, _, _, e, r => by
    obtain ⟨v, rr, rfl, r1, r2⟩ := r
    cases p with
    | int i =>
      rw [intsP] at e
      obtain ⟨ms, e1, e2⟩ := Option.map_eq_some_iff.mp e
      subst e2
      cases r1
      rw [intsP_rp e1 r2]
      rfl
    | _ => cases e
theorem blsP_rp {H : Hp} {B : Addr → Prop} : ∀ {ps : List P} {ns : List Bool} {vs : List V}, blsP ps = some ns → RPs H B ps vs → vs = ns.map V.bl
  | [], _, _, e, r => by cases e; exact r
  | p :: ps, _, _, e, r => by
    obtain ⟨v, rr, rfl, r1, r2⟩ := r
    cases p with
    | bl i =>
      rw [blsP] at e
      obtain ⟨ms, e1, e2⟩ := Option.map_eq_some_iff.mp e
      subst e2
      cases r1
      rw [blsP_rp e1 r2]
      rfl
    | _ => cases e
def onL (f : List P → Option P) : List D → IH → R (D × IH)
  | [.pu (.lst ps)], ih => (match f ps with
    | some p => .ok (.pu p, ih)
    | none => .stuck)
  | _, _ => .stuck
def sumD : List D → IH → R (D × IH) := onL fun ps => (intsP ps).map fun ns => .int ns.sum
def allD : List D → IH → R (D × IH) := onL fun ps => (blsP ps).map fun bs => .bl (bs.all id)
def anyD : List D → IH → R (D × IH) := onL fun ps => (blsP ps).map fun bs => .bl (bs.any id)
theorem sumD_ok : CaD g (.builtin "sum") sumD := fun N lev sc W X G => by
  refine ⟨_, cr_sum G.calm, fun F m ih H σ Q xs ds hr rx h => ?_⟩
  unfold sumD onL at h
  split at h
  · obtain ⟨x, rfl, r1⟩ := rx.one
    obtain ⟨a, vs, rfl, h1, _, h2⟩ := r1
    split at h
    · rename_i e
      obtain ⟨ns, e1, e2⟩ := Option.map_eq_some_iff.mp e
      subst e2
      have := intsP_rp e1 h2
      subst this
      exact ⟨a, ns, rfl, .of h1, fin_pu hr h rfl⟩
    · exact h.elim
  · exact h.elim
theorem allD_ok : CaD g (.builtin "all") allD := fun N lev sc W X G => by
  refine ⟨_, cr_all G.calm, fun F m ih H σ Q xs ds hr rx h => ?_⟩
  unfold allD onL at h
  split at h
  · obtain ⟨x, rfl, r1⟩ := rx.one
    obtain ⟨a, vs, rfl, h1, _, h2⟩ := r1
    split at h
    · rename_i e
      obtain ⟨ns, e1, e2⟩ := Option.map_eq_some_iff.mp e
      subst e2
      have := blsP_rp e1 h2
      subst this
      exact ⟨a, ns, rfl, .of h1, fin_pu hr h rfl⟩
    · exact h.elim
  · exact h.elim
theorem anyD_ok : CaD g (.builtin "any") anyD := fun N lev sc W X G => by
  refine ⟨_, cr_any G.calm, fun F m ih H σ Q xs ds hr rx h => ?_⟩
  unfold anyD onL at h
  split at h
  · obtain ⟨x, rfl, r1⟩ := rx.one
    obtain ⟨a, vs, rfl, h1, _, h2⟩ := r1
    split at h
    · rename_i e
      obtain ⟨ns, e1, e2⟩ := Option.map_eq_some_iff.mp e
      subst e2
      have := blsP_rp e1 h2
      subst this
      exact ⟨a, ns, rfl, .of h1, fin_pu hr h rfl⟩
    · exact h.elim
  · exact h.elim
def mm2 (f : Int → Int → Int) : List D → IH → R (D × IH)
  | [.pu (.int i), .pu (.int j)], ih => .ok (.pu (.int (f i j)), ih)
  | _, _ => .stuck
def max2 : List D → IH → R (D × IH) := mm2 fun i j => if j > i then j else i
def min2 : List D → IH → R (D × IH) := mm2 fun i j => if j < i then j else i
theorem max2_ok : CaD g (.builtin "max") max2 := fun N lev sc W X G => by
  refine ⟨_, call_max2 G.calm, fun F m ih H σ Q xs ds hr rx h => ?_⟩
  unfold max2 mm2 at h
  split at h
  · obtain ⟨x, y, rfl, r1, r2⟩ := rx.two
    cases r1
    cases r2
    exact ⟨_, _, rfl, fin_pu hr h rfl⟩
  · exact h.elim
theorem min2_ok : CaD g (.builtin "min") min2 := fun N lev sc W X G => by
  refine ⟨_, call_min2 G.calm, fun F m ih H σ Q xs ds hr rx h => ?_⟩
  unfold min2 mm2 at h
  split at h
  · obtain ⟨x, y, rfl, r1, r2⟩ := rx.two
    cases r1
    cases r2
    exact ⟨_, _, rfl, fin_pu hr h rfl⟩
  · exact h.elim

/-! ### repr, str(int) -/
def repD : List D → IH → R (D × IH)
  | [.pu p], ih => if shp p && ((pd p).showable && decide ((pd p).shown.length ≤ SL)) then .ok (.pu (.str (pd p).shown), ih) else .stuck
  | _, _ => .stuck
theorem cr_repr {X : Cx} (hg : X.A.guards = some []) (hu : X.A.units + 65 < cLine) : CallR X (.builtin "repr") (fun xs H Q => ∃ x d, xs = [x] ∧ Dp X.K H x d ∧ SeqAt.shaped d = true ∧ d.showable = true ∧ d.shown.length ≤ sizeLine ∧ Q (.str d.shown) H) := by
  intro pins s σ H xs us Q I r h
  obtain ⟨x, d, rfl, hd, sd, sh, sz, q⟩ := h
  obtain ⟨u, rfl, ru⟩ := vals1 r
  obtain ⟨as, rd⟩ := Dp.reads I d x u hd ru
  have dep := SeqAt.depth_of_shaped sd
  have nd := PyData.hasDict_of_canLay d (SeqAt.canLay_of_shaped sd)
  cases d with
  | none => cases hd; cases ru; exact PySem.P.repr_of_none ⟨.str _, H, I.tok _, ⟨_, rfl⟩, q⟩
  | bool b => cases hd; cases ru; exact PySem.P.repr_of_bool ⟨.str _, H, I.tok _, ⟨_, rfl⟩, q⟩
  | int i => cases hd; obtain ⟨t, rfl⟩ := ru; exact PySem.P.repr_of_int (of_decide_eq_true sh) ⟨.str _, H, I.tok _, ⟨_, rfl⟩, q⟩
  | str y => cases hd; obtain ⟨t, rfl⟩ := ru; exact PySem.P.repr_of_str ⟨.str _, H, I.tok _, ⟨_, rfl⟩, q⟩ sz
  | dict _ => cases hd
  | list ds =>
    cases hd
    cases ru
    exact repr_of_reads' (h₀ := s.heap) rd sh (fun z => by rw [nd] at z; cases z) hg (by omega) (fun b o e => e) (fun h' u tk hk => ⟨.str _, H, I.kept hk, ⟨u, rfl⟩, q⟩) sz
  | tuple ds =>
    cases hd
    cases ru
    exact repr_of_reads' (h₀ := s.heap) rd sh (fun z => by rw [nd] at z; cases z) hg (by omega) (fun b o e => e) (fun h' u tk hk => ⟨.str _, H, I.kept hk, ⟨u, rfl⟩, q⟩) sz
theorem repD_ok : CaD g (.builtin "repr") repD := fun N lev sc W X G => by
  refine ⟨_, cr_repr G.gd (by have := G.room.un; omega), fun F m ih H σ Q xs ds hr rx h => ?_⟩
  unfold repD at h
  split at h
  · obtain ⟨x, rfl, r1⟩ := rx.one
    split at h
    · rename_i z
      obtain ⟨z1, z⟩ := Bool.and_eq_true_iff.mp z
      obtain ⟨z2, z3⟩ := Bool.and_eq_true_iff.mp z
      exact ⟨x, _, rfl, dp_of _ _ r1 (SeqAt.canLay_of_shaped z1), z1, z2, by rw [SL_eq]; exact of_decide_eq_true z3, fin_pu hr h rfl⟩
    · exact h.elim
  · exact h.elim
def strI : List D → IH → R (D × IH)
  | [.pu (.int i)], ih => if i.natAbs.log2 < 1920 then .ok (.pu (.str (toString i)), ih) else .stuck
  | _, _ => .stuck
theorem strI_ok : CaD g (.type "str") strI := fun N lev sc W X G => by
  refine ⟨_, call_str_int, fun F m ih H σ Q xs ds hr rx h => ?_⟩
  unfold strI at h
  split at h
  · obtain ⟨x, rfl, r1⟩ := rx.one
    cases r1
    split at h
    · exact ⟨_, rfl, by assumption, fin_pu hr h rfl⟩
    · exact h.elim
  · exact h.elim

/-! ### isinstance(x, T), T a built-in type's name -/
def tyP : P → String
  | .non => "NoneType"
  | .bl _ => "bool"
  | .int _ => "int"
  | .str _ => "str"
  | .tup _ => "tuple"
  | .lst _ => "list"
  | .dic _ => "dict"
  | .dit _ => "dict"
def tyNames : List String := ["NoneType", "bool", "int", "str", "tuple", "list"]
def isiB (a b : String) : Bool := (a == b) || (a == "bool" && b == "int")
theorem kit_all : ∀ a ∈ tyNames, ∀ b ∈ ["int", "bool", "str", "tuple", "list"], kitB a b = some (isiB a b) := by decide +kernel
theorem tyP_ok {H : Hp} {B : Addr → Prop} {K : PySem.W.Frag} {p : P} {v : V} (h : tyP p ∈ tyNames) (r : RP H B p v) : TyX K H v (.type (tyP p)) := by
  cases p with
  | non => cases r; exact .base .non
  | bl b => cases r; exact .base (.bl b)
  | int b => cases r; exact .base (.int b)
  | str b => cases r; exact .base (.str b)
  | tup _ => obtain ⟨a, vs, rfl, h1, _⟩ := r; exact .base (.tup h1)
  | lst _ => obtain ⟨a, vs, rfl, h1, _⟩ := r; exact .base (.lst h1)
  | dic _ => exact absurd (show "dict" ∈ tyNames from h) (by decide)
  | dit _ => exact absurd (show "dict" ∈ tyNames from h) (by decide)
/-- isinstance(x, T) -/
def dIsi (T : String) (f : Ev → IH → R (D × IH)) : Ev → IH → R (D × IH) := fun env ih => (f env ih).bind fun r => match r.1 with
  | .pu p => if tyNames.contains (tyP p) then .ok (.pu (.bl (isiB (tyP p) T)), r.2) else .stuck
  | _ => .stuck
theorem se_isi {T : Str} {t : String} {e : Expr} {p1 p2 pos : Pos} {f : Ev → IH → R (D × IH)} (hg : sc.names.lookup ("isinstance" : Str) = some .globalImplicit) (hm : g.mg "isinstance" = none) (hgT : sc.names.lookup T = some .globalImplicit) (hmT : g.mg T = none)
    (hT : bootBuiltins T = some (.type t)) (ht : t ∈ ["int", "bool", "str", "tuple", "list"]) (hn : T ≠ "__name__") (hd : (T == ("__debug__" : Str)) = false) (he : SE g N lev sc f e) (hst : ∀ (e' : Expr) (p : Pos), e ≠ .Starred e' p) :
    SE g N lev sc (dIsi t f) (.Call (.Name "isinstance" p1) [e, .Name T p2] [] pos) := fun W X G => by
  have pa : PA X [e, .Name T p2] (tCons (tD g W f) (tCons (tC (.ty t)) tNil)) := pa_cons (he W X G) (pa_cons (pe_bltn (v := .ty t) (G.scp.gl hgT) (by rw [G.mg]; exact hmT) hT rfl hn hd) pa_nil) (star_plain hst)
  refine PE.con (pe_callB call_isi (G.scp.gl hg) (by rw [G.mg]; exact hm) (by decide +kernel) pa (by decide) (by decide) (star_plain hst) rfl) fun σ H Q q => ?_
  obtain ⟨F, m, ih, env, hr, er, q⟩ := q
  refine tD_bind (k := fun d ih1 => match d with | .pu p => if tyNames.contains (tyP p) then .ok (.pu (.bl (isiB (tyP p) t)), ih1) else .stuck | _ => .stuck) hr er q fun m1 H1 x d ih1 hr1 p1 rx q1 => ?_
  split at q1
  · rename_i p
    split at q1
    · rename_i z
      have z := List.contains_iff_mem.mp z
      exact ⟨x, .ty t, .type (tyP p), .type t, _, rfl, .ty t, tyP_ok z rx, kit_ty (kit_all _ z _ ht), fin_pu hr1 q1 rfl⟩
    · exact q1.elim
  · exact q1.elim
end
end Dn

/-! Dn10: sorted, dict of pairs, methods of lists. -/
namespace Dn
open PySem PySem.Spec PyProof.Rows L2

/-! ### sorting -/
def insP {α : Type} (le : α → α → Bool) (x : α) : List α → List α
  | [] => [x]
  | y :: ys => if le x y then x :: y :: ys else y :: insP le x ys
def isort {α : Type} (le : α → α → Bool) : List α → List α
  | [] => []
  | x :: xs => insP le x (isort le xs)
section
variable {α : Type} {le : α → α → Bool}
theorem ins_perm (x : α) : ∀ ys : List α, (insP le x ys).Perm (x :: ys)
  | [] => List.Perm.refl _
  | y :: ys => by
    unfold insP
    split
    · exact List.Perm.refl _
    · exact ((ins_perm x ys).cons y).trans (List.Perm.swap x y ys)
theorem isort_perm : ∀ xs : List α, (isort le xs).Perm xs
  | [] => List.Perm.refl _
  | x :: xs => (ins_perm x _).trans ((isort_perm xs).cons x)
theorem ins_sorted (h : PySem.W.TotalLe le) (x : α) : ∀ ys : List α, ys.Pairwise (fun a b => le a b = true) → (insP le x ys).Pairwise (fun a b => le a b = true)
  | [], _ => by unfold insP; exact List.pairwise_singleton _ _
  | y :: ys, p => by
    unfold insP
    obtain ⟨p1, p2⟩ := List.pairwise_cons.mp p
    split
    · rename_i z
      refine List.pairwise_cons.mpr ⟨fun b hb => ?_, p⟩
      rcases List.mem_cons.mp hb with e | hb
      · rw [e]; exact z
      · exact h.trans _ _ _ z (p1 b hb)
    · rename_i z
      refine List.pairwise_cons.mpr ⟨fun b hb => ?_, ins_sorted h x ys p2⟩
      rcases List.mem_cons.mp ((ins_perm x ys).mem_iff.mp hb) with e | hb
      · rw [e]
        exact (h.total y x).resolve_right z
      · exact p1 b hb
theorem isort_sorted (h : PySem.W.TotalLe le) : ∀ xs : List α, (isort le xs).Pairwise (fun a b => le a b = true)
  | [] => List.Pairwise.nil
  | x :: xs => ins_sorted h x _ (isort_sorted h xs)
theorem ins_filter (h : PySem.W.TotalLe le) (x c : α) : ∀ ys : List α, (insP le x ys).filter (PySem.W.sameRank le c) = (x :: ys).filter (PySem.W.sameRank le c)
  | [] => rfl
  | y :: ys => by
    unfold insP
    split
    · rfl
    · rename_i z
      rw [List.filter_cons, ins_filter h x c ys, List.filter_cons, List.filter_cons, List.filter_cons]
      by_cases hx : PySem.W.sameRank le c x = true
      · by_cases hy : PySem.W.sameRank le c y = true
        · exfalso
          unfold PySem.W.sameRank at hx hy
          rw [Bool.and_eq_true] at hx hy
          exact z (h.trans _ _ _ hx.2 hy.1)
        · simp only [hx, hy, if_true, if_false, Bool.false_eq_true, ite_true, ite_false]
      · rw [if_neg hx, if_neg hx]
theorem isort_filter (h : PySem.W.TotalLe le) (c : α) : ∀ xs : List α, (isort le xs).filter (PySem.W.sameRank le c) = xs.filter (PySem.W.sameRank le c)
  | [] => rfl
  | x :: xs => by
    show (insP le x (isort le xs)).filter _ = _
    rw [ins_filter h, List.filter_cons, List.filter_cons, isort_filter h c xs]
theorem isort_merge (h : PySem.W.TotalLe le) (xs : List α) : isort le xs = xs.mergeSort le := PySem.W.sort_unique h (isort_sorted h xs) fun c => isort_filter h c xs
theorem isort_map {β : Type} {s : β → β → Bool} (f : α → β) (h : ∀ a b, le a b = s (f a) (f b)) : ∀ xs : List α, (isort le xs).map f = isort s (xs.map f) := by
  have hi : ∀ (x : α) (ys : List α), (insP le x ys).map f = insP s (f x) (ys.map f) := fun x ys => by
    induction ys with
    | nil => rfl
    | cons y ys ih =>
      rw [List.map_cons]
      unfold insP
      rw [h]
      split
      · rfl
      · rw [List.map_cons, ih]
  intro xs
  induction xs with
  | nil => rfl
  | cons x xs ih =>
    show (insP le x (isort le xs)).map f = insP s (f x) (isort s (xs.map f))
    rw [hi, ih]
end
/-- a <= b of data -/
def leP (a b : P) : Bool := !PySem.W.dataLt (pd b) (pd a)
theorem leP_total : PySem.W.TotalLe leP := PySem.W.sortLe_total (PyProof.Rows.listOrd PyProof.Rows.itemOrd) false fun p : P => PySem.W.keyToks (pd p)
def isTupCons : PyData → Bool
  | .tuple (_ :: _) => true
  | _ => false
def isSortAtom : PyData → Bool
  | .none => false
  | .tuple _ => false
  | _ => true
/-- data that can be sorted -/
def canSort (ps : List P) : Bool := (ps.all fun p => ps.all fun q => PySem.W.alike (pd p) (pd q)) && ((ps.all fun p => isTupCons (pd p)) || ps.all fun p => isSortAtom (pd p)) && ps.all shp
def srtD : List D → IH → R (D × IH)
  | [d], ih => (match d with
    | .pu (.tup _) => .stuck
    | _ => match itemsD d ih with
      | some ps => if canSort ps then .ok (.pu (.lst (isort leP ps)), ih) else .stuck
      | none => .stuck)
  | _, _ => .stuck
section
variable {g : GI}
theorem zip_rps {H : Hp} {B : Addr → Prop} : ∀ {ps : List P} {vs : List V}, RPs H B ps vs → ∃ l : List (V × P), l.map (·.1) = vs ∧ l.map (·.2) = ps ∧ ∀ q ∈ l, RP H B q.2 q.1
  | [], _, h => ⟨[], by rw [show _ = [] from h]; rfl, rfl, fun q z => by cases z⟩
  | p :: ps, _, h => by
    obtain ⟨v, r, rfl, h1, h2⟩ := h
    obtain ⟨l, e1, e2, e3⟩ := zip_rps h2
    refine ⟨(v, p) :: l, by simp [e1], by simp [e2], fun q hq => ?_⟩
    rcases List.mem_cons.mp hq with e | hq
    · rw [e]; exact h1
    · exact e3 q hq
theorem rps_of {H : Hp} {B : Addr → Prop} : ∀ {l : List (V × P)}, (∀ q ∈ l, RP H B q.2 q.1) → RPs H B (l.map (·.2)) (l.map (·.1))
  | [], _ => rfl
  | q :: l, h => ⟨q.1, _, rfl, h q List.mem_cons_self, rps_of fun x hx => h x (List.mem_cons_of_mem _ hx)⟩
theorem each_vals : ∀ {l : List (V × P)} {us : List Value}, Vals (l.map (·.1)) us → PySem.W.EachIs (fun u (q : V × P) => RelV q.1 u) us l
  | [], _, h => by cases h; exact .nil
  | q :: l, _, h => by
    cases h with
    | cons r t => exact .cons r (each_vals t)
theorem vals_each : ∀ {l : List (V × P)} {us : List Value}, PySem.W.EachIs (fun u (q : V × P) => RelV q.1 u) us l → Vals (l.map (·.1)) us
  | [], _, h => by cases h; exact .nil
  | q :: l, _, h => by
    cases h with
    | cons r t => exact .cons r (vals_each t)
theorem each_reads {X : Cx} {pins : List (Addr × Obj)} {σ : L2.St} {H : Hp} {s : Shared} (I : Inv X pins σ H s) : ∀ (l : List (V × P)) (its : List Value), (∀ q ∈ l, Dp X.K H q.1 (pd q.2)) → PySem.W.EachIs (fun u (q : V × P) => RelV q.1 u) its l → PySem.W.EachIs (fun v (b : V × P) => ∃ as, Reads s.heap v (pd b.2) as) its l
  | [], _, _, h => by cases h; exact .nil
  | q :: l, _, hd, h => by
    cases h with
    | cons r t => exact .cons (Dp.reads I _ _ _ (hd q List.mem_cons_self) r) (each_reads I l _ (fun q hq => hd q (List.mem_cons_of_mem _ hq)) t)
def rSortD (K : PySem.W.Frag) : List V → Hp → VK → Prop := fun vs H Q => ∃ (a : Addr) (l : List (V × P)), vs = [V.ref a] ∧ SqL K H a (l.map (·.1)) ∧ (∀ q ∈ l, Dp K H q.1 (pd q.2)) ∧ canSort (l.map (·.2)) = true ∧
  ∀ p, H p = none → Q (.ref p) (upd H p (.lst ((isort (fun a b => leP a.2 b.2) l).map (·.1))))
theorem cr_sortD {X : Cx} (hu : X.A.units + 100 < cLine) : CallR X (.builtin "sorted") (rSortD X.K) := by
  intro pins s σ H vs us Q I r h
  obtain ⟨a, l, rfl, hs, hd, hc, q⟩ := h
  obtain ⟨its, rv, hl, hz⟩ := I.list hs
  rw [Vals.ref1 r]
  unfold canSort at hc
  obtain ⟨hc, h3⟩ := Bool.and_eq_true_iff.mp hc
  obtain ⟨h1, h2⟩ := Bool.and_eq_true_iff.mp hc
  have er : PySem.W.EachIs (fun v (b : V × P) => ∃ as, Reads s.heap v (pd b.2) as) its l := each_reads I l its hd (each_vals rv)
  refine PySem.W.sorted_data (R := fun u (q : V × P) => RelV q.1 u) (bs := l) (enc := fun b => pd b.2) hl.isList (each_vals rv) er (fun d hd d' hd' => ?_) ?_ (by rw [List.length_map] at hz; exact hz) (fun b hb => ?_) fun out ho he => ?_
  · obtain ⟨b, hb, rfl⟩ := List.mem_map.mp hd
    obtain ⟨b', hb', rfl⟩ := List.mem_map.mp hd'
    exact List.all_eq_true.mp (List.all_eq_true.mp h1 b.2 (List.mem_map_of_mem hb)) b'.2 (List.mem_map_of_mem hb')
  · rcases Bool.or_eq_true_iff.mp h2 with h2 | h2
    · left
      intro d hd
      obtain ⟨b, hb, rfl⟩ := List.mem_map.mp hd
      have z := List.all_eq_true.mp h2 b.2 (List.mem_map_of_mem hb)
      cases e : pd b.2 with
      | tuple xs =>
        cases xs with
        | nil => rw [e] at z; cases z
        | cons x r => exact ⟨x, r, rfl⟩
      | _ => rw [e] at z; cases z
    · right
      intro d hd
      obtain ⟨b, hb, rfl⟩ := List.mem_map.mp hd
      have z := List.all_eq_true.mp h2 b.2 (List.mem_map_of_mem hb)
      refine ⟨fun e => ?_, fun xs e => ?_⟩
      · rw [show pd b.2 = .none from e] at z; cases z
      · rw [show pd b.2 = .tuple xs from e] at z; cases z
  · have z := SeqAt.depth_of_shaped (List.all_eq_true.mp h3 b.2 (List.mem_map_of_mem hb))
    have : X.A.units + 2 + (pd b.2).depth < cLine := by omega
    exact this
  · obtain ⟨ep, he'⟩ := PyProof.Rows.sortedAll_at s.heap its out.toArray
    have em : l.mergeSort (PySem.W.dataLe false fun b => pd b.2) = isort (fun a b => leP a.2 b.2) l := (isort_merge (PySem.W.sortLe_total (PyProof.Rows.listOrd PyProof.Rows.itemOrd) false fun q : V × P => PySem.W.keyToks (pd q.2)) l).symm
    rw [em] at he
    have hlen : ((isort (fun a b => leP a.2 b.2) l).map (·.1)).length ≤ sizeLine := by
      rw [List.length_map, (isort_perm l).length_eq]
      rw [List.length_map] at hz
      exact hz
    exact ⟨.ref _, upd H (s.heap.objs.size + 1) (.lst _), I.laid (t' := s.toks) (fun _ _ => PyProof.Rows.sortedAll_old) (Nat.le_succ _) ⟨hlen, out, ep, vals_each he, by simpa using he'⟩, rfl, q _ (I.hok.fresh (Nat.le_succ _))⟩
theorem srtD_ok : CaD g (.builtin "sorted") srtD := fun N lev sc W X G => by
  refine ⟨_, cr_sortD (by have := G.room.un; omega), fun F m ih H σ Q xs ds hr rx h => ?_⟩
  unfold srtD at h
  split at h
  · obtain ⟨x, rfl, r1⟩ := rx.one
    split at h
    · exact h.elim
    · rename_i nt
      split at h
      · rename_i e
        split at h
        · rename_i c
          obtain ⟨a, vs, rfl, h1, h2⟩ := itemsD_ok X.K hr e r1
          rcases h1 with h1 | ⟨_, ed⟩
          · obtain ⟨l, e1, e2, e3⟩ := zip_rps h2
            have cs : canSort (l.map (·.2)) = true := by rw [e2]; exact c
            refine ⟨a, l, rfl, by rw [e1]; exact .of h1, fun q hq => ?_, cs, fun p hp => ?_⟩
            · have z := List.all_eq_true.mp (Bool.and_eq_true_iff.mp cs).2 q.2 (List.mem_map_of_mem hq)
              exact dp_of _ _ (e3 q hq) (SeqAt.canLay_of_shaped z)
            · refine fin_lst hr h ?_ p hp
              rw [← e2, ← isort_map (le := fun (a b : V × P) => leP a.2 b.2) (s := leP) (·.2) (fun _ _ => rfl)]
              exact rps_of fun q hq => e3 q ((isort_perm l).mem_iff.mp hq)
          · exact absurd ed (nt _)
        · exact h.elim
      · exact h.elim
  · exact h.elim

/-! ### dict(pairs) -/
def putP {κ α : Type} [DecidableEq κ] (kvs : List (κ × α)) (k : κ) (v : α) : List (κ × α) :=
  if (kvs.any fun kv => decide (kv.1 = k)) = true then kvs.map (fun kv => if kv.1 = k then (kv.1, v) else kv) else kvs ++ [(k, v)]
def pairsK : List P → Option (List (Key × P))
  | [] => some []
  | .tup [k, v] :: ps => (match toK k, pairsK ps with
    | some k, some r => some ((k, v) :: r)
    | _, _ => none)
  | _ :: _ => none
def mergeP {κ α : Type} [DecidableEq κ] (more kvs : List (κ × α)) : List (κ × α) := more.foldl (fun acc kv => putP acc kv.1 kv.2) kvs
theorem RPk.put {H : Hp} {B : Addr → Prop} {k : Key} {p : P} {v : V} (hp : RP H B p v) {ks : List (Key × P)} {kvs : List (Key × V)} (h : RPk H B ks kvs) : RPk H B (putP ks k p) (putK kvs k v) := by
  have ha : ∀ {ks : List (Key × P)} {kvs : List (Key × V)}, RPk H B ks kvs → (ks.any fun kv => decide (kv.1 = k)) = (kvs.any fun kv => decide (kv.1 = k)) := by
    intro ks
    induction ks with
    | nil => intro kvs h; rw [show kvs = [] from h]; rfl
    | cons x ks ih =>
      intro kvs h
      obtain ⟨kx, px⟩ := x
      obtain ⟨w, r, rfl, h1, h2⟩ := h
      rw [List.any_cons, List.any_cons, ih h2]
  have hm : ∀ {ks : List (Key × P)} {kvs : List (Key × V)}, RPk H B ks kvs → RPk H B (ks.map fun kv => if kv.1 = k then (kv.1, p) else kv) (kvs.map fun kv => if kv.1 = k then (kv.1, v) else kv) := by
    intro ks
    induction ks with
    | nil => intro kvs h; rw [show kvs = [] from h]; rfl
    | cons x ks ih =>
      intro kvs h
      obtain ⟨kx, px⟩ := x
      obtain ⟨w, r, rfl, h1, h2⟩ := h
      rw [List.map_cons, List.map_cons]
      by_cases e : kx = k
      · rw [if_pos e, if_pos e]; exact ⟨v, _, rfl, hp, ih h2⟩
      · rw [if_neg e, if_neg e]; exact ⟨w, _, rfl, h1, ih h2⟩
  have hs : ∀ {ks : List (Key × P)} {kvs : List (Key × V)}, RPk H B ks kvs → RPk H B (ks ++ [(k, p)]) (kvs ++ [(k, v)]) := by
    intro ks
    induction ks with
    | nil => intro kvs h; rw [show kvs = [] from h]; exact ⟨v, [], rfl, hp, rfl⟩
    | cons x ks ih =>
      intro kvs h
      obtain ⟨kx, px⟩ := x
      obtain ⟨w, r, rfl, h1, h2⟩ := h
      exact ⟨w, _, rfl, h1, ih h2⟩
  unfold putP putK
  rw [ha h]
  split
  · exact hm h
  · exact hs h
theorem RPk.merge {H : Hp} {B : Addr → Prop} (more : List (Key × P)) : ∀ {ks : List (Key × P)} {mv kvs : List (Key × V)}, RPk H B more mv → RPk H B ks kvs → RPk H B (mergeP more ks) (mergeK kvs mv) := by
  induction more with
  | nil => intro ks mv kvs h k; rw [show mv = [] from h]; exact k
  | cons x more ih =>
    intro ks mv kvs h k
    obtain ⟨kx, px⟩ := x
    obtain ⟨w, r, rfl, h1, h2⟩ := h
    show RPk H B (mergeP more (putP ks kx px)) (mergeK (putK kvs kx w) r)
    exact ih h2 (RPk.put h1 k)
theorem pairsK_rp {H : Hp} {B : Addr → Prop} {K : PySem.W.Frag} : ∀ {ps : List P} {ks : List (Key × P)} {vs : List V}, pairsK ps = some ks → RPs H B ps vs → ∃ (as : List Addr) (kvs : List (Key × V)), vs = as.map V.ref ∧ Paired (fun p kv => SqT K H p [kV kv.1, kv.2]) as kvs ∧ RPk H B ks kvs
  | [], _, _, e, r => by cases e; exact ⟨[], [], r, .nil, rfl⟩
  | p :: ps, ks, _, e, r => by
    obtain ⟨v, rr, rfl, r1, r2⟩ := r
    cases p with
    | tup xs =>
      match xs, e, r1 with
      | [k, q], e, r1 =>
        rw [pairsK] at e
        cases e1 : toK k with
        | none => rw [e1] at e; cases e
        | some kk =>
          cases e2 : pairsK ps with
          | none => rw [e1, e2] at e; cases e
          | some rest =>
            rw [e1, e2] at e
            cases e
            obtain ⟨a, vs, rfl, h1, v1, _, rfl, hk, v2, _, rfl, hq, rfl⟩ := r1
            obtain ⟨as, kvs, rfl, h3, h4⟩ := pairsK_rp (K := K) e2 r2
            have ek := toK_rp e1 hk
            subst ek
            exact ⟨a :: as, (kk, v2) :: kvs, rfl, .cons (.of h1) h3, v2, kvs, rfl, hq, h4⟩
      | [], e, _ => cases e
      | [_], e, _ => cases e
      | _ :: _ :: _ :: _, e, _ => cases e
    | _ => cases e
/-- dict(..) of an inline list of pairs: inline, or to be changed -/
def dictB : List D → IH → R (D × IH)
  | [.pu (.lst ps)], ih => (match pairsK ps with
    | some ks => .ok (.ref ih.length, ih ++ [.dic ((mergeP ks []).map fun kv => (kv.1, .pu kv.2))])
    | none => .stuck)
  | _, _ => .stuck
theorem RPk.toD {K : PySem.W.Frag} {H : Hp} {B : Addr → Prop} {m : List Addr} : ∀ {ps : List (Key × P)} {vs : List (Key × V)}, RPk H B ps vs → RDk K H B m (ps.map fun kv => (kv.1, D.pu kv.2)) vs
  | [], _, h => h
  | (_, _) :: _, _, h => by
    obtain ⟨v, r, rfl, h1, h2⟩ := h
    exact ⟨v, r, rfl, h1, RPk.toD h2⟩
theorem RPk.kept {ks : List (Key × P)} {kvs : List (Key × V)} {F : Addr → Prop} {m : List Addr} {ih : IH} {H : Hp} {p : Addr} {o : HO} (hr : HR g.K F m ih H) (h : H p = none) (r : RPk H (Bd F m ih) ks kvs) : RPk (upd H p o) (Bd F m ih) ks kvs := RPk.mono ((Post.fresh (o := o) hr h).kp hr) ks kvs r
theorem dictB_ok : CaD g (.type "dict") dictB := fun N lev sc W X G => by
  refine ⟨_, call_dictP G.calm, fun F m ih H σ Q xs ds hr rx h => ?_⟩
  unfold dictB at h
  split at h
  · obtain ⟨x, rfl, r1⟩ := rx.one
    obtain ⟨a, vs, rfl, h1, _, h2⟩ := r1
    split at h
    · rename_i e
      obtain ⟨as, kvs, rfl, h3, h4⟩ := pairsK_rp (K := X.K) e h2
      refine ⟨a, as, kvs, rfl, .of h1, h3, fun p hp => ?_⟩
      have r5 := RPk.merge _ h4 (show RPk H (Bd F m ih) [] [] from rfl)
      exact fin_box (o := .dK _) hr h r5.toD hp
    · exact h.elim
  · exact h.elim
end
end Dn

/-! Dn11: statements. -/
namespace Dn
open PySem PySem.Spec PyProof.Rows L2

/-- how a statement ends -/
inductive RS where
  | nx (env : Ev) (ih : IH) | rt (d : D) (ih : IH) | bk (env : Ev) (ih : IH) | ct (env : Ev) (ih : IH) | exc (c : Str) (fs : List (Str × P)) (env : Ev) (ih : IH) | stuck
/-- an expression first -/
def bindS {α : Type} (env : Ev) : R α → (α → RS) → RS
  | .ok a, f => f a
  | .exc c fs h, _ => .exc c fs env h
  | .stuck, _ => .stuck
section
variable (g : GI) (W : WX) (F : Addr → Prop) (m : List Addr) (ih : IH) (H : Hp) (D' : Ends)
def FinS : RS → Prop
  | .nx env ih' => ∀ m' H' σ', Post g.K F m ih H m' ih' H' → EvR g.K H' (Bd F m' ih') m' env σ' → D'.nx σ' H'
  | .rt d ih' => ∀ m' H' v, Post g.K F m ih H m' ih' H' → RD g.K H' (Bd F m' ih') m' d v → D'.rt v H'
  | .bk env ih' => ∀ m' H' σ', Post g.K F m ih H m' ih' H' → EvR g.K H' (Bd F m' ih') m' env σ' → D'.bk σ' H'
  | .ct env ih' => ∀ m' H' σ', Post g.K F m ih H m' ih' H' → EvR g.K H' (Bd F m' ih') m' env σ' → D'.ct σ' H'
  | .exc c fs env ih' => ∀ m' H' σ' cls dd, Post g.K F m ih H m' ih' H' → EvR g.K H' (Bd F m' ih') m' env σ' → RX g H' (Bd F m' ih') c fs cls dd → W cls dd σ' H'
  | .stuck => False
end
def tS (g : GI) (W : WX) (f : Ev → IH → RS) : TS := fun D' σ H => ∃ F m ih env, HR g.K F m ih H ∧ EvR g.K H (Bd F m ih) m env σ ∧ FinS g W F m ih H D' (f env ih)
def SS (g : GI) (N : List Str) (lev : Nat) (sc : Scope) (f : Ev → IH → RS) (st : Stmt) : Prop := ∀ W X, Gd g N lev sc W X → PS X st (tS g W f)
def SB (g : GI) (N : List Str) (lev : Nat) (sc : Scope) (f : Ev → IH → RS) (st : List Stmt) : Prop := ∀ W X, Gd g N lev sc W X → PSs X st (tS g W f)
section
variable {g : GI} {N : List Str} {lev : Nat} {sc : Scope} {W : WX} {F : Addr → Prop} {m : List Addr} {ih : IH} {H : Hp} {σ : L2.St} {env : Ev} {D' : Ends}
theorem FinS.rebase {m' : List Addr} {ih' : IH} {H' : Hp} (hr : HR g.K F m ih H) (p : Post g.K F m ih H m' ih' H') {r : RS} (h : FinS g W F m ih H D' r) : FinS g W F m' ih' H' D' r := by
  cases r with
  | nx e i => exact fun m2 H2 s2 p2 r2 => h m2 H2 s2 (p.trans hr p2) r2
  | rt e i => exact fun m2 H2 s2 p2 r2 => h m2 H2 s2 (p.trans hr p2) r2
  | bk e i => exact fun m2 H2 s2 p2 r2 => h m2 H2 s2 (p.trans hr p2) r2
  | ct e i => exact fun m2 H2 s2 p2 r2 => h m2 H2 s2 (p.trans hr p2) r2
  | exc c fs e i => exact fun m2 H2 s2 cls dd p2 r2 r3 => h m2 H2 s2 cls dd (p.trans hr p2) r2 r3
  | stuck => exact h
/-- an expression in a statement -/
theorem tD_S {f : Ev → IH → R (D × IH)} {k : D → IH → RS} {T : V → Hp → Prop} (hr : HR g.K F m ih H) (er : EvR g.K H (Bd F m ih) m env σ) (h : FinS g W F m ih H D' (bindS env (f env ih) fun r => k r.1 r.2))
    (hT : ∀ m1 H1 x d ih1, HR g.K F m1 ih1 H1 → Post g.K F m ih H m1 ih1 H1 → RD g.K H1 (Bd F m1 ih1) m1 d x → FinS g W F m1 ih1 H1 D' (k d ih1) → T x H1) : tD g W f σ H T := by
  refine ⟨F, m, ih, env, hr, er, ?_⟩
  cases e : f env ih with
  | ok r =>
    rw [e] at h
    intro m1 H1 v p1 r1
    exact hT m1 H1 v r.1 r.2 p1.hr p1 r1 (FinS.rebase hr p1 h)
  | exc c fs ih2 =>
    rw [e] at h
    exact fun m1 H1 cls dd p1 r1 => h m1 H1 σ cls dd p1 (er.post hr p1) r1
  | stuck => rw [e] at h; exact h.elim
theorem tT_S {f : Ev → IH → R (D × IH)} {k : D → IH → RS} {T : Bool → Hp → Prop} (hr : HR g.K F m ih H) (er : EvR g.K H (Bd F m ih) m env σ) (h : FinS g W F m ih H D' (bindS env (f env ih) fun r => k r.1 r.2)) (hk : ∀ d ih1, truD d ih1 = none → k d ih1 = .stuck)
    (hT : ∀ m1 H1 b d ih1, HR g.K F m1 ih1 H1 → Post g.K F m ih H m1 ih1 H1 → truD d ih1 = some b → FinS g W F m1 ih1 H1 D' (k d ih1) → T b H1) : tT g W f σ H T := by
  refine ⟨F, m, ih, env, hr, er, ?_⟩
  cases e : f env ih with
  | ok r =>
    rw [e] at h
    cases e2 : truD r.1 r.2 with
    | none =>
      have h : FinS g W F m ih H D' (k r.1 r.2) := h
      rw [hk _ _ e2] at h
      exact h.elim
    | some b => exact ⟨b, e2, fun m1 H1 p1 => hT m1 H1 b r.1 r.2 p1.hr p1 e2 (FinS.rebase hr p1 h)⟩
  | exc c fs ih2 =>
    rw [e] at h
    exact fun m1 H1 cls dd p1 r1 => h m1 H1 σ cls dd p1 (er.post hr p1) r1
  | stuck => rw [e] at h; exact h.elim

/-! ### blocks -/
def dSeq (f h : Ev → IH → RS) : Ev → IH → RS := fun env ih => match f env ih with
  | .nx env' ih' => h env' ih'
  | r => r
def dNx : Ev → IH → RS := fun env ih => .nx env ih
theorem sb_nil : SB g N lev sc dNx [] := fun W X G => PSs.con pss_nil fun D' σ H h => by
  obtain ⟨F, m, ih, env, hr, er, h⟩ := h
  exact h m H σ (Post.refl hr) er
theorem sb_cons {f h : Ev → IH → RS} {st : Stmt} {sts : List Stmt} (h1 : SS g N lev sc f st) (h2 : SB g N lev sc h sts) : SB g N lev sc (dSeq f h) (st :: sts) := fun W X G => by
  refine PSs.con (pss_cons (h1 W X G) (h2 W X G)) fun D' σ H q => ?_
  obtain ⟨F, m, ih, env, hr, er, q⟩ := q
  refine ⟨F, m, ih, env, hr, er, ?_⟩
  unfold dSeq at q
  cases e : f env ih with
  | nx env' ih' =>
    rw [e] at q
    exact fun m1 H1 σ1 p1 e1 => ⟨F, m1, ih', env', p1.hr, e1, FinS.rebase hr p1 q⟩
  | rt _ _ => rw [e] at q; exact q
  | bk _ _ => rw [e] at q; exact q
  | ct _ _ => rw [e] at q; exact q
  | exc _ _ _ _ => rw [e] at q; exact q
  | stuck => rw [e] at q; exact q
def dBk : Ev → IH → RS := fun env ih => .bk env ih
def dCt : Ev → IH → RS := fun env ih => .ct env ih
theorem ss_pass {pos : Pos} : SS g N lev sc dNx (.Pass pos) := fun W X G => PS.con ps_pass fun D' σ H h => by
  obtain ⟨F, m, ih, env, hr, er, h⟩ := h
  exact h m H σ (Post.refl hr) er
theorem ss_break {pos : Pos} : SS g N lev sc dBk (.Break pos) := fun W X G => PS.con ps_break fun D' σ H h => by
  obtain ⟨F, m, ih, env, hr, er, h⟩ := h
  exact h m H σ (Post.refl hr) er
theorem ss_cont {pos : Pos} : SS g N lev sc dCt (.Continue pos) := fun W X G => PS.con ps_continue fun D' σ H h => by
  obtain ⟨F, m, ih, env, hr, er, h⟩ := h
  exact h m H σ (Post.refl hr) er
def dStuck : Ev → IH → RS := fun _ _ => .stuck
theorem ss_never {st : Stmt} : SS g N lev sc dStuck st := fun W X G => PS.con ps_never fun D' σ H h => by
  obtain ⟨F, m, ih, env, hr, er, h⟩ := h
  exact h.elim
def dRet (f : Ev → IH → R (D × IH)) : Ev → IH → RS := fun env ih => bindS env (f env ih) fun r => .rt r.1 r.2
theorem ss_ret {f : Ev → IH → R (D × IH)} {e : Expr} {pos : Pos} (h : SE g N lev sc f e) : SS g N lev sc (dRet f) (.Return (some e) pos) := fun W X G => by
  refine PS.con (ps_ret (h W X G)) fun D' σ H q => ?_
  obtain ⟨F, m, ih, env, hr, er, q⟩ := q
  exact tD_S (k := fun d ih1 => .rt d ih1) hr er q fun m1 H1 x d ih1 hr1 p1 rx q1 => q1 m1 H1 x (Post.refl hr1) rx
def dRetN : Ev → IH → RS := fun _ ih => .rt (.pu .non) ih
theorem ss_retN {pos : Pos} : SS g N lev sc dRetN (.Return none pos) := fun W X G => PS.con ps_retN fun D' σ H h => by
  obtain ⟨F, m, ih, env, hr, er, h⟩ := h
  exact h m H .non (Post.refl hr) rfl
def dExpr (f : Ev → IH → R (D × IH)) : Ev → IH → RS := fun env ih => bindS env (f env ih) fun r => .nx env r.2
def noComp : Expr → Bool
  | .ListComp .. => false
  | .SetComp .. => false
  | .DictComp .. => false
  | _ => true
theorem swaps_plain {e : Expr} (h : noComp e = true) (t : Option Expr) (l : Nat) (env : Env) : swapsWith e t l env = pure false := by
  cases e <;> first | rfl | cases h
theorem ss_expr {f : Ev → IH → R (D × IH)} {e : Expr} {pos : Pos} (h : SE g N lev sc f e) (hc : noComp e = true) : SS g N lev sc (dExpr f) (.Expr e pos) := fun W X G => by
  refine PS.con (ps_expr (h W X G) (swaps_plain hc _ _ _)) fun D' σ H q => ?_
  obtain ⟨F, m, ih, env, hr, er, q⟩ := q
  exact tD_S (k := fun d ih1 => .nx env ih1) hr er q fun m1 H1 x d ih1 hr1 p1 rx q1 => q1 m1 H1 σ (Post.refl hr1) (er.post hr p1)
def dIfS (c : Ev → IH → R (D × IH)) (f h : Ev → IH → RS) : Ev → IH → RS := fun env ih => bindS env (c env ih) fun r => match truD r.1 r.2 with
  | some true => f env r.2
  | some false => h env r.2
  | none => .stuck
theorem ss_if {c : Ev → IH → R (D × IH)} {f h : Ev → IH → RS} {ec : Expr} {a b : List Stmt} {pos : Pos} (hc : ST g N lev sc c ec) (ha : SB g N lev sc f a) (hb : SB g N lev sc h b) : SS g N lev sc (dIfS c f h) (.If ec a b pos) := fun W X G => by
  refine PS.con (ps_if (hc W X G) (ha W X G) (hb W X G)) fun D' σ H q => ?_
  obtain ⟨F, m, ih, env, hr, er, q⟩ := q
  refine tT_S (k := fun d ih1 => match truD d ih1 with | some true => f env ih1 | some false => h env ih1 | none => .stuck) hr er q (fun d ih1 e => by simp only [e]) fun m1 H1 b d ih1 hr1 p1 e2 q1 => ?_
  simp only [e2] at q1
  cases b with
  | true => exact ⟨F, m1, ih1, env, hr1, er.post hr p1, q1⟩
  | false => exact ⟨F, m1, ih1, env, hr1, er.post hr p1, q1⟩

/-! ### targets -/
/-- the slots but vs stay -/
def SmB (vs : List Nat) (σ σ' : L2.St) : Prop := σ'.length = σ.length ∧ ∀ j : Nat, j ∉ vs → σ'[j]? = σ[j]?
/-- a target: what is stored, to the slots behind it -/
def tG (g : GI) (h : P → Ev → Option Ev) (vs : List Nat) : TG := fun v σ H Q => ∃ F m ih env p, HR g.K F m ih H ∧ EvR g.K H (Bd F m ih) m env σ ∧ RP H (Bd F m ih) p v ∧ ∃ env', h p env = some env' ∧ ∀ σ', EvR g.K H (Bd F m ih) m env' σ' → SmB vs σ σ' → Q σ' H
def SG (g : GI) (N : List Str) (lev : Nat) (sc : Scope) (h : P → Ev → Option Ev) (vs : List Nat) (e : Expr) : Prop := ∀ W X, Gd g N lev sc W X → PG X e (tG g h vs)
theorem PG.con {X : Cx} {e : Expr} {t t' : TG} (h : PG X e t) (k : ∀ v σ H Q, t' v σ H Q → t v σ H Q) : PG X e t' := ⟨fun pins s σ H v u Q I r q => h.run pins s σ H v u Q I r (k v σ H Q q)⟩
theorem EvR.set {K : PySem.W.Frag} {B : Addr → Prop} {i : Nat} {d : D} {v : V} (e : EvR K H B m env σ) (r : RD K H B m d v) : EvR K H B m (env.set i (some d)) (σ.set i (some v)) := by
  refine ⟨by simp [e.len], fun j d' h => ?_⟩
  by_cases hj : i = j
  · subst hj
    by_cases hl : i < env.length
    · rw [List.getElem?_set_self hl] at h
      cases h
      exact ⟨v, by rw [List.getElem?_set_self (by rw [← e.len]; exact hl)], r⟩
    · rw [List.getElem?_set_self'] at h
      rw [List.getElem?_eq_none (by omega)] at h
      cases h
  · rw [List.getElem?_set_ne hj] at h ⊢
    exact e.get j d' h
def gN (i : Nat) : P → Ev → Option Ev := fun p env => some (env.set i (some (.pu p)))
theorem sg_name {i : Nat} {x : Str} {pos : Pos} (hi : N[i]? = some x) (hx : Loc sc x) : SG g N lev sc (gN i) [i] (.Name x pos) := fun W X G => by
  refine PG.con (pg_name (i := i) (by rw [G.nm]; exact G.nd) (by rw [G.nm]; exact hi) (G.scp.loc hx) ?_) fun v σ H Q q => ?_
  · rcases hx with h | h
    · exact .inr (G.scp.lo h)
    · exact .inl (G.fn x h)
  · obtain ⟨F, m, ih, env, p, hr, er, rp, env', e, q⟩ := q
    cases e
    refine q _ (EvR.set (d := .pu p) er rp) ⟨by simp, fun j hj => ?_⟩
    exact List.getElem?_set_ne (fun e => hj (by simp [e]))
/-- several targets -/
def tGs (g : GI) (hs : List P → Ev → Option Ev) (sl : List Nat) : TGs := fun vs σ H Q => ∃ F m ih env ps, HR g.K F m ih H ∧ EvR g.K H (Bd F m ih) m env σ ∧ RPs H (Bd F m ih) ps vs ∧ ∃ env', hs ps env = some env' ∧ ∀ σ', EvR g.K H (Bd F m ih) m env' σ' → SmB sl σ σ' → Q σ' H
def gAll : List (P → Ev → Option Ev) → List P → Ev → Option Ev
  | [], [], env => some env
  | h :: hs, p :: ps, env => (h p env).bind (gAll hs ps)
  | _, _, _ => none
inductive SGs (g : GI) (N : List Str) (lev : Nat) (sc : Scope) : List (P → Ev → Option Ev) → List Nat → List Expr → Prop
  | nil : SGs g N lev sc [] [] []
  | cons {h : P → Ev → Option Ev} {hs : List (P → Ev → Option Ev)} {v vs : List Nat} {e : Expr} {es : List Expr} : SG g N lev sc h v e → (∀ (e' : Expr) (p : Pos), e ≠ .Starred e' p) → SGs g N lev sc hs vs es → SGs g N lev sc (h :: hs) (v ++ vs) (e :: es)
theorem assign_plain {e : Expr} {es : List Expr} {env : Env} (h : ∀ (e' : Expr) (p : Pos), e ≠ .Starred e' p) : assignEach (e :: es) env = (false, assign e env) :: assignEach es env := by
  cases e <;> first | rfl | exact absurd rfl (h _ _)
theorem PGs.con {X : Cx} {es : List Expr} {t t' : TGs} (h : PGs X es t) (k : ∀ v σ H Q, t' v σ H Q → t v σ H Q) : PGs X es t' := ⟨fun pins s σ H v u Q I r q => h.run pins s σ H v u Q I r (k v σ H Q q)⟩
theorem pgs_of {X : Cx} (G : Gd g N lev sc W X) : ∀ {hs : List (P → Ev → Option Ev)} {sl : List Nat} {es : List Expr}, SGs g N lev sc hs sl es → PGs X es (tGs g (gAll hs) sl)
  | _, _, _, .nil => PGs.con pgs_nil fun vs σ H Q q => by
    obtain ⟨F, m, ih, env, ps, hr, er, rp, env', e, q⟩ := q
    cases ps with
    | nil => cases e; exact ⟨rp, q σ er ⟨rfl, fun _ _ => rfl⟩⟩
    | cons _ _ => cases e
  | _, _, _, .cons (h := h) (hs := hs) h1 h2 h3 => PGs.con (pgs_cons (h1 W X G) (pgs_of G h3) (by rw [assign_plain h2]; rfl)) fun vs σ H Q q => by
    obtain ⟨F, m, ih, env, ps, hr, er, rp, env', e, q⟩ := q
    cases ps with
    | nil => cases e
    | cons p ps =>
      obtain ⟨v, r, rfl, r1, r2⟩ := rp
      rw [gAll] at e
      cases e1 : h p env with
      | none => rw [e1] at e; cases e
      | some env1 =>
        rw [e1] at e
        exact ⟨v, r, rfl, F, m, ih, env, p, hr, er, r1, env1, e1, fun σ1 er1 s1 => ⟨F, m, ih, env1, ps, hr, er1, r2, env', e, fun σ2 er2 s2 => q σ2 er2 ⟨s2.1.trans s1.1, fun j hj => by
          rw [List.mem_append, not_or] at hj
          exact (s2.2 j hj.2).trans (s1.2 j hj.1)⟩⟩⟩
theorem SGs.flags {env : Env} : ∀ {hs : List (P → Ev → Option Ev)} {sl : List Nat} {es : List Expr}, SGs g N lev sc hs sl es → (assignEach es env).findIdx? (·.1) = none ∧ (assignEach es env).length = hs.length
  | _, _, _, .nil => ⟨rfl, rfl⟩
  | _, _, _, .cons h1 h2 h3 => by
    obtain ⟨a, b⟩ := SGs.flags (env := env) h3
    rw [assign_plain h2, List.findIdx?_cons, a, List.length_cons, b]
    exact ⟨rfl, rfl⟩
def gT (hs : List (P → Ev → Option Ev)) : P → Ev → Option Ev
  | .tup ps, env => gAll hs ps env
  | _, _ => none
theorem gAll_len : ∀ {hs : List (P → Ev → Option Ev)} {ps : List P} {env env' : Ev}, gAll hs ps env = some env' → ps.length = hs.length
  | [], [], _, _, _ => rfl
  | h :: hs, p :: ps, env, env', e => by
    rw [gAll] at e
    cases e1 : h p env with
    | none => rw [e1] at e; cases e
    | some env1 => rw [e1] at e; simp [gAll_len e]
  | [], _ :: _, _, _, e => by cases e
  | _ :: _, [], _, _, e => by cases e
theorem sg_tup {hs : List (P → Ev → Option Ev)} {sl : List Nat} {es : List Expr} {k : Nat} {pos : Pos} (h : SGs g N lev sc hs sl es) : SG g N lev sc (gT hs) sl (.Tuple es k pos) := fun W X G => by
  refine PG.con (pg_tup G.calm (pgs_of G h) (n := hs.length) h.flags.2 h.flags.1) fun v σ H Q q => ?_
  obtain ⟨F, m, ih, env, p, hr, er, rp, env', e, q⟩ := q
  cases p with
  | tup ps =>
    obtain ⟨a, vs, rfl, h1, h2⟩ := rp
    exact ⟨a, vs, rfl, .of h1, by rw [h2.length]; exact gAll_len e, F, m, ih, env, ps, hr, er, h2, env', e, q⟩
  | _ => cases e

/-! ### name = e; target = e -/
def dSet (i : Nat) (f : Ev → IH → R (D × IH)) : Ev → IH → RS := fun env ih => bindS env (f env ih) fun r => .nx (env.set i (some r.1)) r.2
/-- the store is not drawn into the comprehension -/
def swNo (sc : Scope) (x : Str) (p : Pos) (e : Expr) : Bool := noComp e || (!(p.line == e.pos.line) || (match sc.names.lookup x with | some .cell => true | _ => false))
theorem swaps_no {X : Cx} (G : Gd g N lev sc W X) {x : Str} {p : Pos} {e : Expr} (h : swNo sc x p e = true) (l : Nat) : swapsWith e (some (.Name x p)) l X.env = pure false := by
  unfold swNo at h
  rcases (Bool.or_eq_true _ _).mp h with h | h
  · exact swaps_plain h _ _ _
  · have key : (X.env.blockKind == .function && X.env.kindOf x == some .local && p.line == e.pos.line) = false := by
      rcases (Bool.or_eq_true _ _).mp h with h | h
      · rw [Bool.not_eq_true'] at h; rw [h]; simp
      · have z : X.env.kindOf x = some .cell := by
          split at h
          · rename_i e1; exact G.scp.at e1 (by intro z; cases z)
          · cases h
        rw [z]
        have z2 : (some NameKind.cell == some NameKind.local) = false := rfl
        rw [z2]; simp
    cases e <;> first | rfl | (unfold swapsWith; simp only [key]; rfl)
theorem ss_set {i : Nat} {x : Str} {e : Expr} {p pos : Pos} {f : Ev → IH → R (D × IH)} (hi : N[i]? = some x) (hx : Loc sc x) (h : SE g N lev sc f e) (hc : swNo sc x p e = true) : SS g N lev sc (dSet i f) (.Assign [.Name x p] e pos) := fun W X G => by
  refine PS.con (ps_set (i := i) (by rw [G.nm]; exact G.nd) (by rw [G.nm]; exact hi) (G.scp.loc hx) (h W X G) (swaps_no G hc _) ?_) fun D' σ H q => ?_
  · rcases hx with h | h
    · exact .inr (G.scp.lo h)
    · exact .inl (G.fn x h)
  · obtain ⟨F, m, ih, env, hr, er, q⟩ := q
    exact tD_S (k := fun d ih1 => .nx (env.set i (some d)) ih1) hr er q fun m1 H1 y d ih1 hr1 p1 rx q1 => q1 m1 H1 _ (Post.refl hr1) ((er.post hr p1).set rx)
def dAsg (h : P → Ev → Option Ev) (f : Ev → IH → R (D × IH)) : Ev → IH → RS := fun env ih => bindS env (f env ih) fun r => match r.1 with
  | .pu p => (match h p env with
    | some env' => .nx env' r.2
    | none => .stuck)
  | _ => .stuck
/-- a, b = e: e no tuple display (else the stores may be swapped) -/
def notTup : Expr → Bool
  | .Tuple .. => false
  | _ => true
theorem ss_asg {h : P → Ev → Option Ev} {sl : List Nat} {es : List Expr} {k : Nat} {e : Expr} {tp pos : Pos} {f : Ev → IH → R (D × IH)} (hg : SG g N lev sc h sl (.Tuple es k tp)) (he : SE g N lev sc f e) (hc : noComp e = true) (ht : notTup e = true) : SS g N lev sc (dAsg h f) (.Assign [.Tuple es k tp] e pos) := fun W X G => by
  refine PS.con (ps_asg (he W X G) (hg W X G) (show swapsWithSole [Expr.Tuple es k tp] e pos.line X.env = pure false from swaps_plain hc (some (.Tuple es k tp)) pos.line X.env) ?_ rfl) fun D' σ H q => ?_
  · cases e <;> first | rfl | cases ht
  · obtain ⟨F, m, ih, env, hr, er, q⟩ := q
    refine tD_S (k := fun d ih1 => match d with | .pu p => (match h p env with | some env' => .nx env' ih1 | none => .stuck) | _ => .stuck) hr er q fun m1 H1 y d ih1 hr1 p1 rx q1 => ?_
    split at q1
    · split at q1
      · rename_i env' e1
        exact ⟨F, m1, ih1, env, _, hr1, er.post hr p1, rx, env', e1, fun σ' er' _ => q1 m1 H1 σ' (Post.refl hr1) er'⟩
      · exact q1.elim
    · exact q1.elim
/-- a, b = e1, e2: the two are stored at once -/
def dPar (i j : Nat) (f h : Ev → IH → R (D × IH)) : Ev → IH → RS := fun env ih => bindS env (dArgs [f, h] env ih) fun r => match r.1 with
  | [a, b] => .nx ((env.set i (some a)).set j (some b)) r.2
  | _ => .stuck
theorem tA_S {fs : List (Ev → IH → R (D × IH))} {k : List D → IH → RS} {T : List V → Hp → Prop} (hr : HR g.K F m ih H) (er : EvR g.K H (Bd F m ih) m env σ) (h : FinS g W F m ih H D' (bindS env (dArgs fs env ih) fun r => k r.1 r.2))
    (hT : ∀ m1 H1 x d ih1, HR g.K F m1 ih1 H1 → Post g.K F m ih H m1 ih1 H1 → RDs g.K H1 (Bd F m1 ih1) m1 d x → FinS g W F m1 ih1 H1 D' (k d ih1) → T x H1) : tA g W fs σ H T := by
  refine ⟨F, m, ih, env, hr, er, ?_⟩
  cases e : dArgs fs env ih with
  | ok r =>
    rw [e] at h
    intro m1 H1 v p1 r1
    exact hT m1 H1 v r.1 r.2 p1.hr p1 r1 (FinS.rebase hr p1 h)
  | exc c fs ih2 =>
    rw [e] at h
    exact fun m1 H1 cls dd p1 r1 => h m1 H1 σ cls dd p1 (er.post hr p1) r1
  | stuck => rw [e] at h; exact h.elim
def isStar : Expr → Bool
  | .Starred .. => true
  | _ => false
def swapOk2 (a b : Expr) : Bool := !isStar a && (!isStar b && (!(foldedForSure 8 a && foldedForSure 8 b) && !(constantsAlone 8 a && constantsAlone 8 b)))
theorem star_b {a : Expr} : (match a with | .Starred .. => true | _ => false) = isStar a := rfl
theorem swap2 {x y : Str} {px py pt pt2 : Pos} {kt k2 : Nat} {a b : Expr} {env : Env} (hk : env.scope.kind = .function) (hx : env.scope.names.lookup x = some .local) (hy : env.scope.names.lookup y = some .local) (hxy : x ≠ y) (hl : py.line = px.line) (h : swapOk2 a b = true) :
    swappedStores [.Tuple [.Name x px, .Name y py] kt pt] (.Tuple [a, b] k2 pt2) env = pure (some [x, y]) := by
  have hb : env.blockKind = .function := by unfold Env.blockKind; rw [hk]; rfl
  have hx' : env.kindOf x = some .local := hx
  have hy' : env.kindOf y = some .local := hy
  unfold swapOk2 at h
  simp only [Bool.and_eq_true, Bool.not_eq_true'] at h
  obtain ⟨h1, h2, h3, h4⟩ := h
  have hne : (y == x) = false := beq_eq_false_iff_ne.mpr (Ne.symm hxy)
  have hne2 : (x == y) = false := beq_eq_false_iff_ne.mpr hxy
  have s1 : ([a, b].any fun | .Starred .. => true | _ => false) = false := by
    rw [List.any_cons, List.any_cons, List.any_nil]
    show (isStar a || (isStar b || false)) = false
    rw [h1, h2]; rfl
  have s2 : [a, b].all (foldedForSure 8) = false := by
    rw [List.all_cons, List.all_cons, List.all_nil, Bool.and_true]; exact h3
  have s3 : [a, b].all (constantsAlone 8) = false := by
    rw [List.all_cons, List.all_cons, List.all_nil, Bool.and_true]; exact h4
  have ed : ([x, y] : List Str).eraseDups = [x, y] := by
    simp [List.eraseDups, List.eraseDupsBy, List.eraseDupsBy.loop, hne, hne2]
  unfold swappedStores
  simp only [hb, s1, s2, s3, List.filterMap_cons, List.filterMap_nil, hx', hy', hl, List.head?_cons, Option.map_some, Option.getD_some, Expr.pos, beq_self_eq_true, Bool.and_true, if_true, ite_true, ed, List.length_cons, List.length_nil, pure_bind]
  refine (if_neg (by decide)).trans ((if_neg fun z => ?_).trans ?_)
  · have z' : ([a, b].any fun | .Starred .. => true | _ => false) = true := z
    rw [s1] at z'
    cases z'
  · rfl
theorem ss_par {i j : Nat} {x y : Str} {a b : Expr} {px py pt pt2 pos : Pos} {kt k2 : Nat} {f h : Ev → IH → R (D × IH)} (hi : N[i]? = some x) (hj : N[j]? = some y) (hij : i ≠ j) (hx : sc.names.lookup x = some .local) (hy : sc.names.lookup y = some .local) (hl : py.line = px.line) (hs : swapOk2 a b = true) (hk : sc.kind = .function)
    (ha : SA g N lev sc [f, h] [a, b]) : SS g N lev sc (dPar i j f h) (.Assign [.Tuple [.Name x px, .Name y py] kt pt] (.Tuple [a, b] k2 pt2) pos) := fun W X G => by
  have hxy : x ≠ y := fun e => by
    subst e
    exact hij (nodup_ix G.nd hi hj)
  refine PS.con (ps_par G.calm (by rw [G.nm]; exact G.nd) (by rw [G.nm]; exact hi) (by rw [G.nm]; exact hj) hij (G.scp.lo hx) (G.scp.lo hy) (pa_of G ha) (swap2 (by rw [G.scp.kind]; exact hk) (G.scp.lo hx) (G.scp.lo hy) hxy hl hs) rfl) fun D' σ H q => ?_
  obtain ⟨F, m, ih, env, hr, er, q⟩ := q
  refine tA_S (k := fun ds ih1 => match ds with | [a, b] => .nx ((env.set i (some a)).set j (some b)) ih1 | _ => .stuck) hr er q fun m1 H1 xs ds ih1 hr1 p1 rx q1 => ?_
  split at q1
  · obtain ⟨v, w, e, r1, r2⟩ := rx.two
    exact ⟨v, w, e, q1 m1 H1 _ (Post.refl hr1) (((er.post hr p1).set r1).set r2)⟩
  · exact q1.elim
end
end Dn

/-! Dn12: stores to items, methods that change, while, for. -/
namespace Dn
open PySem PySem.Spec PyProof.Rows L2
section
variable {g : GI} {N : List Str} {lev : Nat} {sc : Scope} {W : WX} {F : Addr → Prop} {m : List Addr} {ih : IH} {H : Hp} {σ : L2.St} {env : Ev} {D' : Ends}

/-! ### o[k] = v -/
theorem RDk.put {κ : Type} [DecidableEq κ] {K : PySem.W.Frag} {B : Addr → Prop} {k : κ} {p : D} {v : V} (hp : RD K H B m p v) {ks : List (κ × D)} {kvs : List (κ × V)} (h : RDk K H B m ks kvs) : RDk K H B m (putP ks k p) (putK kvs k v) := by
  have ha : ∀ {ks : List (κ × D)} {kvs : List (κ × V)}, RDk K H B m ks kvs → (ks.any fun kv => decide (kv.1 = k)) = (kvs.any fun kv => decide (kv.1 = k)) := by
    intro ks
    induction ks with
    | nil => intro kvs h; rw [show kvs = [] from h]; rfl
    | cons x ks ih =>
      intro kvs h
      obtain ⟨kx, px⟩ := x
      obtain ⟨w, r, rfl, h1, h2⟩ := h
      rw [List.any_cons, List.any_cons, ih h2]
  have hm : ∀ {ks : List (κ × D)} {kvs : List (κ × V)}, RDk K H B m ks kvs → RDk K H B m (ks.map fun kv => if kv.1 = k then (kv.1, p) else kv) (kvs.map fun kv => if kv.1 = k then (kv.1, v) else kv) := by
    intro ks
    induction ks with
    | nil => intro kvs h; rw [show kvs = [] from h]; rfl
    | cons x ks ih =>
      intro kvs h
      obtain ⟨kx, px⟩ := x
      obtain ⟨w, r, rfl, h1, h2⟩ := h
      rw [List.map_cons, List.map_cons]
      by_cases e : kx = k
      · rw [if_pos e, if_pos e]; exact ⟨v, _, rfl, hp, ih h2⟩
      · rw [if_neg e, if_neg e]; exact ⟨w, _, rfl, h1, ih h2⟩
  have hs : ∀ {ks : List (κ × D)} {kvs : List (κ × V)}, RDk K H B m ks kvs → RDk K H B m (ks ++ [(k, p)]) (kvs ++ [(k, v)]) := by
    intro ks
    induction ks with
    | nil => intro kvs h; rw [show kvs = [] from h]; exact ⟨v, [], rfl, hp, rfl⟩
    | cons x ks ih =>
      intro kvs h
      obtain ⟨kx, px⟩ := x
      obtain ⟨w, r, rfl, h1, h2⟩ := h
      exact ⟨w, _, rfl, h1, ih h2⟩
  unfold putP putK
  rw [ha h]
  split
  · exact hm h
  · exact hs h
theorem RDs.append {K : PySem.W.Frag} {B : Addr → Prop} : ∀ {ps qs : List D} {vs ws : List V}, RDs K H B m ps vs → RDs K H B m qs ws → RDs K H B m (ps ++ qs) (vs ++ ws)
  | [], _, _, _, h, k => by rw [show _ = _ from h]; exact k
  | _ :: _, _, _, _, h, k => by
    obtain ⟨v, r, rfl, h1, h⟩ := h
    exact ⟨v, _, rfl, h1, RDs.append h k⟩
theorem RDs.set {K : PySem.W.Frag} {B : Addr → Prop} {p : D} {v : V} (hp : RD K H B m p v) : ∀ {ps : List D} {vs : List V} (i : Nat), RDs K H B m ps vs → RDs K H B m (ps.set i p) (vs.set i v)
  | [], _, _, h => by rw [show _ = _ from h]; rfl
  | _ :: _, _, 0, h => by
    obtain ⟨w, r, rfl, h1, h⟩ := h
    exact ⟨v, r, rfl, hp, h⟩
  | _ :: _, _, i + 1, h => by
    obtain ⟨w, r, rfl, h1, h⟩ := h
    exact ⟨w, _, rfl, h1, RDs.set hp i h⟩
/-- the cell behind o[k] = v -/
def putC (o k v : D) (ih : IH) : Option IH := match o with
  | .ref n => (match ih[n]? with
    | some (.dic ks) => (match k with
      | .pu p => (match toK p with
        | some kk => if ks.length < SL then some (ih.set n (.dic (putP ks kk v))) else none
        | none => none)
      | _ => none)
    | some (.dit ks) => (match k with
      | .pu (.tup ps) => (match toKs ps with
        | some kk => if ks.length < SL then some (ih.set n (.dit (putP ks kk v))) else none
        | none => none)
      | _ => none)
    | some (.lst xs) => (match k with
      | .pu (.int i) => (match ixN xs.length i with
        | some j => some (ih.set n (.lst (xs.set j v)))
        | none => none)
      | _ => none)
    | _ => none)
  | _ => none
def rPut : V → V → V → Hp → (Hp → Prop) → Prop := fun o i v H Q => (∃ a H', o = .ref a ∧ DPut H a i v H' ∧ Q H') ∨ rSetL o i v H Q
theorem set_put {X : Cx} (hu : X.A.units + 1 < cLine) : PSet X rPut := by
  intro pins s σ H o i v ov iv u Q I ro ri rv h
  rcases h with ⟨a, H', rfl, dp, q⟩ | h
  · cases ro
    exact d_setItem hu I dp ri rv fun s' I' => ⟨H', I', q⟩
  · exact set_list pins s σ H o i v ov iv u Q I ro ri rv h
theorem putC_ok {o k v : D} {ih' : IH} {x y z : V} (hr : HR g.K F m ih H) (e : putC o k v ih = some ih') (rx : RD g.K H (Bd F m ih) m o x) (ry : RD g.K H (Bd F m ih) m k y) (rz : RD g.K H (Bd F m ih) m v z) {Q : Hp → Prop} (hQ : ∀ H', Post g.K F m ih H m ih' H' → Q H') : rPut x y z H Q := by
  unfold putC at e
  split at e
  · obtain ⟨a, rfl, hm⟩ := rx
    split at e
    · rename_i hc
      obtain ⟨ob, ho, rc⟩ := hr.cell _ a _ hm hc (by intro z; cases z)
      split at e
      · split at e
        · rename_i kk e1
          split at e
          · rename_i hl
            cases e
            cases ob with
            | dK kvs =>
              refine .inl ⟨a, _, rfl, .inl ⟨kvs, kk, ho, toK_rp e1 ry, by rw [SL_eq, RDk.length rc]; exact hl, rfl⟩, hQ _ ?_⟩
              exact Post.write hr hm hc (by intro z; cases z) (RDk.put rz rc)
            | _ => exact rc.elim
          · cases e
        · cases e
      · cases e
    · rename_i hc
      obtain ⟨ob, ho, rc⟩ := hr.cell _ a _ hm hc (by intro z; cases z)
      split at e
      · split at e
        · rename_i kk e1
          split at e
          · rename_i hl
            cases e
            cases ob with
            | dT kvs =>
              obtain ⟨b, vs, rfl, hb, rb⟩ := ry
              refine .inl ⟨a, _, rfl, .inr ⟨kvs, kk, b, ho, rfl, by rw [hb, toKs_rp e1 rb], by rw [SL_eq, RDk.length rc]; exact hl, rfl⟩, hQ _ ?_⟩
              exact Post.write hr hm hc (by intro z; cases z) (RDk.put rz rc)
            | _ => exact rc.elim
          · cases e
        · cases e
      · cases e
    · rename_i hc
      obtain ⟨ob, ho, rc⟩ := hr.cell _ a _ hm hc (by intro z; cases z)
      split at e
      · split at e
        · rename_i j e1
          cases e
          cases ob with
          | lst vs =>
            cases ry
            refine .inr ⟨a, vs, _, j, rfl, rfl, ho, by rw [RDs.length rc]; exact e1, hQ _ ?_⟩
            exact Post.write hr hm hc (by intro z; cases z) (RDs.set rz j rc)
          | _ => exact rc.elim
        · cases e
      · cases e
    · cases e
  · cases e
def dPut (fo fk fv : Ev → IH → R (D × IH)) : Ev → IH → RS := fun env ih => bindS env (fv env ih) fun v => bindS env (fo env v.2) fun o => bindS env (fk env o.2) fun k => match putC o.1 k.1 v.1 k.2 with
  | some ih' => .nx env ih'
  | none => .stuck
theorem swaps_sub {e o i : Expr} {p : Pos} (l : Nat) (env : Env) : swapsWith e (some (.Subscript o i p)) l env = pure false := by
  cases e <;> rfl
theorem ss_put {o i e : Expr} {tp pos : Pos} {fo fk fv : Ev → IH → R (D × IH)} (ho : SE g N lev sc fo o) (hi : SE g N lev sc fk i) (he : SE g N lev sc fv e)
    (ha : ∀ (env : Env) (v : Value), assign (.Subscript o i tp) env v = (do
      let ov ← holding [v] (eval o env)
      let iv ← holding [v, ov] (eval i env)
      standAt tp
      holding [v, ov, iv] (setItem ov iv v)
      release [v, ov, iv] [])) : SS g N lev sc (dPut fo fk fv) (.Assign [.Subscript o i tp] e pos) := fun W X G => by
  refine PS.con (ps_asg (he W X G) (pg_sub (ho W X G) (hi W X G) (set_put (hu_of G.room)) (ha X.env)) (show swapsWithSole [Expr.Subscript o i tp] e pos.line X.env = pure false from swaps_sub (o := o) (i := i) (p := tp) pos.line X.env) (by cases e <;> rfl) rfl) fun D' σ H q => ?_
  obtain ⟨F, m, ih, env, hr, er, q⟩ := q
  refine tD_S (k := fun v ih1 => bindS env (fo env ih1) fun o => bindS env (fk env o.2) fun k => match putC o.1 k.1 v k.2 with | some ih' => .nx env ih' | none => .stuck) hr er q fun m1 H1 z v ih1 hr1 p1 rz q1 => ?_
  refine tD_S (k := fun o ih2 => bindS env (fk env ih2) fun k => match putC o k.1 v k.2 with | some ih' => .nx env ih' | none => .stuck) hr1 (er.post hr p1) q1 fun m2 H2 x o ih2 hr2 p2 rx q2 => ?_
  refine tD_S (k := fun k ih3 => match putC o k v ih3 with | some ih' => .nx env ih' | none => .stuck) hr2 ((er.post hr p1).post hr1 p2) q2 fun m3 H3 y k ih3 hr3 p3 ry q3 => ?_
  split at q3
  · rename_i ih' e1
    refine putC_ok hr3 e1 (p3.rd hr2 rx) ry (p3.rd hr2 (p2.rd hr1 rz)) fun H' p4 => ?_
    exact q3 m3 H' σ p4 ((((er.post hr p1).post hr1 p2).post hr2 p3).post hr3 p4)
  · exact q3.elim

/-! ### methods of lists -/
/-- a method by values: T the receiver's type -/
def MeD (g : GI) (T : String) (id : String) (ok : D → IH → Bool) (md : D → List D → IH → R (D × IH)) : Prop := ∀ (N : List Str) (lev : Nat) (sc : Scope) (W : WX) (X : Cx), Gd g N lev sc W X → ∃ r, MtR X id r ∧
  (∀ F m ih H d x, HR g.K F m ih H → RD g.K H (Bd F m ih) m d x → ok d ih = true → tyV X.K T x H) ∧
  ∀ F m ih H σ Q d x ds xs, HR g.K F m ih H → RD g.K H (Bd F m ih) m d x → RDs g.K H (Bd F m ih) m ds xs → Fin g W F m ih H σ Q (md d ds ih) → r x xs H Q
def dMe (ok : D → IH → Bool) (md : D → List D → IH → R (D × IH)) (f : Ev → IH → R (D × IH)) (fs : List (Ev → IH → R (D × IH))) : Ev → IH → R (D × IH) := fun env ih => (f env ih).bind fun o => if ok o.1 o.2 then (dArgs fs env o.2).bind fun r => md o.1 r.1 r.2 else .stuck
def baseOk : Expr → Bool
  | .Call (.Name _ _) [] [] _ => false
  | _ => true
theorem base_plain {o : Expr} (h : baseOk o = true) (a : Str) (env : Env) : attributeBase o a env (eval o env) = eval o env := by
  unfold attributeBase
  split
  · cases h
  · rfl
theorem few_of {fs : List (Ev → IH → R (D × IH))} {es : List Expr} {env : Env} (pos : Pos) (h : SA g N lev sc fs es) (hl : es.length < 30) : ((backTo pos (starEach es env)).all (fun x => !x.1) && (backToKw pos (keywordEach [] env)).all (fun x => x.1.isSome) && decide (es.length + ([] : List Keyword).length + (if ([] : List Keyword).isEmpty then 0 else 1) < 30)) = true := by
  have h1 : (backTo pos (starEach es env)).all (fun x => !x.1) = true := by
    have z := h.noStar (env := env)
    rw [← backTo_any pos] at z
    rw [List.all_eq_not_any_not]
    simp only [Bool.not_not]
    rw [z]; rfl
  rw [h1]
  simp [keywordEach, backToKw, hl]
theorem se_methX {T id : String} {nm : Str} {ok : D → IH → Bool} {md : D → List D → IH → R (D × IH)} {o e : Expr} {es : List Expr} {ap cp : Pos} {f : Ev → IH → R (D × IH)} {fs : List (Ev → IH → R (D × IH))} (ho : MeD g T id ok md) (pa : PlainAttrs T) (slot : Slot T nm id) (hty : typeOf (.builtin id) = pure (.type "method_descriptor"))
    (hf : SE g N lev sc f o) (ha : SA g N lev sc fs (e :: es)) (hb : ∀ env, attributeBase o nm env (eval o env) = eval o env) (hl : (ap.endLine == cp.line) = true) (hn : (e :: es).length < 30) : SE g N lev sc (dMe ok md f fs) (.Call (.Attribute o nm ap) (e :: es) [] cp) := fun W X G => by
  obtain ⟨r, h1, h2, h3⟩ := ho N lev sc W X G
  refine PE.con (pe_bm pa slot hty h1 (hf W X G) (pa_of G ha) (hb _) (few_of cp ha hn) hl ha.star ?_) fun σ H Q q => ?_
  · cases ha with
    | cons _ _ h3 => rw [backTo_any]; exact h3.noStar
  · obtain ⟨F, m, ih, env, hr, er, q⟩ := q
    refine tD_bind (k := fun d ih1 => if ok d ih1 then (dArgs fs env ih1).bind fun r => md d r.1 r.2 else .stuck) hr er q fun m1 H1 x d ih1 hr1 p1 rx q1 => ?_
    split at q1
    · rename_i hok
      refine ⟨h2 F m1 ih1 H1 d x hr1 rx hok, ?_⟩
      exact tA_bind (k := fun ds ih2 => md d ds ih2) hr1 (er.post hr p1) q1 fun m2 H2 xs ds ih2 hr2 p2 rs q2 => h3 F m2 ih2 H2 σ Q d x ds xs hr2 (p2.rd hr1 rx) rs q2
    · exact q1.elim
theorem se_meth {T id : String} {nm : Str} {ok : D → IH → Bool} {md : D → List D → IH → R (D × IH)} {o e : Expr} {es : List Expr} {ap cp : Pos} {f : Ev → IH → R (D × IH)} {fs : List (Ev → IH → R (D × IH))} (ho : MeD g T id ok md) (pa : PlainAttrs T) (slot : Slot T nm id) (hty : typeOf (.builtin id) = pure (.type "method_descriptor"))
    (hf : SE g N lev sc f o) (ha : SA g N lev sc fs (e :: es)) (hb : baseOk o = true) (hl : (ap.endLine == cp.line) = true) (hn : (e :: es).length < 30) : SE g N lev sc (dMe ok md f fs) (.Call (.Attribute o nm ap) (e :: es) [] cp) := fun W X G => by
  obtain ⟨r, h1, h2, h3⟩ := ho N lev sc W X G
  refine PE.con (pe_bm pa slot hty h1 (hf W X G) (pa_of G ha) (base_plain hb _ _) (few_of cp ha hn) hl ha.star ?_) fun σ H Q q => ?_
  · cases ha with
    | cons _ _ h3 => rw [backTo_any]; exact h3.noStar
  · obtain ⟨F, m, ih, env, hr, er, q⟩ := q
    refine tD_bind (k := fun d ih1 => if ok d ih1 then (dArgs fs env ih1).bind fun r => md d r.1 r.2 else .stuck) hr er q fun m1 H1 x d ih1 hr1 p1 rx q1 => ?_
    split at q1
    · rename_i hok
      refine ⟨h2 F m1 ih1 H1 d x hr1 rx hok, ?_⟩
      exact tA_bind (k := fun ds ih2 => md d ds ih2) hr1 (er.post hr p1) q1 fun m2 H2 xs ds ih2 hr2 p2 rs q2 => h3 F m2 ih2 H2 σ Q d x ds xs hr2 (p2.rd hr1 rx) rs q2
    · exact q1.elim
theorem se_meth0 {T id : String} {nm : Str} {ok : D → IH → Bool} {md : D → List D → IH → R (D × IH)} {o : Expr} {ap cp : Pos} {f : Ev → IH → R (D × IH)} (ho : MeD g T id ok md) (pa : PlainAttrs T) (slot : Slot T nm id) (hty : typeOf (.builtin id) = pure (.type "method_descriptor"))
    (hf : SE g N lev sc f o) (hb : baseOk o = true) (hl : (ap.endLine == cp.line) = true) : SE g N lev sc (dMe ok md f []) (.Call (.Attribute o nm ap) [] [] cp) := fun W X G => by
  obtain ⟨r, h1, h2, h3⟩ := ho N lev sc W X G
  refine PE.con (pe_bm0 pa slot hty h1 (hf W X G) (base_plain hb _ _) hl) fun σ H Q q => ?_
  obtain ⟨F, m, ih, env, hr, er, q⟩ := q
  refine tD_bind (k := fun d ih1 => if ok d ih1 then (dArgs [] env ih1).bind fun r => md d r.1 r.2 else .stuck) hr er q fun m1 H1 x d ih1 hr1 p1 rx q1 => ?_
  split at q1
  · rename_i hok
    exact ⟨h2 F m1 ih1 H1 d x hr1 rx hok, h3 F m1 ih1 H1 σ Q d x [] [] hr1 rx rfl q1⟩
  · exact q1.elim
def isL : D → IH → Bool
  | .pu (.lst _), _ => true
  | .ref n, ih => (match ih[n]? with
    | some (.lst _) => true
    | _ => false)
  | _, _ => false
theorem isL_ty {K : PySem.W.Frag} {d : D} {x : V} (hr : HR g.K F m ih H) (rx : RD g.K H (Bd F m ih) m d x) (e : isL d ih = true) : tyV K "list" x H := by
  unfold isL at e
  split at e
  · obtain ⟨a, vs, rfl, h1, _⟩ := rx
    exact .inl ⟨rfl, vs, .of h1⟩
  · obtain ⟨a, rfl, hm⟩ := rx
    split at e
    · rename_i hc
      obtain ⟨ob, ho, rc⟩ := hr.cell _ a _ hm hc (by intro z; cases z)
      cases ob with
      | lst vs => exact .inl ⟨rfl, vs, .of ho⟩
      | _ => exact rc.elim
    · cases e
  · cases e
def appD : D → List D → IH → R (D × IH) := fun o ds ih => match o, ds with
  | .ref n, [d] => (match ih[n]? with
    | some (.lst xs) => if xs.length < SL then .ok (.pu .non, ih.set n (.lst (xs ++ [d]))) else .stuck
    | _ => .stuck)
  | _, _ => .stuck
theorem appD_ok : MeD g "list" "list.append" isL appD := fun N lev sc W X G => by
  refine ⟨_, mt_append, fun F m ih H d x hr rx e => isL_ty hr rx e, fun F m ih H σ Q d x ds xs hr rx rs h => ?_⟩
  unfold appD at h
  split at h
  · obtain ⟨a, rfl, hm⟩ := rx
    obtain ⟨y, rfl, ry⟩ := rs.one
    split at h
    · rename_i hc
      obtain ⟨ob, ho, rc⟩ := hr.cell _ a _ hm hc (by intro z; cases z)
      split at h
      · rename_i hl
        cases ob with
        | lst vs =>
          refine ⟨a, vs, y, rfl, rfl, ho, by rw [SL_eq, RDs.length rc]; exact hl, ?_⟩
          exact h m _ .non (Post.write hr hm hc (by intro z; cases z) (RDs.append rc ⟨y, [], rfl, ry, rfl⟩)) rfl
        | _ => exact rc.elim
      · exact h.elim
    · exact h.elim
  · exact h.elim
theorem RDs.dropLast {K : PySem.W.Frag} {B : Addr → Prop} : ∀ {ps : List D} {vs : List V}, RDs K H B m ps vs → RDs K H B m ps.dropLast vs.dropLast
  | [], _, h => by rw [show _ = _ from h]; rfl
  | [_], _, h => by
    obtain ⟨w, r, rfl, h1, rfl⟩ := h
    rfl
  | _ :: q :: qs, _, h => by
    obtain ⟨w, r, rfl, h1, h⟩ := h
    have h' := h
    obtain ⟨w2, r2, rfl, h2, h3⟩ := h
    exact ⟨w, _, rfl, h1, RDs.dropLast h'⟩
def popD : D → List D → IH → R (D × IH) := fun o ds ih => match o, ds with
  | .ref n, [] => (match ih[n]? with
    | some (.lst xs) => (match xs[xs.length - 1]? with
      | some d => .ok (d, ih.set n (.lst xs.dropLast))
      | none => .stuck)
    | _ => .stuck)
  | _, _ => .stuck
theorem popD_ok : MeD g "list" "list.pop" isL popD := fun N lev sc W X G => by
  refine ⟨_, mt_pop, fun F m ih H d x hr rx e => isL_ty hr rx e, fun F m ih H σ Q d x ds xs hr rx rs h => ?_⟩
  unfold popD at h
  split at h
  · obtain ⟨a, rfl, hm⟩ := rx
    have e0 : xs = [] := rs
    subst e0
    split at h
    · rename_i hc
      obtain ⟨ob, ho, rc⟩ := hr.cell _ a _ hm hc (by intro z; cases z)
      split at h
      · rename_i e1
        cases ob with
        | lst vs =>
          obtain ⟨v, e2, r2⟩ := RDs.get rc e1
          have po := Post.write (o := .lst vs.dropLast) (c := .lst (List.dropLast _)) hr hm hc (by intro z; cases z) (RDs.dropLast rc)
          refine ⟨a, vs, v, rfl, rfl, ho, by rw [RDs.length rc]; exact e2, ?_⟩
          exact h m _ v po (po.rd hr r2)
        | _ => exact rc.elim
      · exact h.elim
    · exact h.elim
  · exact h.elim
end
end Dn

/-! Dn13: while, for. -/
namespace Dn
open PySem PySem.Spec PyProof.Rows L2

/-- slots forgotten -/
def wipeE (fg : List Nat) (env : Ev) : Ev := fg.foldl (fun e i => e.set i none) env
section
variable {g : GI} {N : List Str} {lev : Nat} {sc : Scope} {W : WX} {F : Addr → Prop} {m : List Addr} {ih : IH} {H : Hp} {σ : L2.St} {env : Ev} {D' : Ends}
theorem EvR.wipe {K : PySem.W.Frag} {B : Addr → Prop} : ∀ (fg : List Nat) {env : Ev}, EvR K H B m env σ → EvR K H B m (wipeE fg env) σ
  | [], _, h => h
  | i :: fg, env, h => EvR.wipe fg (env := env.set i none) ⟨by simp [h.len], fun j d e => by
      by_cases hj : i = j
      · subst hj
        by_cases hl : i < env.length
        · rw [List.getElem?_set_self hl] at e; cases e
        · rw [List.getElem?_eq_none (by simpa using hl)] at e; cases e
      · rw [List.getElem?_set_ne hj] at e
        exact h.get j d e⟩

/-! ### while -/
def dWhile (c : Ev → IH → R (D × IH)) (body : Ev → IH → RS) (fg : List Nat) : Nat → Ev → IH → RS
  | 0, _, _ => .stuck
  | k + 1, env, ih => bindS env (c env ih) fun r => match truD r.1 r.2 with
    | some true => (match body env r.2 with
      | .nx env' ih' => dWhile c body fg k (wipeE fg env') ih'
      | .ct env' ih' => dWhile c body fg k (wipeE fg env') ih'
      | .bk env' ih' => .nx env' ih'
      | r => r)
    | some false => .nx env r.2
    | none => .stuck
theorem ss_while {c : Ev → IH → R (D × IH)} {body : Ev → IH → RS} {ec : Expr} {b : List Stmt} {pos : Pos} (fuel : Nat) (fg : List Nat) (hc : ST g N lev sc c ec) (hb : SB g N lev sc body b) : SS g N lev sc (dWhile c body fg fuel) (.While ec b [] pos) := fun W X G => by
  refine PS.con (ps_while G.po (hc W X G) (hb W X G)) fun D' σ H q => ?_
  refine ⟨fun k σ H => ∃ F m ih env, HR g.K F m ih H ∧ EvR g.K H (Bd F m ih) m env σ ∧ FinS g W F m ih H D' (dWhile c body fg k env ih), ⟨fuel, q⟩, fun k σ H w => ?_⟩
  obtain ⟨F, m, ih, env, hr, er, q⟩ := w
  cases k with
  | zero => exact q.elim
  | succ k =>
    refine tT_S (k := fun d ih1 => match truD d ih1 with | some true => (match body env ih1 with | .nx env' ih' => dWhile c body fg k (wipeE fg env') ih' | .ct env' ih' => dWhile c body fg k (wipeE fg env') ih' | .bk env' ih' => .nx env' ih' | r => r) | some false => .nx env ih1 | none => .stuck) hr er q (fun d ih1 e => by simp only [e]) fun m1 H1 b d ih1 hr1 p1 e2 q1 => ?_
    simp only [e2] at q1
    have er1 := er.post hr p1
    cases b with
    | false => exact q1 m1 H1 σ (Post.refl hr1) er1
    | true =>
      refine ⟨fun σ H => ∃ F m ih env, HR g.K F m ih H ∧ EvR g.K H (Bd F m ih) m env σ ∧ FinS g W F m ih H D' (dWhile c body fg k env ih), fun σ' H' n => ⟨k, Nat.lt_succ_self k, n⟩, F, m1, ih1, env, hr1, er1, ?_⟩
      cases e3 : body env ih1 with
      | nx env' ih' => rw [e3] at q1; exact fun m2 H2 σ2 p2 r2 => ⟨F, m2, ih', wipeE fg env', p2.hr, r2.wipe fg, FinS.rebase hr1 p2 q1⟩
      | ct env' ih' => rw [e3] at q1; exact fun m2 H2 σ2 p2 r2 => ⟨F, m2, ih', wipeE fg env', p2.hr, r2.wipe fg, FinS.rebase hr1 p2 q1⟩
      | bk env' ih' => rw [e3] at q1; exact q1
      | rt _ _ => rw [e3] at q1; exact q1
      | exc _ _ _ _ => rw [e3] at q1; exact q1
      | stuck => rw [e3] at q1; exact q1

/-! ### what a for walks -/
/-- the iterator yields these -/
def ItG (H0 : Hp) (B0 : Addr → Prop) (J : It) (ps : List P) : Prop := ∀ H B, Kp H0 H B0 B →
  (∀ (i : Nat) p, ps[i]? = some p → J.go i H ∧ ∀ x H', J.yld i H x H' → (∀ a o, H a = some o → H' a = some o) ∧ RP H' B p x) ∧ J.stop ps.length H
def FinI (g : GI) (W : WX) (F : Addr → Prop) (m : List Addr) (ih : IH) (H : Hp) (σ : L2.St) (Q : It → Hp → Prop) : R (List P × IH) → Prop
  | .ok r => ∀ m' H' J, Post g.K F m ih H m' r.2 H' → ItG H' (Bd F m' r.2) J r.1 → Q J H'
  | .exc c fs ih' => ∀ m' H' cls dd, Post g.K F m ih H m' ih' H' → RX g H' (Bd F m' ih') c fs cls dd → W cls dd σ H'
  | .stuck => False
def tI (g : GI) (W : WX) (f : Ev → IH → R (List P × IH)) : TI := fun σ H Q => ∃ F m ih env, HR g.K F m ih H ∧ EvR g.K H (Bd F m ih) m env σ ∧ FinI g W F m ih H σ Q (f env ih)
def SI (g : GI) (N : List Str) (lev : Nat) (sc : Scope) (f : Ev → IH → R (List P × IH)) (tg iter : Expr) : Prop := ∀ W X, Gd g N lev sc W X → PI X tg iter (tI g W f)
theorem PI.con {X : Cx} {tg e : Expr} {t t' : TI} (h : PI X tg e t) (k : ∀ σ H Q, t' σ H Q → t σ H Q) : PI X tg e t' := ⟨fun pins s σ H Q I q => h.run pins s σ H Q I (k σ H Q q)⟩
theorem PI.or {X : Cx} {tg e : Expr} {t t' : TI} (h : PI X tg e t) (h' : PI X tg e t') : PI X tg e (fun σ H Q => t σ H Q ∨ t' σ H Q) := ⟨fun pins s σ H Q I q => q.elim (h.run pins s σ H Q I) (h'.run pins s σ H Q I)⟩
/-- an inline list, a tuple, a text -/
def seqP : P → Option (List P)
  | .lst xs => some xs
  | .tup xs => some xs
  | .str s => some (s.cps.toList.map fun c => .str ⟨#[c]⟩)
  | _ => none
def iSeq (f : Ev → IH → R (D × IH)) : Ev → IH → R (List P × IH) := fun env ih => (f env ih).bind fun r => match r.1 with
  | .pu p => (match seqP p with
    | some ps => .ok (ps, r.2)
    | none => .stuck)
  | _ => .stuck
theorem tD_I {f : Ev → IH → R (D × IH)} {k : D → IH → R (List P × IH)} {Q : It → Hp → Prop} {T : V → Hp → Prop} (hr : HR g.K F m ih H) (er : EvR g.K H (Bd F m ih) m env σ) (h : FinI g W F m ih H σ Q ((f env ih).bind fun r => k r.1 r.2))
    (hT : ∀ m1 H1 x d ih1, f env ih = .ok (d, ih1) → HR g.K F m1 ih1 H1 → Post g.K F m ih H m1 ih1 H1 → RD g.K H1 (Bd F m1 ih1) m1 d x → FinI g W F m1 ih1 H1 σ Q (k d ih1) → T x H1) : tD g W f σ H T := by
  refine ⟨F, m, ih, env, hr, er, ?_⟩
  cases e : f env ih with
  | ok r =>
    rw [e] at h
    intro m1 H1 v p1 r1
    refine hT m1 H1 v r.1 r.2 (by rw [e]) p1.hr p1 r1 ?_
    have h : FinI g W F m ih H σ Q (k r.1 r.2) := h
    cases e2 : k r.1 r.2 with
    | ok x => rw [e2] at h; exact fun m2 H2 J p2 r2 => h m2 H2 J (p1.trans hr p2) r2
    | exc c fs i => rw [e2] at h; exact fun m2 H2 cls dd p2 r2 => h m2 H2 cls dd (p1.trans hr p2) r2
    | stuck => rw [e2] at h; exact h
  | exc c fs ih2 => rw [e] at h; exact h
  | stuck => rw [e] at h; exact h
theorem itg_list {a : Addr} {vs : List V} {ps : List P} (hr : HR g.K F m ih H) (h1 : H a = some (.lst vs)) (nb : ¬ Bd F m ih a) (h2 : RPs H (Bd F m ih) ps vs) : ItG H (Bd F m ih) (Itl g.K a) ps := fun H' B' k => by
  have e : H' a = some (.lst vs) := k.lst a vs nb h1
  have h3 := RPs.mono k _ _ h2
  refine ⟨fun i p hp => ?_, vs, .of e, by rw [h3.length]; exact Nat.le_refl _⟩
  obtain ⟨v, e1, r1⟩ := h3.get hp
  refine ⟨⟨vs, v, .of e, e1⟩, fun x H2 y => ?_⟩
  obtain ⟨rfl, y⟩ := y
  have := y vs (.of e)
  rw [e1] at this
  cases this
  exact ⟨fun _ _ z => z, r1⟩
theorem itg_tup {a : Addr} {vs : List V} {ps : List P} (hr : HR g.K F m ih H) (h1 : H a = some (.tup vs)) (h2 : RPs H (Bd F m ih) ps vs) : ItG H (Bd F m ih) (Itt g.K a) ps := fun H' B' k => by
  have e : H' a = some (.tup vs) := k.tup a vs h1
  have h3 := RPs.mono k _ _ h2
  refine ⟨fun i p hp => ?_, vs, .of e, by rw [h3.length]; exact Nat.le_refl _⟩
  obtain ⟨v, e1, r1⟩ := h3.get hp
  refine ⟨⟨vs, v, .of e, e1⟩, fun x H2 y => ?_⟩
  obtain ⟨rfl, y⟩ := y
  have := y vs (.of e)
  rw [e1] at this
  cases this
  exact ⟨fun _ _ z => z, r1⟩
theorem itg_str {s : Str} : ItG H (Bd F m ih) (Its s) (s.cps.toList.map fun c => .str ⟨#[c]⟩) := fun H' B' k => by
  refine ⟨fun i p hp => ?_, by simp [Its]⟩
  rw [List.getElem?_map] at hp
  obtain ⟨c, e1, e2⟩ := Option.map_eq_some_iff.mp hp
  subst e2
  have hl : i < s.cps.size := by
    have := (List.getElem?_eq_some_iff.mp e1).1
    simpa using this
  refine ⟨hl, fun x H2 y => ?_⟩
  obtain ⟨rfl, c', e3, rfl⟩ := y
  have e4 : s.cps[i]? = some c := by simpa using e1
  rw [e4] at e3
  cases e3
  exact ⟨fun _ _ z => z, rfl⟩
theorem si_seq {f : Ev → IH → R (D × IH)} {tg e : Expr} (he : SE g N lev sc f e) : SI g N lev sc (iSeq f) tg e := fun W X G => by
  refine PI.con (PI.or (pi_list (he W X G)) (PI.or (pi_tup (he W X G)) (pi_str (he W X G)))) fun σ H Q q => ?_
  obtain ⟨F, m, ih, env, hr, er, q⟩ := q
  have q0 := q
  unfold iSeq at q
  cases e1 : f env ih with
  | exc c fs i =>
    left
    refine ⟨F, m, ih, env, hr, er, ?_⟩
    rw [e1] at q ⊢
    exact q
  | stuck => rw [e1] at q; exact q.elim
  | ok r =>
    obtain ⟨d, ih1⟩ := r
    rw [e1] at q
    simp only [R.bind] at q
    have step : ∀ {T : V → Hp → Prop}, (∀ m1 H1 x, HR g.K F m1 ih1 H1 → Post g.K F m ih H m1 ih1 H1 → RD g.K H1 (Bd F m1 ih1) m1 d x → T x H1) → tD g W f σ H T := fun {T} hT => by
      refine ⟨F, m, ih, env, hr, er, ?_⟩
      rw [e1]
      exact fun m1 H1 x p1 r1 => hT m1 H1 x p1.hr p1 r1
    cases d with
    | ref n => exact q.elim
    | scr n => exact q.elim
    | ke => exact q.elim
    | tz _ => exact q.elim
    | pu p =>
      cases p with
      | lst ps =>
        left
        refine step fun m1 H1 x hr1 p1 rx => ?_
        obtain ⟨a, vs, rfl, h1, nb, h2⟩ := rx
        exact ⟨a, rfl, ⟨vs, .of h1⟩, q m1 H1 _ p1 (by rw [G.K]; exact itg_list hr1 h1 nb h2)⟩
      | tup ps =>
        right; left
        refine step fun m1 H1 x hr1 p1 rx => ?_
        obtain ⟨a, vs, rfl, h1, h2⟩ := rx
        exact ⟨a, rfl, ⟨vs, .of h1⟩, q m1 H1 _ p1 (by rw [G.K]; exact itg_tup hr1 h1 h2)⟩
      | str s =>
        right; right
        refine step fun m1 H1 x hr1 p1 rx => ?_
        cases rx
        exact ⟨s, rfl, q m1 H1 _ p1 itg_str⟩
      | _ => exact q.elim
/-- range -/
def iotaP (lo : Int) : Nat → List P
  | 0 => []
  | n + 1 => .int lo :: iotaP (lo + 1) n
theorem iota_len (n : Nat) : ∀ lo : Int, (iotaP lo n).length = n := by
  induction n with
  | zero => intro lo; rfl
  | succ n ih => intro lo; simp [iotaP, ih]
theorem iota_get : ∀ (n : Nat) (lo : Int) (i : Nat) (p : P), (iotaP lo n)[i]? = some p → i < n ∧ p = .int (lo + i)
  | 0, _, _, _, e => by simp [iotaP] at e
  | n + 1, lo, 0, p, e => by cases e; exact ⟨Nat.succ_pos _, by simp⟩
  | n + 1, lo, i + 1, p, e => by
    obtain ⟨a, b⟩ := iota_get n (lo + 1) i p (by simpa [iotaP] using e)
    exact ⟨Nat.succ_lt_succ a, by rw [b]; congr 1; omega⟩
theorem itg_range {lo : Int} {n : Nat} : ItG H (Bd F m ih) (Itr lo n) (iotaP lo n) := fun H' B' k => by
  refine ⟨fun i p hp => ?_, by rw [iota_len]; exact Nat.le_refl _⟩
  obtain ⟨hl, rfl⟩ := iota_get n lo i p hp
  exact ⟨hl, fun x H2 ⟨h1, h2⟩ => by subst h1; subst h2; exact ⟨fun _ _ z => z, rfl⟩⟩
def iR1 (f : Ev → IH → R (D × IH)) : Ev → IH → R (List P × IH) := fun env ih => (dArgs [f] env ih).bind fun r => match r.1 with
  | [.pu (.int n)] => if decide (-4611686018427387904 ≤ n) && decide (n < 4611686018427387904) then .ok (iotaP 0 n.toNat, r.2) else .stuck
  | _ => .stuck
def iR2 (f h : Ev → IH → R (D × IH)) : Ev → IH → R (List P × IH) := fun env ih => (dArgs [f, h] env ih).bind fun r => match r.1 with
  | [.pu (.int a), .pu (.int b)] => if (decide (-4611686018427387904 ≤ a) && decide (a < 4611686018427387904)) && (decide (-4611686018427387904 ≤ b) && decide (b < 4611686018427387904)) then .ok (iotaP a (b - a).toNat, r.2) else .stuck
  | _ => .stuck
theorem tA_I {fs : List (Ev → IH → R (D × IH))} {k : List D → IH → R (List P × IH)} {Q : It → Hp → Prop} {T : List V → Hp → Prop} (hr : HR g.K F m ih H) (er : EvR g.K H (Bd F m ih) m env σ) (h : FinI g W F m ih H σ Q ((dArgs fs env ih).bind fun r => k r.1 r.2))
    (hT : ∀ m1 H1 x d ih1, HR g.K F m1 ih1 H1 → Post g.K F m ih H m1 ih1 H1 → RDs g.K H1 (Bd F m1 ih1) m1 d x → FinI g W F m1 ih1 H1 σ Q (k d ih1) → T x H1) : tA g W fs σ H T := by
  refine ⟨F, m, ih, env, hr, er, ?_⟩
  cases e : dArgs fs env ih with
  | ok r =>
    rw [e] at h
    intro m1 H1 v p1 r1
    refine hT m1 H1 v r.1 r.2 p1.hr p1 r1 ?_
    have h : FinI g W F m ih H σ Q (k r.1 r.2) := h
    cases e2 : k r.1 r.2 with
    | ok x => rw [e2] at h; exact fun m2 H2 J p2 r2 => h m2 H2 J (p1.trans hr p2) r2
    | exc c fs i => rw [e2] at h; exact fun m2 H2 cls dd p2 r2 => h m2 H2 cls dd (p1.trans hr p2) r2
    | stuck => rw [e2] at h; exact h
  | exc c fs ih2 => rw [e] at h; exact h
  | stuck => rw [e] at h; exact h
theorem si_range1 {f : Ev → IH → R (D × IH)} {tg e : Expr} {p pos : Pos} (hg : sc.names.lookup ("range" : Str) = some .globalImplicit) (hm : g.mg "range" = none) (ha : SA g N lev sc [f] [e]) : SI g N lev sc (iR1 f) tg (.Call (.Name "range" p) [e] [] pos) := fun W X G => by
  refine PI.con (pi_range1 (G.scp.gl hg) (by rw [G.mg]; exact hm) (pa_of G ha) ha.star) fun σ H Q q => ?_
  obtain ⟨F, m, ih, env, hr, er, q⟩ := q
  refine tA_I (k := fun ds ih1 => match ds with | [.pu (.int n)] => if decide (-4611686018427387904 ≤ n) && decide (n < 4611686018427387904) then .ok (iotaP 0 n.toNat, ih1) else .stuck | _ => .stuck) hr er q fun m1 H1 xs ds ih1 hr1 p1 rx q1 => ?_
  split at q1
  · obtain ⟨x, rfl, r1⟩ := rx.one
    cases r1
    split at q1
    · rename_i z
      obtain ⟨z1, z2⟩ := Bool.and_eq_true_iff.mp z
      have z1 := of_decide_eq_true z1
      have z2 := of_decide_eq_true z2
      exact ⟨_, rfl, by omega, by omega, q1 m1 H1 _ (Post.refl hr1) itg_range⟩
    · exact q1.elim
  · exact q1.elim
theorem si_range2 {f h : Ev → IH → R (D × IH)} {tg e e2 : Expr} {p pos : Pos} (hg : sc.names.lookup ("range" : Str) = some .globalImplicit) (hm : g.mg "range" = none) (ha : SA g N lev sc [f, h] [e, e2]) : SI g N lev sc (iR2 f h) tg (.Call (.Name "range" p) [e, e2] [] pos) := fun W X G => by
  have hs2 : starEach [e2] X.env = [(false, eval e2 X.env)] := by
    cases ha with
    | cons _ _ h3 => exact h3.star
  refine PI.con (pi_range2 (G.scp.gl hg) (by rw [G.mg]; exact hm) (pa_of G ha) (by rw [ha.star, hs2]) hs2) fun σ H Q q => ?_
  obtain ⟨F, m, ih, env, hr, er, q⟩ := q
  refine tA_I (k := fun ds ih1 => match ds with | [.pu (.int a), .pu (.int b)] => if (decide (-4611686018427387904 ≤ a) && decide (a < 4611686018427387904)) && (decide (-4611686018427387904 ≤ b) && decide (b < 4611686018427387904)) then .ok (iotaP a (b - a).toNat, ih1) else .stuck | _ => .stuck) hr er q fun m1 H1 xs ds ih1 hr1 p1 rx q1 => ?_
  split at q1
  · obtain ⟨x, y, rfl, r1, r2⟩ := rx.two
    cases r1
    cases r2
    split at q1
    · rename_i z
      simp only [Bool.and_eq_true, decide_eq_true_eq] at z
      exact ⟨_, _, rfl, ⟨by omega, by omega, by omega, by omega⟩, q1 m1 H1 _ (Post.refl hr1) itg_range⟩
    · exact q1.elim
  · exact q1.elim

/-! ### for -/
def dForL (h : P → Ev → Option Ev) (body : Ev → IH → RS) (fg : List Nat) : List P → Ev → IH → RS
  | [], env, ih => .nx env ih
  | p :: ps, env, ih => match h p env with
    | none => .stuck
    | some env1 => (match body env1 ih with
      | .nx env' ih' => dForL h body fg ps (wipeE fg env') ih'
      | .ct env' ih' => dForL h body fg ps (wipeE fg env') ih'
      | .bk env' ih' => .nx env' ih'
      | r => r)
def dFor (h : P → Ev → Option Ev) (src : Ev → IH → R (List P × IH)) (body : Ev → IH → RS) (fg : List Nat) : Ev → IH → RS := fun env ih => bindS env (src env ih) fun r => dForL h body fg r.1 env r.2
/-- the loop over what the iterator yields -/
theorem for_core {X : Cx} {h : P → Ev → Option Ev} {sl : List Nat} {body : Ev → IH → RS} {fg : List Nat} {J : It} {ps : List P} (G : Gd g N lev sc W X) (hr : HR g.K F m ih H) (er : EvR g.K H (Bd F m ih) m env σ) (itg : ItG H (Bd F m ih) J ps) (q : FinS g W F m ih H D' (dForL h body fg ps env ih)) :
    ∃ Wm : Nat → Nat → L2.St → Hp → Prop, (∃ k, Wm 0 k σ H) ∧ ∀ i k σ H, Wm i k σ H →
      (J.stop i H ∧ D'.nx σ H) ∨ (J.go i H ∧ ∃ Nn : L2.St → Hp → Prop, (∀ σ' H', Nn σ' H' → ∃ k', k' < k ∧ Wm (i + 1) k' σ' H') ∧ ∀ x H', J.yld i H x H' → tG g h sl x σ H' fun σ2 H2 => tS g W body { D' with nx := Nn, ct := Nn, bk := D'.nx } σ2 H2) := by
  refine ⟨fun i k σ1 H1 => ∃ m1 ih1 env1, Post g.K F m ih H m1 ih1 H1 ∧ EvR g.K H1 (Bd F m1 ih1) m1 env1 σ1 ∧ i + k = ps.length ∧ FinS g W F m1 ih1 H1 D' (dForL h body fg (ps.drop i) env1 ih1),
    ⟨ps.length, m, ih, env, Post.refl hr, er, by omega, by simpa using q⟩, fun i k σ1 H1 w => ?_⟩
  obtain ⟨m1, ih1, env1, p1, er1, hk, q1⟩ := w
  obtain ⟨it1, it2⟩ := itg H1 _ (p1.kp hr)
  by_cases hi : i < ps.length
  · right
    have ep : ps[i]? = some ps[i] := List.getElem?_eq_getElem hi
    obtain ⟨go, yl⟩ := it1 i _ ep
    rw [List.drop_eq_getElem_cons hi] at q1
    rw [dForL] at q1
    refine ⟨go, fun σ' H' => ∃ m2 ih2 env2, Post g.K F m ih H m2 ih2 H' ∧ EvR g.K H' (Bd F m2 ih2) m2 env2 σ' ∧ FinS g W F m2 ih2 H' D' (dForL h body fg (ps.drop (i + 1)) env2 ih2), fun σ' H' nn => ?_, fun x H' y => ?_⟩
    · obtain ⟨m2, ih2, env2, a, b, c⟩ := nn
      exact ⟨k - 1, by omega, m2, ih2, env2, a, b, by omega, c⟩
    · obtain ⟨keep, rx⟩ := yl x H' y
      have pk : Post g.K F m1 ih1 H1 m1 ih1 H' := Post.kept p1.hr keep
      have erk := er1.post p1.hr pk
      cases e1 : h ps[i] env1 with
      | none => rw [e1] at q1; exact q1.elim
      | some env2 =>
        rw [e1] at q1
        simp only at q1
        refine ⟨F, m1, ih1, env1, ps[i], pk.hr, erk, rx, env2, e1, fun σ2 er2 _ => ?_⟩
        refine ⟨F, m1, ih1, env2, pk.hr, er2, ?_⟩
        have q2 := FinS.rebase p1.hr pk q1
        have pp := p1.trans hr pk
        cases e2 : body env2 ih1 with
        | nx env' ih' => rw [e2] at q2; exact fun m3 H3 σ3 p3 r3 => ⟨m3, ih', wipeE fg env', pp.trans hr p3, r3.wipe fg, FinS.rebase pk.hr p3 q2⟩
        | ct env' ih' => rw [e2] at q2; exact fun m3 H3 σ3 p3 r3 => ⟨m3, ih', wipeE fg env', pp.trans hr p3, r3.wipe fg, FinS.rebase pk.hr p3 q2⟩
        | bk env' ih' => rw [e2] at q2; exact q2
        | rt _ _ => rw [e2] at q2; exact q2
        | exc _ _ _ _ => rw [e2] at q2; exact q2
        | stuck => rw [e2] at q2; exact q2
  · left
    have ei : i = ps.length := by omega
    subst ei
    rw [List.drop_length] at q1
    exact ⟨it2, q1 m1 H1 σ1 (Post.refl p1.hr) er1⟩
def notSet : Expr → Bool
  | .Set .. => false
  | _ => true
theorem folded_plain {e : Expr} (h : notSet e = true) (env : Env) (x : Value) : foldedSetIterable e env x = pure x := by
  cases e <;> first | rfl | cases h
theorem ss_for {h : P → Ev → Option Ev} {sl : List Nat} {src : Ev → IH → R (List P × IH)} {body : Ev → IH → RS} {tg iter : Expr} {b : List Stmt} {pos : Pos} (fg : List Nat) (hi : SI g N lev sc src tg iter) (hg : SG g N lev sc h sl tg) (hb : SB g N lev sc body b) (hs : notSet iter = true) : SS g N lev sc (dFor h src body fg) (.For tg iter b [] pos) := fun W X G => by
  refine PS.con (ps_for G.po G.calm (hi W X G) (hg W X G) (hb W X G) (folded_plain hs X.env)) fun D' σ H q => ?_
  obtain ⟨F, m, ih, env, hr, er, q⟩ := q
  refine ⟨F, m, ih, env, hr, er, ?_⟩
  unfold dFor at q
  cases e : src env ih with
  | ok r =>
    rw [e] at q
    exact fun m1 H1 J p1 itg => for_core G p1.hr (er.post hr p1) itg (FinS.rebase hr p1 q)
  | exc c fs i =>
    rw [e] at q
    exact fun m1 H1 cls dd p1 r1 => q m1 H1 σ cls dd p1 (er.post hr p1) r1
  | stuck => rw [e] at q; exact q.elim
end
end Dn

/-! Dn14: comprehensions. -/
namespace Dn
open PySem PySem.Spec PyProof.Rows L2
/-- a list or a dict, not locked -/
def isCo : HO → Bool
  | .lst _ => true
  | .dK _ => true
  | .dT _ => true
  | _ => false
section
variable {g : GI} {N : List Str} {lev : Nat} {sc : Scope} {W : WX} {F : Addr → Prop} {m m' : List Addr} {ih ih' : IH} {H H' : Hp} {σ : L2.St} {env : Ev} {B : Addr → Prop}
theorem Kp.foreign {a : Addr} {o0 o : HO} (ha : H a = some o0) (hB : B a) (h0 : isCo o0 = true) : Kp H (upd H a o) B B := by
  have ne : ∀ b o', H b = some o' → isCo o' = false → b ≠ a := fun b o' e c z => by
    subst z
    rw [ha] at e
    cases e
    rw [h0] at c
    cases c
  have nb : ∀ b, ¬ B b → b ≠ a := fun b n z => n (z ▸ hB)
  exact ⟨fun b vs e => by rw [upd_ne (ne b _ e rfl)]; exact e, fun b vs n e => by rw [upd_ne (nb b n)]; exact e, fun b o' u e => by rw [upd_ne (ne b _ e rfl)]; exact e,fun b n z => absurd z n⟩
theorem HR.foreign {a : Addr} {o0 o : HO} (hr : HR g.K F m ih H) (fa : F a) (ha : H a = some o0) (h0 : isCo o0 = true) : HR g.K F m ih (upd H a o) := by
  have kp := Kp.foreign (o := o) (B := Bd F m ih) ha (.inl fa) h0
  have tr : ∀ b, H b ≠ none → (upd H a o) b ≠ none := fun b h => by
    by_cases e : b = a
    · rw [e, upd_same]; exact fun z => by cases z
    · rw [upd_ne e]; exact h
  refine ⟨hr.len, hr.nd, fun n b c h1 h2 h3 => ?_, hr.nf, fun b h => tr b (hr.tr b h), fun b h => tr b (hr.ft b h)⟩
  obtain ⟨ob, e, r⟩ := hr.cell n b c h1 h2 h3
  have hb : b ≠ a := fun z => hr.nf b ⟨n, c, h1, h2, h3⟩ (z ▸ fa)
  exact ⟨ob, by rw [upd_ne hb]; exact e, ContR.mono kp (fun _ _ e => e) r⟩
/-- what a foreign object holds does not matter -/
theorem Post.zed {a : Addr} {o0 o : HO} (hr : HR g.K F m ih H) (p : Post g.K F m ih H m' ih' H') (fa : F a) (ha : H a = some o0) (h0 : isCo o0 = true) : Post g.K F m ih (upd H a o) m' ih' (upd H' a o) := by
  have nl : ¬ Lv m ih a := fun l => hr.nf a l fa
  have ha' : H' a = some o0 := p.frame a o0 ha nl
  have up : ∀ b, (upd H a o) b = none → H b = none := fun b e => by
    by_cases z : b = a
    · rw [z, upd_same] at e; cases e
    · rw [upd_ne z] at e; exact e
  have dn : ∀ b, H b = none → (upd H a o) b = none := fun b e => by
    have z : b ≠ a := fun z => by rw [z, ha] at e; cases e
    rw [upd_ne z]; exact e
  obtain ⟨ms, e1, f1⟩ := p.ext
  refine ⟨⟨ms, e1, fun b hb => dn b (f1 b hb)⟩, fun b ob e l => ?_, fun b l => (p.lv b l).imp id (dn b), p.hr.foreign fa ha' h0⟩
  by_cases z : b = a
  · subst z
    rw [upd_same] at e ⊢
    exact e
  · rw [upd_ne z] at e ⊢
    exact p.frame b ob e l
/-- a new object D that is being filled: foreign meanwhile -/
def F1 (F : Addr → Prop) (D : Addr) : Addr → Prop := fun a => F a ∨ a = D
theorem kp_open {D : Addr} {o : HO} (hD : H D = none) : Kp H (upd H D o) (Bd F m ih) (Bd (F1 F D) m ih) := by
  have k := upd_kept (o := o) hD
  refine ⟨fun a vs e => k a _ e, fun a _ _ e => k a _ e, fun a _ _ e => k a _ e, fun a n z => ?_⟩
  rcases z with (z | z) | z
  · exact absurd (.inl z) n
  · rw [z]; exact hD
  · exact absurd (.inr z) n
theorem HR.open1 {D : Addr} {o : HO} (hr : HR g.K F m ih H) (hD : H D = none) : HR g.K (F1 F D) m ih (upd H D o) := by
  have k := upd_kept (o := o) hD
  refine ⟨hr.len, hr.nd, fun n a c h1 h2 h3 => ?_, fun a l z => ?_, fun a h => kept_ne k (hr.tr a h), fun a h => ?_⟩
  · obtain ⟨ob, e, r⟩ := hr.cell n a c h1 h2 h3
    exact ⟨ob, k a ob e, ContR.mono (kp_open hD) (fun _ _ e => e) r⟩
  · rcases z with z | z
    · exact hr.nf a l z
    · exact hr.tr a l.lt (by rw [z]; exact hD)
  · rcases h with h | h
    · exact kept_ne k (hr.ft a h)
    · rw [h, upd_same]; exact fun z => by cases z
theorem bd_less {D : Addr} : ∀ a, Bd F m ih a → Bd (F1 F D) m ih a := fun a h => h.elim (fun z => .inl (.inl z)) .inr
/-- the object is ready: it is data from then on -/
theorem post_inline {D : Addr} {o z : HO} (hr : HR g.K F m ih H) (hD : H D = none) (p : Post g.K (F1 F D) m ih (upd H D z) m' ih' (upd H' D z)) (hr' : HR g.K (F1 F D) m' ih' H') (h' : H' D = some o) : Post g.K F m ih H m' ih' H' ∧ ¬ Bd F m' ih' D := by
  have up : ∀ b, (upd H D z) b = none → H b = none := fun b e => by
    by_cases y : b = D
    · rw [y]; exact hD
    · rw [upd_ne y] at e; exact e
  obtain ⟨ms, e1, f1⟩ := p.ext
  refine ⟨⟨⟨ms, e1, fun b hb => up b (f1 b hb)⟩, fun b ob e l => ?_, fun b l => (p.lv b l).imp id (up b), ⟨hr'.len, hr'.nd, fun n a c h1 h2 h3 => ?_, fun a l y => hr'.nf a l (.inl y), hr'.tr, fun a y => hr'.ft a (.inl y)⟩⟩, ?_⟩
  · have y : b ≠ D := ne_of_none e hD
    have q := p.frame b ob (by rw [upd_ne y]; exact e) l
    rw [upd_ne y] at q
    exact q
  · obtain ⟨ob, e, r⟩ := hr'.cell n a c h1 h2 h3
    exact ⟨ob, e, ContR.mono (Kp.less bd_less) (fun _ _ e => e) r⟩
  · rintro (y | y)
    · exact hr.ft D y hD
    · exact hr'.nf D y (.inr rfl)
/-- the object is ready: it is a cell from then on -/
theorem post_cell {D : Addr} {o z : HO} {c : Cl} (hr : HR g.K F m ih H) (hD : H D = none) (p : Post g.K (F1 F D) m ih (upd H D z) m' ih' (upd H' D z)) (hr' : HR g.K (F1 F D) m' ih' H') (h' : H' D = some o) (hc : ContR g.K H' (Bd (F1 F D) m' ih') m' c o) (nd : c ≠ .dead) :
    Post g.K F m ih H (m' ++ [D]) (ih' ++ [c]) H' := by
  obtain ⟨pi, nb⟩ := post_inline hr hD p hr' h'
  have np : D ∉ m' := fun z => by
    obtain ⟨ms, e1, f1⟩ := pi.ext
    rw [e1] at z
    rcases List.mem_append.mp z with z | z
    · exact hr.tr D z hD
    · obtain ⟨ms2, e2, f2⟩ := p.ext
      rw [e1] at e2
      have : ms = ms2 := List.append_cancel_left e2
      subst this
      have q := f2 D z
      rw [upd_same] at q
      cases q
  have lvs : ∀ a, Lv (m' ++ [D]) (ih' ++ [c]) a → Lv m' ih' a ∨ a = D := fun a ⟨n, c', h1, h2, h3⟩ => by
    by_cases hn : n < m'.length
    · rw [List.getElem?_append_left hn] at h1
      rw [List.getElem?_append_left (by rw [← hr'.len]; exact hn)] at h2
      exact .inl ⟨n, c', h1, h2, h3⟩
    · right
      rw [List.getElem?_append_right (by omega)] at h1
      cases e : n - m'.length with
      | zero => rw [e] at h1; exact (Option.some.inj h1).symm
      | succ k => rw [e] at h1; simp at h1
  have hix : ∀ (n : Nat) a, m'[n]? = some a → (m' ++ [D])[n]? = some a := fun n a e => by
    rw [List.getElem?_append_left (List.getElem?_eq_some_iff.mp e).1]; exact e
  have kp : Kp H' H' (Bd (F1 F D) m' ih') (Bd F (m' ++ [D]) (ih' ++ [c])) := Kp.less fun a z => by
    rcases z with z | z
    · exact .inl (.inl z)
    · rcases lvs a z with l | l
      · exact .inr l
      · exact .inl (.inr l)
  obtain ⟨ms, e1, f1⟩ := pi.ext
  refine ⟨⟨ms ++ [D], by rw [e1, List.append_assoc], fun a z => ?_⟩, pi.frame, fun a l => ?_, ⟨by simp [hr'.len], ?_, fun n a c' h1 h2 h3 => ?_, fun a l z => ?_, fun a z => ?_, pi.hr.ft⟩⟩
  · rcases List.mem_append.mp z with z | z
    · exact f1 a z
    · rw [List.mem_singleton.mp z]; exact hD
  · rcases lvs a l with l | l
    · exact pi.lv a l
    · right; rw [l]; exact hD
  · exact List.nodup_append.mpr ⟨hr'.nd, by simp, fun a ha b hb => by rw [List.mem_singleton.mp hb]; exact fun z => np (z ▸ ha)⟩
  · by_cases hn : n < m'.length
    · rw [List.getElem?_append_left hn] at h1
      rw [List.getElem?_append_left (by rw [← hr'.len]; exact hn)] at h2
      obtain ⟨o', e, r⟩ := hr'.cell n a c' h1 h2 h3
      exact ⟨o', e, ContR.mono kp hix r⟩
    · rw [List.getElem?_append_right (by omega)] at h1
      rw [List.getElem?_append_right (by rw [← hr'.len]; omega)] at h2
      have e0 : n - m'.length = 0 := by
        cases e : n - m'.length with
        | zero => rfl
        | succ k => rw [e] at h1; simp at h1
      rw [e0] at h1
      rw [← hr'.len, e0] at h2
      cases Option.some.inj h1
      cases Option.some.inj h2
      exact ⟨o, h', ContR.mono kp hix hc⟩
  · rcases lvs a l with l | l
    · exact pi.hr.nf a l z
    · rw [l] at z; exact hr.ft D z hD
  · rcases List.mem_append.mp z with z | z
    · exact hr'.tr a z
    · rw [List.mem_singleton.mp z, h']; exact fun z => by cases z

/-! ### the block -/
theorem wipe_get (σ : L2.St) : ∀ (vs : List Nat) (j : Nat), (wipe σ vs)[j]? = if j ∈ vs then (if j < σ.length then some none else none) else σ[j]?
  | [], j => by simp [wipe]
  | v :: vs, j => by
    unfold wipe
    by_cases e : v = j
    · subst e
      rw [if_pos List.mem_cons_self]
      by_cases hl : v < σ.length
      · rw [if_pos hl, List.getElem?_set_self (by rw [wipe_length]; exact hl)]
      · rw [if_neg hl, List.getElem?_eq_none (by rw [List.length_set, wipe_length]; omega)]
    · rw [List.getElem?_set_ne e, wipe_get σ vs j]
      have : (j ∈ v :: vs) = (j ∈ vs) := by simp [List.mem_cons, Ne.symm e]
      simp only [this]
theorem wipe_same {σ σ' : L2.St} {vs sl : List Nat} (h : SmB sl (wipe σ vs) σ') (hs : ∀ j ∈ sl, j ∈ vs) : wipe σ' vs = wipe σ vs := by
  refine List.ext_getElem? fun j => ?_
  rw [wipe_get, wipe_get]
  have hl : σ'.length = σ.length := by rw [h.1, wipe_length]
  by_cases hj : j ∈ vs
  · rw [if_pos hj, if_pos hj, hl]
  · rw [if_neg hj, if_neg hj, h.2 j (fun z => hj (hs j z)), wipe_get, if_neg hj]
theorem wipeE_get : ∀ (fg : List Nat) (env : Ev) (j : Nat) (d : D), (wipeE fg env)[j]? = some (some d) → env[j]? = some (some d) ∧ j ∉ fg
  | [], env, j, d, h => ⟨h, by simp⟩
  | i :: fg, env, j, d, h => by
    obtain ⟨h1, h2⟩ := wipeE_get fg (env.set i none) j d h
    have hij : i ≠ j := fun e => by
      subst e
      by_cases hl : i < env.length
      · rw [List.getElem?_set_self hl] at h1; cases h1
      · rw [List.getElem?_eq_none (by simpa using hl)] at h1; cases h1
    rw [List.getElem?_set_ne hij] at h1
    exact ⟨h1, by simp [List.mem_cons, Ne.symm hij, h2]⟩
theorem wipeE_length : ∀ (fg : List Nat) (env : Ev), (wipeE fg env).length = env.length
  | [], _ => rfl
  | i :: fg, env => by
    show (wipeE fg (env.set i none)).length = _
    rw [wipeE_length fg, List.length_set]
theorem EvR.block {K : PySem.W.Frag} (er : EvR K H B m env σ) (vs : List Nat) : EvR K H B m (wipeE vs env) (L2.wipe σ vs) :=
  ⟨by rw [wipeE_length, wipe_length, er.len], fun j d h => by
    obtain ⟨h1, h2⟩ := wipeE_get vs env j d h
    obtain ⟨v, e, r⟩ := er.get j d h1
    exact ⟨v, by rw [wipe_get, if_neg h2]; exact e, r⟩⟩
theorem relabel_same {env : Env} : ∀ (ns : List (Str × NameKind)) (x : Str), ns.lookup x ≠ some .free → (ns.map fun (n, k) => if (k == NameKind.free && env.scope.kind == .function && env.kindOf n == some .cell) then (n, NameKind.cell) else (n, k)).lookup x = ns.lookup x
  | [], _, _ => rfl
  | (n, k) :: r, x, h => by
    simp only [List.map_cons]
    by_cases e : (x == n) = true
    · rw [List.lookup_cons, e] at h
      have hk : (k == NameKind.free) = false := by cases k <;> first | rfl | exact absurd rfl h
      simp only [hk, Bool.false_and, Bool.false_eq_true, if_false, List.lookup_cons, e]
    · have e : (x == n) = false := by cases z : x == n <;> simp_all
      rw [List.lookup_cons, e] at h
      have q := relabel_same (env := env) r x h
      split
      · rw [List.lookup_cons, e, List.lookup_cons, e]; exact q
      · rw [List.lookup_cons, e, List.lookup_cons, e]; exact q
theorem relabel_free {env : Env} : ∀ (ns : List (Str × NameKind)) (x : Str), ns.lookup x = some .free → (ns.map fun (n, k) => if (k == NameKind.free && env.scope.kind == .function && env.kindOf n == some .cell) then (n, NameKind.cell) else (n, k)).lookup x = some .free ∨ (ns.map fun (n, k) => if (k == NameKind.free && env.scope.kind == .function && env.kindOf n == some .cell) then (n, NameKind.cell) else (n, k)).lookup x = some .cell
  | [], _, h => by cases h
  | (n, k) :: r, x, h => by
    simp only [List.map_cons]
    by_cases e : (x == n) = true
    · rw [List.lookup_cons, e] at h
      cases h
      split
      · right; rw [List.lookup_cons, e]
      · left; rw [List.lookup_cons, e]
    · have e : (x == n) = false := by cases z : x == n <;> simp_all
      rw [List.lookup_cons, e] at h
      have q := relabel_free (env := env) r x h
      split
      · rw [List.lookup_cons, e]; exact q
      · rw [List.lookup_cons, e]; exact q
theorem sce_blk {scope : Scope} {env : Env} : ScE scope (relabel scope env) := ⟨rfl, fun x h => relabel_same scope.names x h, fun x h => relabel_free scope.names x h⟩
theorem Gd.blk {X : Cx} (G : Gd g N lev sc W X) {scope : Scope} (s : Shared) (H : Hp) (C : Addr) (cl : List (Str × Addr)) (fp : List Addr) : Gd g N lev scope (fun _ _ _ _ => False) (X.blk s H scope (compEnvC scope cl C X.env) fp) :=
  ⟨G.prog, G.w, G.K, G.mg, G.base, G.nm, G.nd, sce_blk, G.calm, G.room, G.gd, fun x h => by show (scope.names.lookup x == some .cell) = true; rw [h]; rfl, takes0, PassesOwn.never⟩
/-- no exception -/
def noX {α : Type} : R α → R α
  | .exc _ _ _ => .stuck
  | r => r
def dTests : Option (Ev → IH → R (D × IH)) → Ev → IH → R (Bool × IH)
  | none, _, ih => .ok (true, ih)
  | some t, env, ih => (noX (t env ih)).bind fun r => match truD r.1 r.2 with
    | some b => .ok (b, r.2)
    | none => .stuck
/-- the turns of a list comprehension -/
def dLcL (h : P → Ev → Option Ev) (t : Option (Ev → IH → R (D × IH))) (e : Ev → IH → R (D × IH)) (env : Ev) : List P → IH → R (List D × IH)
  | [], ih => .ok ([], ih)
  | p :: ps, ih => match h p env with
    | none => .stuck
    | some env1 => (dTests t env1 ih).bind fun b => match b.1 with
      | true => (noX (e env1 b.2)).bind fun y => (dLcL h t e env ps y.2).bind fun r => .ok (y.1 :: r.1, r.2)
      | false => dLcL h t e env ps b.2
def tTs (g : GI) (t : Option (Ev → IH → R (D × IH))) : TT := match t with
  | none => tYes
  | some t => tT g (fun _ _ _ _ => False) t
inductive STs (g : GI) (N : List Str) (lev : Nat) (sc : Scope) : Option (Ev → IH → R (D × IH)) → List Expr → Prop
  | nil : STs g N lev sc none []
  | one {t : Ev → IH → R (D × IH)} {e : Expr} : ST g N lev sc t e → STs g N lev sc (some t) [e]
theorem pts_of {X : Cx} (G : Gd g N lev sc (fun _ _ _ _ => False) X) {t : Option (Ev → IH → R (D × IH))} {es : List Expr} (h : STs g N lev sc t es) : PTs X es (tTs g t) := by
  cases h with
  | nil => exact pts_nil
  | one h => exact pts_one (h _ X G)
theorem tTs_of {t : Option (Ev → IH → R (D × IH))} {T : Bool → Hp → Prop} (hr : HR g.K F m ih H) (er : EvR g.K H (Bd F m ih) m env σ) {b : Bool} {ih1 : IH} (e : dTests t env ih = .ok (b, ih1)) (hT : ∀ m1 H1, Post g.K F m ih H m1 ih1 H1 → T b H1) : tTs g t σ H T := by
  cases t with
  | none => cases e; exact hT m H (Post.refl hr)
  | some t =>
    refine ⟨F, m, ih, env, hr, er, ?_⟩
    simp only [dTests] at e
    cases e1 : t env ih with
    | ok r =>
      rw [e1] at e
      simp only [noX, R.bind] at e
      split at e
      · rename_i b' e2
        cases e
        exact ⟨_, e2, hT⟩
      · cases e
    | exc _ _ _ => rw [e1] at e; cases e
    | stuck => rw [e1] at e; cases e
theorem tE_of {f : Ev → IH → R (D × IH)} {T : V → Hp → Prop} (hr : HR g.K F m ih H) (er : EvR g.K H (Bd F m ih) m env σ) {d : D} {ih1 : IH} (e : noX (f env ih) = .ok (d, ih1)) (hT : ∀ m1 H1 x, Post g.K F m ih H m1 ih1 H1 → RD g.K H1 (Bd F m1 ih1) m1 d x → T x H1) : tD g (fun _ _ _ _ => False) f σ H T := by
  refine ⟨F, m, ih, env, hr, er, ?_⟩
  cases e1 : f env ih with
  | ok r =>
    rw [e1] at e
    cases e
    exact hT
  | exc _ _ _ => rw [e1] at e; cases e
  | stuck => rw [e1] at e; cases e
end
end Dn

/-! Dn15: list comprehensions. -/
namespace Dn
open PySem PySem.Spec PyProof.Rows L2
section
variable {g : GI} {N : List Str} {lev : Nat} {sc : Scope} {W : WX} {F : Addr → Prop} {m m' : List Addr} {ih ih' : IH} {H H' : Hp} {σ : L2.St} {env : Ev} {B : Addr → Prop}
theorem Kp.more {B B' B'' : Addr → Prop} (k : Kp H H' B B') (h : ∀ a, B'' a → B' a ∨ H a = none) : Kp H H' B B'' :=
  ⟨k.tup, k.lst, k.frz, fun a n z => (h a z).elim (k.nb a n) id⟩
theorem EvR.mono {K : PySem.W.Frag} {B B' : Addr → Prop} (k : Kp H H' B B') (hm : ∀ (n : Nat) a, m[n]? = some a → m'[n]? = some a) (e : EvR K H B m env σ) : EvR K H' B' m' env σ :=
  ⟨e.len, fun i d h => by
    obtain ⟨v, h1, h2⟩ := e.get i d h
    exact ⟨v, h1, RD.mono k hm h2⟩⟩
theorem upd_upd {a : Addr} {o o' : HO} : upd (upd H a o) a o' = upd H a o' := by
  funext b
  by_cases e : b = a
  · subst e; rw [upd_same, upd_same]
  · rw [upd_ne e, upd_ne e, upd_ne e]
theorem upd_self {a : Addr} {o : HO} (h : H a = some o) : upd H a o = H := by
  funext b
  by_cases e : b = a
  · subst e; rw [upd_same, h]
  · rw [upd_ne e]
/-- an object being filled: D, with what it holds; hz: its heap so far as the others see it -/
structure Fl (g : GI) (F : Addr → Prop) (m : List Addr) (ih : IH) (H : Hp) (D : Addr) (z : HO) (m1 : List Addr) (ih1 : IH) (H1 : Hp) (o : HO) : Prop where
  at_ : H1 D = some o
  hr : HR g.K (F1 F D) m1 ih1 H1
  po : Post g.K (F1 F D) m ih (upd H D z) m1 ih1 (upd H1 D z)
section
variable {D : Addr} {z : HO} {m1 m2 : List Addr} {ih1 ih2 : IH} {H1 H2 : Hp} {o : HO}
theorem Fl.start (hr : HR g.K F m ih H) (hD : H D = none) : Fl g F m ih H D z m ih (upd H D z) z := by
  have h1 := hr.open1 (o := z) hD
  exact ⟨upd_same, h1, by rw [upd_upd]; exact Post.refl h1⟩
theorem Fl.inl (f : Fl g F m ih H D z m1 ih1 H1 o) (hr : HR g.K F m ih H) (hD : H D = none) : Post g.K F m ih H m1 ih1 H1 ∧ ¬ Bd F m1 ih1 D := post_inline hr hD f.po f.hr f.at_
theorem Fl.kp (f : Fl g F m ih H D z m1 ih1 H1 o) (hr : HR g.K F m ih H) (hD : H D = none) : Kp H H1 (Bd F m ih) (Bd (F1 F D) m1 ih1) :=
  ((f.inl hr hD).1.kp hr).more fun a z => by
    rcases z with (z | z) | z
    · exact .inl (.inl z)
    · right; rw [z]; exact hD
    · exact .inl (.inr z)
theorem Fl.evr (f : Fl g F m ih H D z m1 ih1 H1 o) (hr : HR g.K F m ih H) (hD : H D = none) (e : EvR g.K H (Bd F m ih) m env σ) : EvR g.K H1 (Bd (F1 F D) m1 ih1) m1 env σ := EvR.mono (f.kp hr hD) (f.inl hr hD).1.ix e
/-- all but D may change -/
theorem Fl.step (f : Fl g F m ih H D z m1 ih1 H1 o) (hr : HR g.K F m ih H) (hD : H D = none) (ho : isCo o = true) (p : Post g.K (F1 F D) m1 ih1 H1 m2 ih2 H2) : Fl g F m ih H D z m2 ih2 H2 o := by
  have e : H2 D = some o := p.frame D o f.at_ fun l => f.hr.nf D l (.inr rfl)
  refine ⟨e, p.hr, ?_⟩
  have q := Post.zed (o := z) f.hr p (.inr rfl) f.at_ ho
  exact f.po.trans (hr.open1 hD) q
/-- D is written -/
theorem Fl.put (f : Fl g F m ih H D z m1 ih1 H1 o) {o' : HO} (ho : isCo o = true) : Fl g F m ih H D z m1 ih1 (upd H1 D o') o' :=
  ⟨upd_same, f.hr.foreign (.inr rfl) f.at_ ho, by rw [upd_upd]; exact f.po⟩
theorem Fl.kput (f : Fl g F m ih H D z m1 ih1 H1 o) {o' : HO} (ho : isCo o = true) : Kp H1 (upd H1 D o') (Bd (F1 F D) m1 ih1) (Bd (F1 F D) m1 ih1) := Kp.foreign f.at_ (.inl (.inr rfl)) ho
end
theorem RDs.snoc {K : PySem.W.Frag} {d : D} {v : V} : ∀ {ds : List D} {vs : List V}, RDs K H B m ds vs → RD K H B m d v → RDs K H B m (ds ++ [d]) (vs ++ [v])
  | [], _, h, r => by cases (show _ = _ from h); exact ⟨v, [], rfl, r, rfl⟩
  | _ :: _, _, h, r => by
    obtain ⟨w, q, rfl, h1, h2⟩ := h
    exact ⟨w, q ++ [v], rfl, h1, RDs.snoc h2 r⟩
/-- the turns -/
theorem lc_core2 {h : P → Ev → Option Ev} {sl vs : List Nat} {t : Option (Ev → IH → R (D × IH))} {e : Ev → IH → R (D × IH)} {J : It} {ps : List P} {Dn : Addr} {dsF : List D} {ihF : IH} {Qd : Hp → Prop} (hs : ∀ j ∈ sl, j ∈ vs) (hr : HR g.K F m ih H) (er : EvR g.K H (Bd F m ih) m env σ) (itg : ItG H (Bd F m ih) J ps) (hD : H Dn = none)
    (hl : ps.length ≤ SL) (q : dLcL h t e (wipeE vs env) ps ih = .ok (dsF, ihF))
    (fin : ∀ m1 H1 vsF, Fl g F m ih H Dn (.lst []) m1 ihF H1 (.lst vsF) → RDs g.K H1 (Bd (F1 F Dn) m1 ihF) m1 dsF vsF → Qd H1) :
    ∃ Wm : Nat → Nat → Hp → Prop, (∃ k, Wm 0 k (upd H Dn (.lst []))) ∧ ∀ i k H, Wm i k H →
      (J.stop i H ∧ Qd H) ∨ (J.go i H ∧ ∃ Nx : Hp → Prop, (∀ H', Nx H' → ∃ k', k' < k ∧ Wm (i + 1) k' H') ∧ ∀ x H', J.yld i H x H' → tG g h sl x (L2.wipe σ vs) H' fun σ2 H2 => L2.wipe σ2 vs = L2.wipe σ vs ∧ tTs g t σ2 H2 fun b H3 =>
        if b = true then tD g (fun _ _ _ _ => False) e σ2 H3 fun y H4 => ∃ acc, H4 Dn = some (.lst acc) ∧ acc.length < sizeLine ∧ Nx (upd H4 Dn (.lst (acc ++ [y]))) else Nx H3) := by
  let Wm : Nat → Nat → Hp → Prop := fun i k H1 => ∃ m1 ih1 ds vs', Fl g F m ih H Dn (.lst []) m1 ih1 H1 (.lst vs') ∧ RDs g.K H1 (Bd (F1 F Dn) m1 ih1) m1 ds vs' ∧ vs'.length ≤ i ∧ i + k = ps.length ∧ ∃ rest, dLcL h t e (wipeE vs env) (ps.drop i) ih1 = .ok (rest, ihF) ∧ ds ++ rest = dsF
  refine ⟨Wm, ⟨ps.length, m, ih, [], [], Fl.start hr hD, rfl, Nat.le_refl _, by omega, dsF, by simpa using q, rfl⟩, fun i k H1 w => ?_⟩
  obtain ⟨m1, ih1, ds, vs', fl, rd, hvl, hk, rest, eq, ea⟩ := w
  obtain ⟨it1, it2⟩ := itg H1 _ (fl.kp hr hD)
  by_cases hi : i < ps.length
  · right
    have ep : ps[i]? = some ps[i] := List.getElem?_eq_getElem hi
    obtain ⟨go, yl⟩ := it1 i _ ep
    rw [List.drop_eq_getElem_cons hi, dLcL] at eq
    refine ⟨go, Wm (i + 1) (k - 1), fun H' nn => ⟨k - 1, by omega, nn⟩, fun x H' y => ?_⟩
    obtain ⟨keep, rx⟩ := yl x H' y
    have fl2 := fl.step hr hD rfl (Post.kept fl.hr keep)
    have rd2 := (Post.kept fl.hr keep).rds fl.hr rd
    have er2 : EvR g.K H' (Bd (F1 F Dn) m1 ih1) m1 (wipeE vs env) (L2.wipe σ vs) := (fl2.evr hr hD er).block vs
    cases e1 : h ps[i] (wipeE vs env) with
    | none => rw [e1] at eq; cases eq
    | some env1 =>
      rw [e1] at eq
      simp only at eq
      refine ⟨F1 F Dn, m1, ih1, wipeE vs env, ps[i], fl2.hr, er2, rx, env1, e1, fun σ2 er3 sm => ⟨wipe_same sm hs, ?_⟩⟩
      cases e2 : dTests t env1 ih1 with
      | exc _ _ _ => rw [e2] at eq; cases eq
      | stuck => rw [e2] at eq; cases eq
      | ok bb =>
        obtain ⟨b, ih2⟩ := bb
        rw [e2] at eq
        simp only [R.bind] at eq
        refine tTs_of fl2.hr er3 e2 fun m2 H3 p3 => ?_
        have fl3 := fl2.step hr hD rfl p3
        have rd3 := p3.rds fl2.hr rd2
        cases b with
        | false =>
          simp only [Bool.false_eq_true, if_false]
          exact ⟨m2, ih2, ds, vs', fl3, rd3, by omega, by omega, rest, eq, ea⟩
        | true =>
          simp only [if_true]
          cases e3 : noX (e env1 ih2) with
          | exc _ _ _ => simp only [e3] at eq; cases eq
          | stuck => simp only [e3] at eq; cases eq
          | ok yy =>
            obtain ⟨d, ih3⟩ := yy
            simp only [e3] at eq
            refine tE_of fl3.hr (er3.post fl2.hr p3) e3 fun m3 H4 y4 p4 ry => ?_
            have fl4 := fl3.step hr hD rfl p4
            have rd4 := p4.rds fl3.hr rd3
            cases e4 : dLcL h t e (wipeE vs env) (ps.drop (i + 1)) ih3 with
            | exc _ _ _ => simp only [e4] at eq; cases eq
            | stuck => simp only [e4] at eq; cases eq
            | ok r4 =>
              obtain ⟨rest4, ih4⟩ := r4
              simp only [e4] at eq
              cases eq
              have lt : vs'.length < sizeLine := by rw [SL_eq]; omega
              have kk := fl4.kput (o' := .lst (vs' ++ [y4])) rfl
              exact ⟨vs', fl4.at_, lt, m3, ih3, ds ++ [d], vs' ++ [y4], fl4.put rfl, (RDs.mono kk (fun _ _ e => e) rd4).snoc (RD.mono kk (fun _ _ e => e) ry), by simp; omega, by omega, rest4, e4, by rw [← ea]; simp⟩
  · left
    have ei : i = ps.length := by omega
    subst ei
    rw [List.drop_length, dLcL] at eq
    cases eq
    rw [List.append_nil] at ea
    subst ea
    exact ⟨it2, fin m1 H1 vs' fl rd⟩
/-- what a list comprehension gives: data, or a new cell -/
def lcEnd (box : Bool) (ds : List D) (ih : IH) : R (D × IH) := match box with
  | true => .ok (.ref ih.length, ih ++ [.lst ds])
  | false => (match allPu ds with
    | some ps => .ok (.pu (.lst ps), ih)
    | none => .stuck)
def okR {α : Type} : R α → Option α
  | .ok a => some a
  | _ => none
def dLc (box : Bool) (h : P → Ev → Option Ev) (src : Ev → IH → R (List P × IH)) (t : Option (Ev → IH → R (D × IH))) (e : Ev → IH → R (D × IH)) (vs : List Nat) : Ev → IH → R (D × IH) := fun env ih => (src env ih).bind fun r =>
  if r.1.length ≤ SL then (match okR (dLcL h t e (wipeE vs env) r.1 r.2) with
    | some y => lcEnd box y.1 y.2
    | none => .stuck) else .stuck
theorem tLc_of {box : Bool} {h : P → Ev → Option Ev} {src : Ev → IH → R (List P × IH)} {sl vs : List Nat} {t : Option (Ev → IH → R (D × IH))} {e : Ev → IH → R (D × IH)} (hs : ∀ j ∈ sl, j ∈ vs) (σ : L2.St) (H : Hp) (Q : VK) (q : tD g W (dLc box h src t e vs) σ H Q) :
    tLc (tI g W src) (tG g h sl) (tTs g t) (tD g (fun _ _ _ _ => False) e) vs σ H Q := by
  obtain ⟨F, m, ih, env, hr, er, q⟩ := q
  refine ⟨F, m, ih, env, hr, er, ?_⟩
  unfold dLc at q
  cases e0 : src env ih with
  | exc c fs i => rw [e0] at q; exact q
  | stuck => rw [e0] at q; exact q
  | ok r =>
    obtain ⟨ps, ih1⟩ := r
    rw [e0] at q
    simp only [R.bind] at q
    split at q
    · rename_i hl
      split at q
      · rename_i y ey
        obtain ⟨dsF, ihF⟩ := y
        have eq : dLcL h t e (wipeE vs env) ps ih1 = .ok (dsF, ihF) := by
          cases ez : dLcL h t e (wipeE vs env) ps ih1 with
          | ok y => rw [ez] at ey; cases ey; rfl
          | exc _ _ _ => rw [ez] at ey; cases ey
          | stuck => rw [ez] at ey; cases ey
        intro m1 H1 J p1 itg Dn hD
        refine lc_core2 hs p1.hr (er.post hr p1) itg hD hl eq fun m2 H2 vsF fl rd => ?_
        cases box with
        | true =>
          simp only [lcEnd] at q
          have pc := post_cell (c := .lst dsF) p1.hr hD fl.po fl.hr fl.at_ rd (by intro z; cases z)
          refine q _ H2 _ (p1.trans hr pc) ⟨Dn, rfl, ?_⟩
          rw [← fl.hr.len]
          simp
        | false =>
          simp only [lcEnd] at q
          split at q
          · rename_i ps' ea
            obtain ⟨pi, nb⟩ := fl.inl p1.hr hD
            exact q _ H2 _ (p1.trans hr pi) ⟨Dn, vsF, rfl, fl.at_, nb, RPs.mono (Kp.less bd_less) _ _ (allPu_rp ea rd)⟩
          · exact q.elim
      · exact q.elim
    · exact q.elim
theorem blkOk_ex {X : Cx} (G : Gd g N lev sc W X) {scope : Scope} {own : List (Str × Nat)} (h : BlkOk N sc scope own) : BlkOk X.N X.env.scope scope own :=
  ⟨h.kind, h.uniq, fun p hp => by rw [G.nm]; exact h.ix p hp, fun y hy e => by
    rcases h.free y hy e with z | z
    · exact .inl (G.scp.at z (by intro z; cases z))
    · exact (G.scp.free _ z).symm, fun y hy e => by rw [G.nm]; exact h.own y hy e⟩
theorem se_lc {box : Bool} {h : P → Ev → Option Ev} {src : Ev → IH → R (List P × IH)} {sl : List Nat} {own : List (Str × Nat)} {t : Option (Ev → IH → R (D × IH))} {f : Ev → IH → R (D × IH)} {elt tg iter : Expr} {ifs : List Expr} {scope : Scope} {pos : Pos}
    (hi : SI g N lev sc src tg iter) (ok : BlkOk N sc scope own) (hg : SG g N lev scope h sl tg) (ht : STs g N lev scope t ifs) (he : SE g N lev scope f elt) (hs : ∀ j ∈ sl, j ∈ own.map (·.2)) (hn : notSet iter = true) :
    SE g N lev sc (dLc box h src t f (own.map (·.2))) (.ListComp elt [⟨tg, iter, ifs, 0⟩] scope pos) := fun W X G =>
  PE.con (pe_lc (wi := tI g W src) (g := tG g h sl) (tt := tTs g t) (te := tD g (fun _ _ _ _ => False) f) G.calm (by rw [G.nm]; exact G.nd) (hi W X G) (blkOk_ex G ok) (fun s H C cl fp => hg _ _ (G.blk s H C cl fp)) (fun s H C cl fp => pts_of (G.blk s H C cl fp) ht) (fun s H C cl fp => he _ _ (G.blk s H C cl fp)) (folded_plain hn X.env)) (tLc_of hs)
/-- name = [..] in one line -/
theorem ss_setLc {box : Bool} {i : Nat} {y : Str} {py spos : Pos} {h : P → Ev → Option Ev} {src : Ev → IH → R (List P × IH)} {sl : List Nat} {own : List (Str × Nat)} {t : Option (Ev → IH → R (D × IH))} {f : Ev → IH → R (D × IH)} {elt tg iter : Expr} {ifs : List Expr} {scope : Scope} {pos : Pos}
    (hy : N[i]? = some y) (hyl : sc.names.lookup y = some .local) (hk : sc.kind = .function) (hln : (py.line == pos.line) = true) (ha : (scope.names.any fun (n, k) => n == y && (k == .local || k == .cell)) = false)
    (hi : SI g N lev sc src tg iter) (ok : BlkOk N sc scope own) (hg : SG g N lev scope h sl tg) (ht : STs g N lev scope t ifs) (he : SE g N lev scope f elt) (hs : ∀ j ∈ sl, j ∈ own.map (·.2)) (hn : notSet iter = true) :
    SS g N lev sc (dSet i (dLc box h src t f (own.map (·.2)))) (.Assign [.Name y py] (.ListComp elt [⟨tg, iter, ifs, 0⟩] scope pos) spos) := fun W X G => by
  refine PS.con (ps_setLc (wi := tI g W src) (g := tG g h sl) (tt := tTs g t) (te := tD g (fun _ _ _ _ => False) f) G.calm (by rw [G.nm]; exact G.nd) (by rw [G.nm]; exact hy) (G.scp.lo hyl) (sw_true (by rw [G.scp.kind]; exact hk) (G.scp.lo hyl) hln ha) (hi W X G) (blkOk_ex G ok) (fun s H C cl fp => hg _ _ (G.blk s H C cl fp)) (fun s H C cl fp => pts_of (G.blk s H C cl fp) ht) (fun s H C cl fp => he _ _ (G.blk s H C cl fp)) (folded_plain hn X.env)) fun D' σ H q => ?_
  obtain ⟨F, m, ih, env, hr, er, q⟩ := q
  refine tLc_of (box := box) hs σ H _ ?_
  exact tD_S (k := fun d ih1 => .nx (env.set i (some d)) ih1) hr er q fun m1 H1 x d ih1 hr1 p1 rx q1 => q1 m1 H1 _ (Post.refl hr1) ((er.post hr p1).set rx)
end
end Dn

/-! Dn16: defs and their calls (no exception leaves a def); freezing as a step. -/
namespace Dn
open PySem PySem.Spec PyProof.Rows L2
abbrev WNo : WX := fun _ _ _ _ => False
/-- a def at f does as φ says: its arguments lie in the caller's local heap -/
structure FnG (g : GI) (k : Nat) (f : Addr) (fd : FuncData) (ps : List Str) (φ : List D → IH → R (D × IH)) : Prop where
  run : ∀ (A : Around) (outer : List Env) (s : Shared) (H : Hp) (args : Args) (us : List Value) (vs : List V) (Q : VK), Room k A → A.guards = some [] → Env0 g.P g.w g.K g.mg g.base A outer s H → BindsTo s fd args (ps.zip us) → Vals vs us → vs.length = ps.length →
    (∃ F m ih ds, HR g.K F m ih H ∧ RDs g.K H (Bd F m ih) m ds vs ∧ Fin g WNo F m ih H [] Q (φ ds ih)) → codeAny (model g.P g.w) A (.call (.ref f) args) (CR CX0 outer g.P g.w H s Q E0) s
theorem FnG.mono {g : GI} {j k : Nat} {f : Addr} {fd : FuncData} {ps : List Str} {φ : List D → IH → R (D × IH)} (F : FnG g j f fd ps φ) (h : j ≤ k) : FnG g k f fd ps φ :=
  ⟨fun A o s H a us vs Q r => F.run A o s H a us vs Q (r.mono h)⟩
/-- the slots at the entry -/
def ent (n : Nat) (ds : List D) : Ev := ds.map some ++ List.replicate (n - ds.length) none
def dFn (n : Nat) (body : Ev → IH → RS) : List D → IH → R (D × IH) := fun ds ih => match body (ent n ds) ih with
  | .rt d ih' => .ok (d, ih')
  | .nx _ ih' => .ok (.pu .non, ih')
  | _ => .stuck
theorem ent_get : ∀ {ds : List D} {n i : Nat} {d : D}, (ent n ds)[i]? = some (some d) → ds[i]? = some d := fun {ds n i d} h => by
  unfold ent at h
  by_cases hi : i < ds.length
  · rw [List.getElem?_append_left (by simpa using hi), List.getElem?_map] at h
    cases e : ds[i]? with
    | none => rw [e] at h; cases h
    | some x => rw [e] at h; cases h; rfl
  · rw [List.getElem?_append_right (by simpa using hi), List.getElem?_replicate] at h
    split at h <;> cases h
theorem start_get {vs : List V} {N : List Str} {i : Nat} {v : V} (h : vs[i]? = some v) : (L2.start N vs)[i]? = some (some v) := by
  unfold L2.start
  have hi : i < vs.length := (List.getElem?_eq_some_iff.mp h).1
  rw [List.getElem?_append_left (by simpa using hi), List.getElem?_map, h]
  rfl
theorem ent_evr {K : PySem.W.Frag} {H : Hp} {B : Addr → Prop} {m : List Addr} {ds : List D} {vs : List V} {N : List Str} (r : RDs K H B m ds vs) : EvR K H B m (ent N.length ds) (L2.start N vs) := by
  refine ⟨by unfold ent L2.start; simp [r.length], fun i d h => ?_⟩
  obtain ⟨v, e, rd⟩ := r.get (ent_get h)
  exact ⟨v, start_get e, rd⟩
section
variable {g : GI} {N : List Str} {lev k : Nat} {sc : Scope} {f : Addr} {fd : FuncData} {ps : List Str} {body : List Stmt}
/-- a def of the text -/
theorem fnG_of {x qual : Str} {params : Arguments} {dvs : List V} {kws : List (Str × V)} {bd : Ev → IH → RS} (FD : FunD g.K x qual params body sc dvs kws f fd) (S : FnScope N ps sc) (h : SB g N k sc bd body) : FnG g (k + 1) f fd ps (dFn N.length bd) := by
  obtain ⟨oc, od, dV, kV, doc, pm, an, cdv, ct, osl, rfl, look, codes, -, -⟩ := FD.ex
  refine ⟨fun A outer s H args us vs Q rm gu e0 bt rv len pr => ?_⟩
  have inK : g.K.In s.heap := e0.mod.kin.keeps fun b o e => (e0.bs b o e).1
  have free : s.heap.NoLimit := e0.mod.nolimit.keeps fun b o e => (e0.bs b o e).1
  have kinds : ∀ y ∈ ps.zip us, sc.names.lookup y.1 = some .local ∨ (sc.names.lookup y.1 = some .cell ∧ ((cellsFrom (s.heap.objs.size + 1) sc.names []).lookup y.1).isSome = true) := by
    rintro ⟨n, v⟩ hy
    exact (S.par n (List.of_mem_zip hy).1).imp id fun q => ⟨q, PySem.W.cellsFrom_some _ _ _ (.inl q)⟩
  refine codeAny_call_function rm.depth (inK _ _ look) rfl S.co S.gen rfl (PySem.W.codeRec_of inK codes) (bt _ _ _ _ (wpAny_newFunctionEnv_cells S.kind kinds fun env he s1 ic => ?_))
  subst he
  refine ⟨free.keeps ic.toInCall.keep, codeAny_func ?_⟩
  have Gx : Gd g N k sc WNo (cxOf CX0 g.P g.w g.K g.mg g.base N qual sc f cdv A outer s H E0).nox :=
    ⟨rfl, rfl, rfl, rfl, rfl, rfl, S.nd, ScE.rfl, rfl, rm.deeper _, gu, fun _ _ => rfl, takes0, PassesOwn.never⟩
  have I0 := inv_start (CX := CX0) (E := E0) (cd := cdv) (qual := qual) (f := f) S rm.hd e0 len rv ic
  obtain ⟨F, m, ih, ds, hr, rd, q⟩ := pr
  have want : tS g WNo bd { nx := fun _ H' => Q .non H', rt := Q } (L2.start N vs) H := by
    refine ⟨F, m, ih, ent N.length ds, hr, ent_evr rd, ?_⟩
    unfold dFn at q
    cases e : bd (ent N.length ds) ih with
    | rt d ih' => rw [e] at q; exact q
    | nx env ih' => rw [e] at q; exact fun m1 H1 _ p1 _ => q m1 H1 .non p1 rfl
    | bk _ _ => rw [e] at q; exact q.elim
    | ct _ _ => rw [e] at q; exact q.elim
    | exc _ _ _ _ => rw [e] at q; exact q.elim
    | stuck => rw [e] at q; exact q.elim
  refine wpAny_mono ((PSs.nox (h WNo _ Gx)).run [] s1 (L2.start N vs) H _ I0 want) (fun fl s' hs => ?_) fun e s' hs => hs
  cases fl with
  | ret u => obtain ⟨v, σ', H', J, rv', qq⟩ := hs; exact ⟨v, H', J.os, J.bare, J.base, J.hok, rv', qq⟩
  | next => obtain ⟨σ', H', J, qq⟩ := hs; exact ⟨.non, H', J.os, J.bare, J.base, J.hok, rfl, qq⟩
  | brk => obtain ⟨_, _, _, qq⟩ := hs; exact qq.elim
  | cont => obtain ⟨_, _, _, qq⟩ := hs; exact qq.elim

/-! ### ghost steps behind an expression -/
theorem PE.gh {X : Cx} {e : Expr} {t : TE} (h : PE X e t) : PE X e (fun σ H Q => t σ H fun v H1 => Gh (Q v) H1) :=
  ⟨fun pins s σ H Q I q => thn (h.run pins s σ H _ I q) fun u s' ⟨v, H', I', r, z⟩ => by
    obtain ⟨H2, I2, q2⟩ := z.inv I'
    exact ⟨v, H2, I2, r, q2⟩⟩
/-- freeze what an expression gives -/
def dFz (f : Ev → IH → R (D × IH)) : Ev → IH → R (D × IH) := fun env ih => (f env ih).bind fun r => match frz 8 r.2 r.1 with
  | some (p, ih') => .ok (.pu p, ih')
  | none => .stuck
theorem se_fz {e : Expr} {f : Ev → IH → R (D × IH)} (h : SE g N lev sc f e) : SE g N lev sc (dFz f) e := fun W X G => by
  refine PE.con (PE.gh (h W X G)) fun σ H Q q => ?_
  obtain ⟨F, m, ih, env, hr, er, q⟩ := q
  refine tD_bind (k := fun d ih1 => match frz 8 ih1 d with | some (p, ih') => .ok (.pu p, ih') | none => .stuck) hr er q fun m1 H1 x d ih1 hr1 p1 rx q1 => ?_
  cases e1 : frz 8 ih1 d with
  | none => rw [e1] at q1; exact q1.elim
  | some y =>
    obtain ⟨p, ih2⟩ := y
    rw [e1] at q1
    exact (frz_ok 8 _ F m1 H1 ih1 ih2 d p x e1 hr1 rx).bind fun H2 ⟨po, rp⟩ => .done (q1 m1 H2 x po rp)

/-! ### the call -/
/-- as a pure function -/
def pf (φ : List D → IH → R (D × IH)) (ds : List D) : Option P := match φ ds [] with
  | .ok r => (frz 8 r.2 r.1).map (·.1)
  | _ => none
/-- no cell of the caller is handed over -/
def apB : List D → Bool
  | [] => true
  | .pu _ :: ds => apB ds
  | .ke :: ds => apB ds
  | _ => false
def dCallF (n : Nat) (φ : List D → IH → R (D × IH)) (dfl : List D) (fs : List (Ev → IH → R (D × IH))) : Ev → IH → R (D × IH) := fun env ih => (dArgs fs env ih).bind fun r =>
  if (r.1 ++ dfl).length = n then noX (φ (r.1 ++ dfl) r.2) else .stuck
def dCallP (n : Nat) (φ : List D → IH → R (D × IH)) (dfl : List D) (fs : List (Ev → IH → R (D × IH))) : Ev → IH → R (D × IH) := fun env ih => (dArgs fs env ih).bind fun r =>
  if apB (r.1 ++ dfl) && decide ((r.1 ++ dfl).length = n) then (match pf φ (r.1 ++ dfl) with
    | some p => .ok (.pu p, r.2)
    | none => .stuck) else .stuck
theorem runG {X : Cx} {W : WX} {φ : List D → IH → R (D × IH)} {pins : List (Addr × Obj)} {σ : L2.St} {H : Hp} {s : Shared} {Q : VK} {us ds : List Value} {vs dvs : List V} (G : Gd g N lev sc W X) (Fn : FnG g k f fd ps φ) (hk : k ≤ lev) (hb : Binds g.K fd ps ds) (hd : Vals dvs ds) (I : Inv X pins σ H s) (r : Vals vs us)
    (hl : (vs ++ dvs).length = ps.length) (h : ∃ F m ih xs, HR g.K F m ih H ∧ RDs g.K H (Bd F m ih) m xs (vs ++ dvs) ∧ Fin g WNo F m ih H [] Q (φ xs ih)) : wpAny (model X.prog X.w) X.A (call (.ref f) us) (EP X pins σ Q) X.xe s := by
  have both : Vals (vs ++ dvs) (us ++ ds) := r.append hd
  have ln : (us ++ ds).length = ps.length := by rw [← both.length]; exact hl
  have kin : g.K.In s.heap := by rw [← G.K]; exact I.kIn
  have e0 : Env0 g.P g.w g.K g.mg g.base X.A X.stack s H := by rw [← G.prog, ← G.w, ← G.K, ← G.mg, ← G.base]; exact I.env0
  have rr := Fn.run X.A X.stack s H ⟨us, []⟩ (us ++ ds) (vs ++ dvs) Q (G.room.mono hk) G.gd e0 (hb s us kin ln) both hl h
  rw [← G.prog, ← G.w] at rr
  refine wpAny_call (codeAny_mono rr fun res s' hq => ?_)
  cases res with
  | error e => exact False.elim hq
  | ok fl =>
    cases fl with
    | ret u => exact I.after hq
    | next => exact hq.elim
    | brk => exact hq.elim
    | cont => exact hq.elim
def atomsV : List P → Option (List V)
  | [] => some []
  | p :: ps => match atomV p, atomsV ps with
    | some v, some vs => some (v :: vs)
    | _, _ => none
theorem atoms_rd {K : PySem.W.Frag} {H : Hp} {B : Addr → Prop} {m : List Addr} : ∀ {ps : List P} {vs : List V}, atomsV ps = some vs → RDs K H B m (ps.map D.pu) vs
  | [], vs, e => by cases e; rfl
  | p :: ps, vs, e => by
    unfold atomsV at e
    split at e
    · rename_i v vs' e1 e2
      cases e
      exact ⟨v, vs', rfl, atom_rp e1, atoms_rd e2⟩
    · cases e
theorem RDs.app {K : PySem.W.Frag} {H : Hp} {B : Addr → Prop} {m : List Addr} : ∀ {ds es : List D} {vs ws : List V}, RDs K H B m ds vs → RDs K H B m es ws → RDs K H B m (ds ++ es) (vs ++ ws)
  | [], _, _, _, h, r => by cases (show _ = _ from h); exact r
  | _ :: _, _, _, _, h, r => by
    obtain ⟨w, q, rfl, h1, h2⟩ := h
    exact ⟨w, _, rfl, h1, RDs.app h2 r⟩
theorem any_back {pos : Pos} {env : Env} : ∀ {fs : List (Ev → IH → R (D × IH))} {es : List Expr}, SA g N lev sc fs es → (backTo pos (starEach es env)).any (·.1) = false
  | _, _, .nil => rfl
  | _, _, .cons h1 h2 h3 => by
    rw [star_plain h2]
    have q := any_back (pos := pos) (env := env) h3
    unfold backTo at q ⊢
    simpa using q
/-- how a call's arguments go on to the callee: tA first, then anything -/
theorem pe_callG {X : Cx} {W : WX} {x : Str} {p pos : Pos} {e : Expr} {es : List Expr} {φ : List D → IH → R (D × IH)} {ds : List Value} {dvs : List V} {fs : List (Ev → IH → R (D × IH))} (G : Gd g N lev sc W X) (Fn : FnG g k f fd ps φ) (hk : k ≤ lev) (hg : sc.names.lookup x = some .globalImplicit) (hm : g.mg x = some (.ref f))
    (kp : PySem.W.keepIn g.K (.ref f) = true) (hb : Binds g.K fd ps ds) (hd : Vals dvs ds) (ha : SA g N lev sc fs (e :: es)) (hdb : (x == ("__debug__" : Str)) = false) :
    PE X (.Call (.Name x p) (e :: es) [] pos) (fun σ H Q => tA g W fs σ H fun vs H1 => (vs ++ dvs).length = ps.length ∧ ∃ F m ih xs, HR g.K F m ih H1 ∧ RDs g.K H1 (Bd F m ih) m xs (vs ++ dvs) ∧ Fin g WNo F m ih H1 [] Q (φ xs ih)) := by
  refine ⟨fun pins s σ H Q I h => ?_⟩
  have st : starEach (e :: es) X.env = (false, eval e X.env) :: starEach es X.env := by cases ha with | cons _ h2 _ => exact star_plain h2
  have pl : (backTo pos (starEach es X.env)).any (·.1) = false := by cases ha with | cons _ _ h3 => exact any_back h3
  refine wpAny_Call_Name_kw (ld_glob I (G.scp.gl hg) (by rw [G.mg]; exact hm) ?_ hdb)
  refine PySem.W.callWith_K (h₀ := X.base) I.ok.mod.kin (by rw [G.K]; exact kp) (thn ((pa_of G ha).run pos pins s σ H _ I h) fun us s1 ⟨vs, H1, I1, r, q⟩ => ⟨I1.kIn, ?_⟩) st pl
  exact runG G Fn hk hb hd I1 r q.1 q.2
end
end Dn

/-! Dn17: calls of defs, as they are and apart; the law's end. -/
namespace Dn
open PySem PySem.Spec PyProof.Rows L2
section
variable {g : GI} {N : List Str} {lev k : Nat} {sc : Scope} {f : Addr} {fd : FuncData} {ps : List Str} {F : Addr → Prop} {m : List Addr} {ih : IH} {H : Hp}
theorem noLv {a : Addr} : ¬ Lv [] [] a := fun ⟨n, c, h, _, _⟩ => by simp at h
theorem HR.apart (hr : HR g.K F m ih H) : HR g.K (Bd F m ih) [] [] H :=
  ⟨rfl, List.nodup_nil, fun n a c h _ _ => by simp at h, fun a l => absurd l noLv, fun a h => by simp at h, fun a h => h.elim (hr.ft a) fun l => hr.tr a l.lt⟩
theorem bd_apart (a : Addr) (h : Bd (Bd F m ih) [] [] a) : Bd F m ih a := h.elim id fun l => absurd l noLv
theorem RPs.toDs {K : PySem.W.Frag} {B : Addr → Prop} {m : List Addr} : ∀ {qs : List P} {vs : List V}, RPs H B qs vs → RDs K H B m (qs.map D.pu) vs
  | [], _, h => h
  | _ :: _, _, h => by
    obtain ⟨v, r, rfl, h1, h2⟩ := h
    exact ⟨v, r, rfl, h1, RPs.toDs h2⟩
theorem RDs.apart {K : PySem.W.Frag} : ∀ {ds : List D} {vs : List V}, apB ds = true → RDs K H (Bd F m ih) m ds vs → RDs K H (Bd (Bd F m ih) [] []) [] ds vs
  | [], _, _, h => h
  | .pu _ :: _, _, e, h => by
    obtain ⟨v, r, rfl, h1, h2⟩ := h
    exact ⟨v, r, rfl, RP.mono (Kp.less bd_apart) _ _ h1, RDs.apart e h2⟩
  | .ke :: _, _, e, h => by
    obtain ⟨v, r, rfl, h1, h2⟩ := h
    exact ⟨v, r, rfl, h1, RDs.apart e h2⟩
  | .ref _ :: _, _, e, _ => by cases e
  | .scr _ :: _, _, e, _ => by cases e
  | .tz _ :: _, _, e, _ => by cases e
/-- what the caller must know to call x -/
structure Cal (g : GI) (k : Nat) (x : Str) (ps : List Str) (φ : List D → IH → R (D × IH)) (dfl : List D) : Prop where
  ex : ∃ (f : Addr) (fd : FuncData) (ds : List Value) (dvs : List V), FnG g k f fd ps φ ∧ g.mg x = some (.ref f) ∧ PySem.W.keepIn g.K (.ref f) = true ∧ Binds g.K fd ps ds ∧ Vals dvs ds ∧ ∀ H B m, RDs g.K H B m dfl dvs
theorem call_args {fs : List (Ev → IH → R (D × IH))} {φ : List D → IH → R (D × IH)} {dfl : List D} {dvs : List V} {W : WX} {σ : L2.St} {H : Hp} {Q : VK} (hd : ∀ H B m, RDs g.K H B m dfl dvs) (q : tD g W (dCallF ps.length φ dfl fs) σ H Q) :
    tA g W fs σ H fun vs H1 => (vs ++ dvs).length = ps.length ∧ ∃ F m ih xs, HR g.K F m ih H1 ∧ RDs g.K H1 (Bd F m ih) m xs (vs ++ dvs) ∧ Fin g WNo F m ih H1 [] Q (φ xs ih) := by
  obtain ⟨F, m, ih, env, hr, er, q⟩ := q
  refine tA_bind (k := fun xs ih1 => if (xs ++ dfl).length = ps.length then noX (φ (xs ++ dfl) ih1) else .stuck) hr er q fun m1 H1 vs xs ih1 hr1 p1 rx q1 => ?_
  split at q1
  · rename_i hl
    have rr : RDs g.K H1 (Bd F m1 ih1) m1 (xs ++ dfl) (vs ++ dvs) := rx.app (hd _ _ _)
    refine ⟨by rw [rr.length]; exact hl, F, m1, ih1, _, hr1, rr, ?_⟩
    cases e1 : φ (xs ++ dfl) ih1 with
    | ok r => rw [e1] at q1; exact q1
    | exc _ _ _ => rw [e1] at q1; exact q1.elim
    | stuck => rw [e1] at q1; exact q1.elim
  · exact q1.elim
theorem call_argsP {fs : List (Ev → IH → R (D × IH))} {φ : List D → IH → R (D × IH)} {dfl : List D} {dvs : List V} {W : WX} {σ : L2.St} {H : Hp} {Q : VK} (hd : ∀ H B m, RDs g.K H B m dfl dvs) (q : tD g W (dCallP ps.length φ dfl fs) σ H Q) :
    tA g W fs σ H fun vs H1 => (vs ++ dvs).length = ps.length ∧ ∃ F m ih xs, HR g.K F m ih H1 ∧ RDs g.K H1 (Bd F m ih) m xs (vs ++ dvs) ∧ Fin g WNo F m ih H1 [] (fun v H2 => Gh (Q v) H2) (φ xs ih) := by
  obtain ⟨F, m, ih, env, hr, er, q⟩ := q
  refine tA_bind (k := fun xs ih1 => if apB (xs ++ dfl) && decide ((xs ++ dfl).length = ps.length) then (match pf φ (xs ++ dfl) with | some p => .ok (.pu p, ih1) | none => .stuck) else .stuck) hr er q fun m1 H1 vs xs ih1 hr1 p1 rx q1 => ?_
  split at q1
  · rename_i hl
    obtain ⟨ha, hl⟩ := Bool.and_eq_true_iff.mp hl
    have hl := of_decide_eq_true hl
    split at q1
    · rename_i p0 ep
      have rr : RDs g.K H1 (Bd (Bd F m1 ih1) [] []) [] (xs ++ dfl) (vs ++ dvs) := RDs.apart ha (rx.app (hd _ _ _))
      refine ⟨by rw [rr.length]; exact hl, Bd F m1 ih1, [], [], _, hr1.apart, rr, ?_⟩
      unfold pf at ep
      cases e1 : φ (xs ++ dfl) [] with
      | exc _ _ _ => rw [e1] at ep; cases ep
      | stuck => rw [e1] at ep; cases ep
      | ok r =>
        obtain ⟨d, ih2⟩ := r
        rw [e1] at ep
        obtain ⟨⟨p', ih3⟩, e2, e3⟩ := Option.map_eq_some_iff.mp ep
        cases e3
        intro m' H' v po rd
        refine (frz_ok 8 _ _ m' H' ih2 ih3 d p' v e2 po.hr rd).bind fun H2 ⟨po2, rp2⟩ => .done ?_
        have pt := po.trans hr1.apart po2
        have keep : ∀ a o, H1 a = some o → H2 a = some o := fun a o e => pt.frame a o e noLv
        exact q1 m1 H2 v (Post.kept hr1 keep) (RP.mono (Kp.less fun a z => .inl z) _ _ rp2)
    · exact q1.elim
  · exact q1.elim
theorem se_callF {x : Str} {p pos : Pos} {e : Expr} {es : List Expr} {φ : List D → IH → R (D × IH)} {dfl : List D} {fs : List (Ev → IH → R (D × IH))} (C : Cal g k x ps φ dfl) (hk : k ≤ lev) (hg : sc.names.lookup x = some .globalImplicit) (ha : SA g N lev sc fs (e :: es)) (hdb : (x == ("__debug__" : Str)) = false) :
    SE g N lev sc (dCallF ps.length φ dfl fs) (.Call (.Name x p) (e :: es) [] pos) := fun W X G => by
  obtain ⟨f, fd, ds, dvs, Fn, hm, kp, hb, hd, at_⟩ := C.ex
  exact PE.con (pe_callG G Fn hk hg hm kp hb hd ha hdb) fun σ H Q q => call_args at_ q
theorem se_callP {x : Str} {p pos : Pos} {e : Expr} {es : List Expr} {φ : List D → IH → R (D × IH)} {dfl : List D} {fs : List (Ev → IH → R (D × IH))} (C : Cal g k x ps φ dfl) (hk : k ≤ lev) (hg : sc.names.lookup x = some .globalImplicit) (ha : SA g N lev sc fs (e :: es)) (hdb : (x == ("__debug__" : Str)) = false) :
    SE g N lev sc (dCallP ps.length φ dfl fs) (.Call (.Name x p) (e :: es) [] pos) := fun W X G => by
  obtain ⟨f, fd, ds, dvs, Fn, hm, kp, hb, hd, at_⟩ := C.ex
  exact PE.con (PE.gh (pe_callG G Fn hk hg hm kp hb hd ha hdb)) fun σ H Q q => call_argsP at_ q
/-- x() -/
theorem pe_callG0 {X : Cx} {W : WX} {x : Str} {p pos : Pos} {φ : List D → IH → R (D × IH)} {ds : List Value} {dvs : List V} (G : Gd g N lev sc W X) (Fn : FnG g k f fd ps φ) (hk : k ≤ lev) (hg : sc.names.lookup x = some .globalImplicit) (hm : g.mg x = some (.ref f))
    (kp : PySem.W.keepIn g.K (.ref f) = true) (hb : Binds g.K fd ps ds) (hd : Vals dvs ds) (hdb : (x == ("__debug__" : Str)) = false) :
    PE X (.Call (.Name x p) [] [] pos) (fun σ H Q => tA g W [] σ H fun vs H1 => (vs ++ dvs).length = ps.length ∧ ∃ F m ih xs, HR g.K F m ih H1 ∧ RDs g.K H1 (Bd F m ih) m xs (vs ++ dvs) ∧ Fin g WNo F m ih H1 [] Q (φ xs ih)) := by
  refine ⟨fun pins s σ H Q I h => wpAny_Call_Name_kw (ld_glob I (G.scp.gl hg) (by rw [G.mg]; exact hm) (PySem.W.callWith_K0 I.kIn (by rw [G.K]; exact kp) ?_) hdb)⟩
  obtain ⟨F, m, ih, env, hr, er, q⟩ := h
  have q := q m H [] (Post.refl hr) rfl
  exact runG G Fn hk hb hd I .nil q.1 q.2
theorem se_callF0 {x : Str} {p pos : Pos} {φ : List D → IH → R (D × IH)} {dfl : List D} (C : Cal g k x ps φ dfl) (hk : k ≤ lev) (hg : sc.names.lookup x = some .globalImplicit) (hdb : (x == ("__debug__" : Str)) = false) : SE g N lev sc (dCallF ps.length φ dfl []) (.Call (.Name x p) [] [] pos) := fun W X G => by
  obtain ⟨f, fd, ds, dvs, Fn, hm, kp, hb, hd, at_⟩ := C.ex
  exact PE.con (pe_callG0 G Fn hk hg hm kp hb hd hdb) fun σ H Q q => call_args at_ q
theorem se_callP0 {x : Str} {p pos : Pos} {φ : List D → IH → R (D × IH)} {dfl : List D} (C : Cal g k x ps φ dfl) (hk : k ≤ lev) (hg : sc.names.lookup x = some .globalImplicit) (hdb : (x == ("__debug__" : Str)) = false) : SE g N lev sc (dCallP ps.length φ dfl []) (.Call (.Name x p) [] [] pos) := fun W X G => by
  obtain ⟨f, fd, ds, dvs, Fn, hm, kp, hb, hd, at_⟩ := C.ex
  exact PE.con (PE.gh (pe_callG0 G Fn hk hg hm kp hb hd hdb)) fun σ H Q q => call_argsP at_ q

/-! ### the law -/
theorem caller_guards : callerA.guards = some [] := rfl
/-- the law's def, called by the head: the script as it lies there -/
theorem law_endG {Pr : Program} {w : World} {K : PySem.W.Frag} {mg mb : Str → Option Value} {k : Nat} {fa a : Addr} {fd : FuncData} {x : Str} {φ : List D → IH → R (D × IH)} {s1 : Shared} {vs : List Value} {ns : List Int}
    (KX : K.In s1.heap) (hns : s1.heap.Ns mainGlobals mg) (hb : s1.heap.Ns builtinsNs mb) (hbb : ∀ x : Str, x ≠ "__name__" → mb x = bootBuiltins x) (hlim : s1.heap.NoLimit) (hg : s1.gens = #[])
    (ha : s1.heap.get? a = some { cls := .type "list", data := .seq vs.toArray }) (hi : IntsAre vs ns) (hl : ns.length ≤ sizeLine) (hr : Room k callerA)
    (Fn : ∀ base : Heap, K.In base → base.Ns mainGlobals mg → FnG ⟨Pr, w, K, mg, base⟩ k fa fd [x] φ) (hbind : ∀ (s : Shared) (u : Value), BindsTo s fd ⟨[u], []⟩ [(x, u)]) (law : ∃ ih, φ [.scr ns] [] = .ok (.pu (.bl true), ih)) :
    codeAny (model Pr w) callerA (.call (.ref fa) ⟨[.ref a], []⟩) (fun r s' => r = .ok (.ret (.bool true)) ∧ OldK s1.heap s'.heap ∧ s'.os = s1.os ∧ AllBare s'.gens) s1 := by
  obtain ⟨ihL, law⟩ := law
  have rv := vals_ints hi
  have lv := hi.length
  have main : ∀ H : Hp, Only H → ScR K H a ns → HOk Pr w H s1.heap → (∀ b, H b ≠ none → b = a) → (H a ≠ none → K.lookup a = none) →
      codeAny (model Pr w) callerA (.call (.ref fa) ⟨[.ref a], []⟩) (fun r s' => r = .ok (.ret (.bool true)) ∧ OldK s1.heap s'.heap ∧ s'.os = s1.os ∧ AllBare s'.gens) s1 := by
    intro H only scr ok one nk
    have noDict : ∀ {b : Addr} {o : Obj} {es : Array DictEntry} {ep : Nat}, s1.heap.get? b = some o → o.data = .dict es ep → H b = none := fun {b o es ep} e d => by
      rcases q : H b with _ | u
      · rfl
      · have e' : b = a := one b (by rw [q]; simp)
        rw [e', ha] at e
        cases e
        cases (show Data.seq vs.toArray _ = Data.dict es ep from d)
    have nsIn : ∀ {b : Addr} {mm : Str → Option Value}, s1.heap.Ns b mm → (hidT s1.heap H).Ns b mm := fun {b mm} ⟨o, es, ep, e, d, r⟩ => ⟨o, es, ep, hidT_get e (noDict e d), d, r⟩
    have kb : K.In (hidT s1.heap H) := fun b o e => hidT_get (KX b o e) (by
      rcases q : H b with _ | u
      · rfl
      · have e' : b = a := one b (by rw [q]; simp)
        rw [e', nk (by rw [← e', q]; simp)] at e
        cases e)
    have md : Mod K mg (hidT s1.heap H) := ⟨kb, nsIn hns, ⟨mb, nsIn hb, hbb⟩, by obtain ⟨mc, h1, h2⟩ := hlim; exact ⟨mc, nsIn h1, h2⟩⟩
    have e0 : Env0 Pr w K mg (hidT s1.heap H) callerA [] s1 H := ⟨rfl, md, fun b o e => of_hidT e, Nat.le_of_eq (hidT_size _ _), trivial, fun b z => (by cases z), ok, AllBare.of_eq hg⟩
    have hr0 : HR K (fun _ => False) [] [] H := ⟨rfl, List.nodup_nil, fun n a c h _ _ => by simp at h, fun a l => absurd l noLv, fun a h => by simp at h, fun _ h => h.elim⟩
    have run := (Fn _ kb (nsIn hns)).run callerA [] s1 H ⟨[.ref a], []⟩ [.ref a] [.ref a] (fun v _ => v = .bl true) hr caller_guards e0 (hbind s1 (.ref a)) (.cons rfl .nil) rfl
      ⟨fun _ => False, [], [], [.scr ns], hr0, ⟨.ref a, [], rfl, ⟨a, rfl, scr⟩, rfl⟩, by rw [law]; exact fun m' H' v _ r => r⟩
    refine codeAny_mono run fun r s' h => ?_
    rcases r with e | fl
    · exact h.elim
    · cases fl with
      | next => exact h.elim
      | brk => exact h.elim
      | cont => exact h.elim
      | ret u =>
        obtain ⟨v, H', os, bare, un, ok', r', q⟩ := h
        cases (show v = .bl true from q)
        cases (show u = Value.bool true from r')
        refine ⟨rfl, OldK.of_keep fun b o e => ?_, os, bare⟩
        rcases q : H b with _ | u
        · exact un.keep b o e q (fun z => by cases z) (by simp)
        · rcases only b with z | ⟨ob, xs, z⟩
          · rw [q] at z; cases z
          · obtain ⟨e1, _⟩ := ok b _ z
            obtain ⟨e2, _⟩ := ok' b _ (un.frzs b ob _ z)
            rw [e] at e1
            cases e1
            exact e2
  rcases hk : K.lookup a with _ | o
  · refine main (fun b => if b = a then some (.frz { cls := .type "list", data := .seq vs.toArray } (.lst (ns.map V.int))) else none) (fun b => ?_) (.inl ⟨{ cls := .type "list", data := .seq vs.toArray }, if_pos rfl⟩) (fun b u z => ?_) (fun b z => ?_) fun _ => hk
    · by_cases hb : b = a
      · exact .inr ⟨_, _, if_pos hb⟩
      · exact .inl (if_neg hb)
    · by_cases hb : b = a
      · cases (if_pos hb).symm.trans z
        rw [hb]
        exact ⟨ha, by rw [List.length_map]; exact hl, vs, _, rv, ha⟩
      · cases (if_neg hb).symm.trans z
    · exact Classical.byContradiction fun hb => z (if_neg hb)
  · have e := KX a o hk
    rw [ha] at e
    cases e
    exact main (fun _ => none) (fun _ => .inl rfl) (.inr ⟨_, vs.toArray, _, hk, rfl, rfl, rfl, by rw [List.size_toArray, lv]; exact hl, by simpa using rv⟩) (fun b u z => by cases z) (fun b z => absurd rfl z) fun z => absurd rfl z
/-- a law over a head by facts -/
theorem walk_ofG {l : PySem.W.OpenLaw} {n k : Nat} {q : Program} {loose : List Str} {XP : (Str → Option Value) → Heap → Prop} {YP : World → Heap → Prop} {d : DefRec} {x : Str} {φ : List D → IH → R (D × IH)}
    (hn : l.most = some n) (hn2 : n ≤ sizeLine) (hdf : d.params.defaults = []) (hr : Room k callerA)
    (Fn : ∀ (w : World) (mg : Str → Option Value) (fa : Addr) (h : Heap), YP w h → h.Ns mainGlobals mg → mg d.name = some (.ref fa) →
      ∃ (K : PySem.W.Frag) (fd : FuncData), K.In h ∧ (∀ (s : Shared) (u : Value), BindsTo s fd ⟨[u], []⟩ [(x, u)]) ∧ ∀ base : Heap, K.In base → base.Ns mainGlobals mg → FnG ⟨l.prog, w, K, mg, base⟩ k fa fd [x] φ)
    (law : ∀ ns : List Int, ns.length ≤ n → ∃ ih, φ [.scr ns] [] = .ok (.pu (.bl true), ih)) :
    PySem.W.WalkO q loose XP YP l.row.toRowW d [] (fun f vs => PySem.call f vs) := by
  refine Att.attach_call hn hdf fun w s₀ s₁ mg mb fa o pm cd doc a vs ns G Y ho hd hcd hmg hobj hints hlen hg => ?_
  obtain ⟨K, fd, KX, hb, hF⟩ := Fn w mg fa _ Y G.T.g hmg
  exact law_endG KX G.T.g G.T.b G.T.builtins G.T.nolimit hg hobj hints (Nat.le_trans hlen hn2) hr hF hb (law ns hlen)
end
end Dn

/-! Dn18: enumerate over a tuple. -/
namespace Dn
open PySem PySem.Spec PyProof.Rows L2
set_option maxHeartbeats 1000000 in
theorem meets_enum1 {v : Value} {o : Obj} {H : Heap → Prop} (B : Begins v o H) :
    Meets (Builtin.«enumerate.__new__» ⟨[.type "enumerate", v], []⟩) (fun _ R s => H s.heap ∧ R (.ok (.ret (.ref (s.heap.push o).objs.size)))
      { s with heap := (s.heap.push o).push { cls := .type "enumerate", data := .fields #[.none, .bool false, .ref s.heap.objs.size, rawInt 0, .none, .none] } }) :=
  .of_wp fun prog w A R s ⟨h1, h⟩ => by
    obtain ⟨hp, gg, d, tk, os⟩ := s
    have sub := sub_enumerate
    have it : ∀ {A' : Around} {E : Value → Shared → Prop} {Q : Value → Shared → Prop}, Q (.ref hp.objs.size) ⟨hp.push o, gg, d, tk, os⟩ → wpAny (model prog w) A' (pyIter v) Q E ⟨hp, gg, d, tk, os⟩ := fun q => B.iter prog w _ _ _ _ h1 q
    wp_walk using it
    refine wpAny_stack_any fun st => wpAny_pure ?_
    split
    · rename_i c _ _ _ _ _
      cases (c == Value.type "enumerate") <;> (wp_walk using it) <;> exact ⟨_, rfl, h⟩
    · (wp_walk using it) <;> exact ⟨_, rfl, h⟩
theorem enum_tuple {prog : Program} {w : World} {A : Around} {E : Value → Shared → Prop} {s : Shared} {a : Addr} {its : Array Value} {Q : Value → Shared → Prop} (ht : s.heap.IsTuple a its)
    (h : ∀ h', IsEnum h' (s.heap.objs.size + 1) s.heap.objs.size 0 .none → h'.IsTupleIter s.heap.objs.size a 0 → h'.objs.size = s.heap.objs.size + 2 → (∀ b o, s.heap.get? b = some o → h'.get? b = some o) → Q (.ref (s.heap.objs.size + 1)) { s with heap := h' }) :
    wpAny (model prog w) A (call (.type "enumerate") [.ref a]) Q E s := by
  refine callType_new F.called_enumerate (by decide) (F.typeCall_enumerate_1 _) (F.newCall_enumerate_1 _) (fun obj => F.args_object_init_2 obj _) F.entry_enumerate_new (meets_enum1 (begins_tuple a its)) ⟨ht, ?_⟩
  have sz : (s.heap.push { cls := .type "tuple_iterator", data := .fields #[.ref a, .int 0 0] }).objs.size = s.heap.objs.size + 1 := Heap.size_push ..
  show _ ∧ _
  rw [sz]
  have en : IsEnum ((s.heap.push { cls := .type "tuple_iterator", data := .fields #[.ref a, .int 0 0] }).push { cls := .type "enumerate", data := .fields #[.none, .bool false, .ref s.heap.objs.size, rawInt 0, .none, .none] }) (s.heap.objs.size + 1) s.heap.objs.size 0 .none := by
    have z := Heap.get?_push_size (s.heap.push { cls := .type "tuple_iterator", data := .fields #[.ref a, .int 0 0] }) (o := { cls := .type "enumerate", data := .fields #[.none, .bool false, .ref s.heap.objs.size, rawInt 0, .none, .none] }) rfl
    rw [sz] at z
    exact z
  exact ⟨⟨_, en, rfl⟩, h _ en ⟨_, Heap.get?_push_of_some _ (Heap.get?_push_size _ rfl), rfl, rfl⟩ (by rw [Heap.size_push, sz]) fun b o y => Heap.get?_push_of_some _ (Heap.get?_push_of_some _ y)⟩
/-- the tuple at a, each item in a new pair -/
def ItE (K : PySem.W.Frag) (a : Addr) : It :=
  ⟨fun i H => ∃ (xs : List V) (x : V), SqT K H a xs ∧ xs[i]? = some x, fun i H v H' => ∃ T x, v = .ref T ∧ H T = none ∧ H' = upd H T (.tup [.int (i : Nat), x]) ∧ ∀ xs, SqT K H a xs → xs[i]? = some x, fun i H => ∃ xs : List V, SqT K H a xs ∧ xs.length = i⟩
theorem turn_enumT {P : Program} {w : World} {K : PySem.W.Frag} {elts : List Expr} {kk : Nat} {tpos : Pos} (a e it : Addr) (hai : a ≠ it) (hae : a ≠ e) :
    Turn P w K (.Tuple elts kk tpos) (ItE K a) [e, it] e (fun i h => (∃ old, IsEnum h e it ((i : Nat) : Int) old) ∧ h.IsTupleIter it a i ∧ e ≠ it) where
  mem := by simp
  obj := fun i h ⟨⟨old, he⟩, ⟨o, ho, hc, hd⟩, _⟩ b hb => by
    rcases (show b = e ∨ b = it by simpa using hb) with rfl | rfl
    · exact ⟨_, he, fun v q => nomatch q⟩
    · exact ⟨o, ho, fun v q => by rw [hd] at q; cases q⟩
  keep := fun i h h' ⟨⟨old, he⟩, hi, hne⟩ k => ⟨⟨old, k e (by simp) _ he⟩, hi.at fun o q => k it (by simp) o q, hne⟩
  item := by
    intro X hP hw hK hc i pins s σ H E I hf ⟨⟨old, he⟩, hit, hne⟩ ⟨xs, x, hq, hx⟩
    subst hP hw hK
    obtain ⟨its, rv, p, hz⟩ := I.tuple hq
    obtain ⟨u, hu, ru⟩ := rv.get hx
    have el : e < s.heap.objs.size := Heap.lt_size he
    have il : it < s.heap.objs.size := by obtain ⟨_, q, _⟩ := hit; exact Heap.lt_size q
    have ilt : i < its.toArray.size := by have := (List.getElem?_eq_some_iff.mp hu).1; simpa using this
    refine wpAny_pyNext_enum_itemD (Draws.tuple (A := X.A.in1) (show X.A.in1.handled = none from I.ok.hd hc) it a hai its.toArray) he ⟨hit, p⟩ ilt hne (by simp [hne, Ne.symm hae]) fun x1 h' tk hx1 ho ⟨hit', _⟩ hT sz hk => ?_
    have ex : x1 = u := by
      have z : its.toArray[i]? = some u := by simpa using hu
      rw [z] at hx1
      exact (Option.some.inj hx1).symm
    subst ex
    refine ⟨_, rfl, wpAny_letOwnedTupleGo_enum (s := { s with heap := h', toks := tk + 1 }) ho fun h'' he' sb => ?_⟩
    have hT2 := (sb.2 _ (Nat.ne_of_gt el)).trans hT
    have new : ObjOk X.prog X.w (upd H s.heap.objs.size (.tup [.int (i : Nat), x])) h'' s.heap.objs.size (.tup [.int (i : Nat), x]) := ⟨by show 2 ≤ sizeLine; decide, [.int i tk, x1], .cons ⟨_, rfl⟩ (.cons ru .nil), ⟨_, hT2, rfl, _, rfl⟩⟩
    have I1 : Inv X pins σ (upd H s.heap.objs.size (.tup [.int (i : Nat), x])) { s with heap := h'', toks := tk + 1 } :=
      I.turnedNew (ch := [e, it]) (fun b ob hb q => (sb.2 b fun z => hb (by simp [z])).trans (hk b ob (fun z => hb (by simp [z])) (fun z => hb (by simp [z])) q)) hf (Nat.le_refl _) new
    refine ⟨.ref s.heap.objs.size, _, I1, rfl, ⟨_, x, rfl, I.hok.fresh (Nat.le_refl _), rfl, fun ys hy => by rw [I.tuple_inj hy hq]; exact hx⟩, ⟨⟨x1, by rw [show ((i + 1 : Nat) : Int) = (i : Int) + 1 by omega]; exact he'⟩, hit'.at fun o q => (sb.2 it (Ne.symm hne)).trans q, hne⟩, fun b hb => ?_⟩
    have bl : b < s.heap.objs.size := by
      rcases (show b = e ∨ b = it by simpa using hb) with rfl | rfl
      · exact el
      · exact il
    rw [upd_ne (Nat.ne_of_lt bl)]
    exact (hf b hb).1
  done := by
    intro X hP hw hK hc i pins s σ H E I hf ⟨⟨old, he⟩, hit, hne⟩ ⟨xs, hq, hx⟩
    subst hP hw hK
    obtain ⟨its, rv, p, hz⟩ := I.tuple hq
    obtain ⟨f0, f1, f2, f3, f4, f5⟩ := hf it (by simp)
    have hn : its.toArray.size = i := by have := rv.length; simp; omega
    exact wpAny_pyNext_enum_endD (Draws.tuple (A := X.A.in1) (show X.A.in1.handled = none from I.ok.hd hc) it a hai its.toArray) he (by rw [hn]; exact ⟨hit, p⟩) fun h' eb => ⟨rfl, I.turned (t' := s.toks) (fun b o hb q => eb b o hb q) f0 f1 f3 f4 f5⟩
  self := fun A i s Q E ⟨⟨_, he⟩, _⟩ h => wpAny_pyIter_enum he h
theorem pi_enumT {X : Cx} {e : Expr} {ta : TA} {p pos tpos : Pos} {elts : List Expr} {kk : Nat} (hg : Gl X "enumerate") (hm : X.mg "enumerate" = none) (ha : PA X [e] ta) (hs : starEach [e] X.env = [(false, eval e X.env)]) :
    PI X (.Tuple elts kk tpos) (.Call (.Name "enumerate" p) [e] [] pos) (fun σ H R => ta σ H fun vs H1 => ∃ a xs, vs = [.ref a] ∧ SqT X.K H1 a xs ∧ R (ItE X.K a) H1) := by
  refine ⟨fun pins s σ H R I h => Call_ (ld_blt I hg hm boot_enumerate (PyProof.Rows.callWith_type1 (thn (ha.run pos pins s σ H _ I h) fun us s1 ⟨vs, H1, I1, r1, a, xs, ex, hq, q⟩ => ?_) hs rfl))⟩
  subst ex
  obtain ⟨u, rfl, ru⟩ := vals1 r1
  cases ru
  obtain ⟨its, rv, p', hz⟩ := I1.tuple hq
  have al : a < s1.heap.objs.size := by obtain ⟨_, q, _⟩ := p'; exact Heap.lt_size q
  refine enum_tuple p' fun h' he hit sz hk => wpAny_pyIter_enum he ⟨s1.heap.objs.size + 1, [s1.heap.objs.size + 1, s1.heap.objs.size], _, _, H1, rfl, I1.kept (t' := s1.toks) hk, turn_enumT a (s1.heap.objs.size + 1) s1.heap.objs.size (Nat.ne_of_lt al) (Nat.ne_of_lt (Nat.lt_succ_of_lt al)), ⟨⟨.none, he⟩, hit, Nat.succ_ne_self _⟩, fun b hb => ?_, q⟩
  have hle : s1.heap.objs.size ≤ b := by
    rcases (show b = s1.heap.objs.size + 1 ∨ b = s1.heap.objs.size by simpa using hb) with z | z <;> (rw [z]; first | exact Nat.le_refl _ | exact Nat.le_add_right _ _)
  exact I1.fpOk hle (I1.hok.fresh hle)
/-! ### sources of loops -/
section
variable {g : GI} {N : List Str} {lev : Nat} {sc : Scope} {W : WX} {F : Addr → Prop} {m m' : List Addr} {ih ih' : IH} {H H' : Hp} {σ : L2.St} {env : Ev} {B : Addr → Prop}
def enumP : Nat → List P → List P
  | _, [] => []
  | k, p :: ps => .tup [.int (k : Nat), p] :: enumP (k + 1) ps
theorem enumP_len : ∀ (ps : List P) (k : Nat), (enumP k ps).length = ps.length
  | [], _ => rfl
  | _ :: ps, k => by simp [enumP, enumP_len ps]
theorem enumP_get : ∀ (ps : List P) (k i : Nat) (q : P), (enumP k ps)[i]? = some q → ∃ p, ps[i]? = some p ∧ q = .tup [.int ((k + i : Nat) : Int), p]
  | [], _, _, _, e => by simp [enumP] at e
  | p :: ps, k, 0, q, e => by cases e; exact ⟨p, rfl, rfl⟩
  | p :: ps, k, i + 1, q, e => by
    obtain ⟨p', e1, e2⟩ := enumP_get ps (k + 1) i q (by simpa [enumP] using e)
    exact ⟨p', by simpa using e1, by rw [e2, show k + 1 + i = k + (i + 1) by omega]⟩
theorem rp_pair {H : Hp} {B : Addr → Prop} {T : Addr} {x y : V} {p q : P} (hT : H T = none) (h1 : RP H B p x) (h2 : RP H B q y) : RP (upd H T (.tup [x, y])) B (.tup [p, q]) (.ref T) := by
  have k : Kp H (upd H T (.tup [x, y])) B B := Kp.kept (upd_kept hT)
  exact ⟨T, [x, y], rfl, upd_same, x, [y], rfl, RP.mono k _ _ h1, y, [], rfl, RP.mono k _ _ h2, rfl⟩
theorem itg_enumL {K : PySem.W.Frag} {a : Addr} {vs : List V} {ps : List P} (h1 : H a = some (.lst vs)) (nb : ¬ B a) (h2 : RPs H B ps vs) : ItG H B (Ite K a) (enumP 0 ps) := fun H' B' k => by
  have e : H' a = some (.lst vs) := k.lst a vs nb h1
  have h3 := RPs.mono k _ _ h2
  refine ⟨fun i p hp => ?_, vs, .of e, by rw [h3.length, enumP_len]; exact Nat.le_refl _⟩
  obtain ⟨p', e1, rfl⟩ := enumP_get ps 0 i p hp
  obtain ⟨v, e2, r1⟩ := h3.get e1
  refine ⟨⟨vs, v, .of e, e2⟩, fun x H2 ⟨T, y, ex, hT, eH, hy⟩ => ?_⟩
  subst ex eH
  have z := hy vs (.of e)
  rw [e2] at z
  cases z
  exact ⟨upd_kept hT, rp_pair hT (by rw [Nat.zero_add]; rfl) r1⟩
theorem itg_enumT {K : PySem.W.Frag} {a : Addr} {vs : List V} {ps : List P} (h1 : H a = some (.tup vs)) (h2 : RPs H B ps vs) : ItG H B (ItE K a) (enumP 0 ps) := fun H' B' k => by
  have e : H' a = some (.tup vs) := k.tup a vs h1
  have h3 := RPs.mono k _ _ h2
  refine ⟨fun i p hp => ?_, vs, .of e, by rw [h3.length, enumP_len]⟩
  obtain ⟨p', e1, rfl⟩ := enumP_get ps 0 i p hp
  obtain ⟨v, e2, r1⟩ := h3.get e1
  refine ⟨⟨vs, v, .of e, e2⟩, fun x H2 ⟨T, y, ex, hT, eH, hy⟩ => ?_⟩
  subst ex eH
  have z := hy vs (.of e)
  rw [e2] at z
  cases z
  exact ⟨upd_kept hT, rp_pair hT (by rw [Nat.zero_add]; rfl) r1⟩
def lotP : P → Option (List P)
  | .lst xs => some xs
  | .tup xs => some xs
  | _ => none
def iEnu (f : Ev → IH → R (D × IH)) : Ev → IH → R (List P × IH) := fun env ih => (dArgs [f] env ih).bind fun r => match r.1 with
  | [.pu (.lst xs)] => .ok (enumP 0 xs, r.2)
  | [.pu (.tup xs)] => .ok (enumP 0 xs, r.2)
  | _ => .stuck
theorem si_enum {f : Ev → IH → R (D × IH)} {e : Expr} {elts : List Expr} {kk : Nat} {p pos tpos : Pos} (hg : sc.names.lookup ("enumerate" : Str) = some .globalImplicit) (hm : g.mg "enumerate" = none) (ha : SA g N lev sc [f] [e]) : SI g N lev sc (iEnu f) (.Tuple elts kk tpos) (.Call (.Name "enumerate" p) [e] [] pos) := fun W X G => by
  refine PI.con (PI.or (pi_enum (G.scp.gl hg) (by rw [G.mg]; exact hm) (pa_of G ha) ha.star) (pi_enumT (G.scp.gl hg) (by rw [G.mg]; exact hm) (pa_of G ha) ha.star)) fun σ H Q q => ?_
  obtain ⟨F, m, ih, env, hr, er, q⟩ := q
  have q0 := q
  unfold iEnu at q
  cases e1 : dArgs [f] env ih with
  | exc c fs i =>
    left
    refine ⟨F, m, ih, env, hr, er, ?_⟩
    rw [e1] at q ⊢
    exact q
  | stuck => rw [e1] at q; exact q.elim
  | ok r =>
    obtain ⟨ds, ih1⟩ := r
    rw [e1] at q
    simp only [R.bind] at q
    have step : ∀ {T : List V → Hp → Prop}, (∀ m1 H1 xs, HR g.K F m1 ih1 H1 → Post g.K F m ih H m1 ih1 H1 → RDs g.K H1 (Bd F m1 ih1) m1 ds xs → T xs H1) → tA g W [f] σ H T := fun {T} hT => by
      refine ⟨F, m, ih, env, hr, er, ?_⟩
      rw [e1]
      exact fun m1 H1 xs p1 rx => hT m1 H1 xs p1.hr p1 rx
    split at q
    · left
      refine step fun m1 H1 xs hr1 p1 rx => ?_
      obtain ⟨x, rfl, r1⟩ := rx.one
      obtain ⟨a, vs, rfl, h1, nb, h2⟩ := r1
      exact ⟨a, vs, rfl, .of h1, q m1 H1 _ p1 (itg_enumL h1 nb h2)⟩
    · right
      refine step fun m1 H1 xs hr1 p1 rx => ?_
      obtain ⟨x, rfl, r1⟩ := rx.one
      obtain ⟨a, vs, rfl, h1, h2⟩ := r1
      exact ⟨a, vs, rfl, .of h1, q m1 H1 _ p1 (itg_enumT h1 h2)⟩
    · exact q.elim

/-! ### a dict's keys and pairs -/
def kP : Key → P
  | .inl i => .int i
  | .inr s => .str s
theorem kP_rp {k : Key} : RP H B (kP k) (kV k) := by cases k <;> rfl
theorem kPs_rp : ∀ (k : List Key), RPs H B (k.map kP) (k.map kV)
  | [] => rfl
  | k :: ks => ⟨kV k, ks.map kV, rfl, kP_rp, kPs_rp ks⟩
theorem RPk.get : ∀ {ps : List (Key × P)} {vs : List (Key × V)} {i : Nat} {k : Key} {v : V}, RPk H B ps vs → vs[i]? = some (k, v) → ∃ p, ps[i]? = some (k, p) ∧ RP H B p v
  | [], _, _, _, _, h, e => by rw [show _ = _ from h] at e; simp at e
  | (_, p) :: _, _, 0, _, _, h, e => by
    obtain ⟨v, r, rfl, h1, _⟩ := h
    cases e
    exact ⟨p, rfl, h1⟩
  | (_, p) :: _, _, i + 1, _, _, h, e => by
    obtain ⟨v, r, rfl, h1, h2⟩ := h
    obtain ⟨p', e1, e2⟩ := RPk.get (i := i) h2 (by simpa using e)
    exact ⟨p', by simpa using e1, e2⟩
theorem RPt.get : ∀ {ps : List (List Key × P)} {vs : List (List Key × V)} {i : Nat} {k : List Key} {v : V}, RPt H B ps vs → vs[i]? = some (k, v) → ∃ p, ps[i]? = some (k, p) ∧ RP H B p v
  | [], _, _, _, _, h, e => by rw [show _ = _ from h] at e; simp at e
  | (_, p) :: _, _, 0, _, _, h, e => by
    obtain ⟨v, r, rfl, h1, _⟩ := h
    cases e
    exact ⟨p, rfl, h1⟩
  | (_, p) :: _, _, i + 1, _, _, h, e => by
    obtain ⟨v, r, rfl, h1, h2⟩ := h
    obtain ⟨p', e1, e2⟩ := RPt.get (i := i) h2 (by simpa using e)
    exact ⟨p', by simpa using e1, e2⟩
theorem RPt.length : ∀ {ps : List (List Key × P)} {vs : List (List Key × V)}, RPt H B ps vs → vs.length = ps.length
  | [], _, h => by rw [show _ = _ from h]; rfl
  | (_, _) :: _, _, h => by
    obtain ⟨v, r, rfl, _, h⟩ := h
    simp [RPt.length h]
theorem itg_keys {a : Addr} {o : Obj} {kvs : List (Key × V)} {ks : List (Key × P)} (h1 : H a = some (.frz o (.dK kvs))) (h2 : RPk H B ks kvs) : ItG H B (Itk a o kvs) (ks.map fun kv => kP kv.1) := fun H' B' k => by
  have e := k.frz a o _ h1
  have h3 := RPk.mono k _ _ h2
  have hl : kvs.length = ks.length := h3.length
  refine ⟨fun i p hp => ?_, e, by simp [hl]⟩
  have hi : i < kvs.length := by have := (List.getElem?_eq_some_iff.mp hp).1; simp at this; omega
  refine ⟨⟨e, hi⟩, fun x H2 ⟨eH, k1, v1, e1, e2⟩ => ?_⟩
  subst eH e2
  obtain ⟨p', e3, _⟩ := RPk.get h3 e1
  rw [List.getElem?_map, e3] at hp
  cases hp
  exact ⟨fun _ _ z => z, kP_rp⟩
theorem itg_keysT {a : Addr} {o : Obj} {kvs : List (List Key × V)} {ks : List (List Key × P)} (h1 : H a = some (.frz o (.dT kvs))) (h2 : RPt H B ks kvs) : ItG H B (Itkt a o kvs) (ks.map fun kv => .tup (kv.1.map kP)) := fun H' B' k => by
  have e := k.frz a o _ h1
  have h3 := RPt.mono k _ _ h2
  have hl : kvs.length = ks.length := h3.length
  refine ⟨fun i p hp => ?_, e, by simp [hl]⟩
  have hi : i < kvs.length := by have := (List.getElem?_eq_some_iff.mp hp).1; simp at this; omega
  refine ⟨⟨e, hi⟩, fun x H2 ⟨eH, k1, v1, q1, e1, e2, e4⟩ => ?_⟩
  subst eH e2
  obtain ⟨p', e3, _⟩ := RPt.get h3 e1
  rw [List.getElem?_map, e3] at hp
  cases hp
  exact ⟨fun _ _ z => z, q1, _, rfl, e4, kPs_rp _⟩
theorem itg_items {a : Addr} {o : Obj} {kvs : List (Key × V)} {ks : List (Key × P)} (h1 : H a = some (.frz o (.dK kvs))) (h2 : RPk H B ks kvs) : ItG H B (Iti a o kvs) (ks.map fun kv => .tup [kP kv.1, kv.2]) := fun H' B' k => by
  have e := k.frz a o _ h1
  have h3 := RPk.mono k _ _ h2
  have hl : kvs.length = ks.length := h3.length
  refine ⟨fun i p hp => ?_, e, by simp [hl]⟩
  have hi : i < kvs.length := by have := (List.getElem?_eq_some_iff.mp hp).1; simp at this; omega
  refine ⟨⟨e, hi⟩, fun x H2 ⟨T, k1, v1, e1, e2, hT, eH⟩ => ?_⟩
  subst eH e2
  obtain ⟨p', e3, r3⟩ := RPk.get h3 e1
  rw [List.getElem?_map, e3] at hp
  cases hp
  exact ⟨upd_kept hT, rp_pair hT kP_rp r3⟩
def iKey (f : Ev → IH → R (D × IH)) : Ev → IH → R (List P × IH) := fun env ih => (f env ih).bind fun r => match r.1 with
  | .pu (.dic ks) => .ok (ks.map fun kv => kP kv.1, r.2)
  | .pu (.dit ks) => .ok (ks.map fun kv => .tup (kv.1.map kP), r.2)
  | _ => .stuck
theorem si_keys {f : Ev → IH → R (D × IH)} {tg e : Expr} (he : SE g N lev sc f e) : SI g N lev sc (iKey f) tg e := fun W X G => by
  refine PI.con (pi_keys (he W X G)) fun σ H Q q => ?_
  obtain ⟨F, m, ih, env, hr, er, q⟩ := q
  refine tD_I (k := fun d ih1 => match d with | .pu (.dic ks) => .ok (ks.map fun kv => kP kv.1, ih1) | .pu (.dit ks) => .ok (ks.map fun kv => .tup (kv.1.map kP), ih1) | _ => .stuck) hr er q fun m1 H1 x d ih1 _ hr1 p1 rx q1 => ?_
  split at q1
  · obtain ⟨a, o, kvs, rfl, h1, h2⟩ := rx
    exact ⟨a, o, rfl, .inl ⟨kvs, h1, q1 m1 H1 _ (Post.refl hr1) (itg_keys h1 h2)⟩⟩
  · obtain ⟨a, o, kvs, rfl, h1, h2⟩ := rx
    exact ⟨a, o, rfl, .inr ⟨kvs, h1, q1 m1 H1 _ (Post.refl hr1) (itg_keysT h1 h2)⟩⟩
  · exact q1.elim
def iItm (f : Ev → IH → R (D × IH)) : Ev → IH → R (List P × IH) := fun env ih => (f env ih).bind fun r => match r.1 with
  | .pu (.dic ks) => .ok (ks.map fun kv => .tup [kP kv.1, kv.2], r.2)
  | _ => .stuck
theorem si_items {f : Ev → IH → R (D × IH)} {e : Expr} {elts : List Expr} {kk : Nat} {tpos apos cpos : Pos} (he : SE g N lev sc f e) (hb : ∀ env, attributeBase e "items" env (eval e env) = eval e env) (hl : (apos.endLine == cpos.line) = true) : SI g N lev sc (iItm f) (.Tuple elts kk tpos) (.Call (.Attribute e "items" apos) [] [] cpos) := fun W X G => by
  refine PI.con (pi_items (he W X G) (hb X.env) hl) fun σ H Q q => ?_
  obtain ⟨F, m, ih, env, hr, er, q⟩ := q
  refine tD_I (k := fun d ih1 => match d with | .pu (.dic ks) => .ok (ks.map fun kv => .tup [kP kv.1, kv.2], ih1) | _ => .stuck) hr er q fun m1 H1 x d ih1 _ hr1 p1 rx q1 => ?_
  split at q1
  · obtain ⟨a, o, kvs, rfl, h1, h2⟩ := rx
    exact ⟨a, o, kvs, rfl, h1, q1 m1 H1 _ (Post.refl hr1) (itg_items h1 h2)⟩
  · exact q1.elim
end
end Dn

/-! Dn19: dict displays and dict comprehensions: new cells. -/
namespace Dn
open PySem PySem.Spec PyProof.Rows L2
section
variable {g : GI} {N : List Str} {lev : Nat} {sc : Scope} {W : WX} {F : Addr → Prop} {m m' : List Addr} {ih ih' : IH} {H H' : Hp} {σ : L2.St} {env : Ev} {B : Addr → Prop}
def keyD : D → Option Key
  | .pu p => toK p
  | _ => none
theorem keyD_rp {K : PySem.W.Frag} {m : List Addr} {d : D} {k : Key} {v : V} (e : keyD d = some k) (r : RD K H B m d v) : v = kV k := by
  cases d with
  | pu p => exact toK_rp e r
  | ref _ => cases e
  | scr _ => cases e
  | ke => cases e
  | tz _ => cases e
def dPr : List ((Ev → IH → R (D × IH)) × (Ev → IH → R (D × IH))) → Ev → IH → R (List (Key × D) × IH)
  | [], _, ih => .ok ([], ih)
  | (fk, fv) :: r, env, ih => (noX (fk env ih)).bind fun k => match keyD k.1 with
    | some kk => (noX (fv env k.2)).bind fun v => (dPr r env v.2).bind fun rest => .ok ((kk, v.1) :: rest.1, rest.2)
    | none => .stuck
/-- a dict display: a new cell -/
def dDict (prs : List ((Ev → IH → R (D × IH)) × (Ev → IH → R (D × IH)))) : Ev → IH → R (D × IH) := fun env ih => match okR (dPr prs env ih) with
  | some r => .ok (.ref r.2.length, r.2 ++ [.dic (mergeP r.1 [])])
  | none => .stuck
inductive SPs (g : GI) (N : List Str) (lev : Nat) (sc : Scope) : List ((Ev → IH → R (D × IH)) × (Ev → IH → R (D × IH))) → List (Option Expr) → List Expr → Prop
  | nil : SPs g N lev sc [] [] []
  | cons {fk fv : Ev → IH → R (D × IH)} {prs : List ((Ev → IH → R (D × IH)) × (Ev → IH → R (D × IH)))} {k v : Expr} {ks : List (Option Expr)} {vs : List Expr} : SE g N lev sc fk k → SE g N lev sc fv v → SPs g N lev sc prs ks vs → SPs g N lev sc ((fk, fv) :: prs) (some k :: ks) (v :: vs)
def trsOf (g : GI) (W : WX) (prs : List ((Ev → IH → R (D × IH)) × (Ev → IH → R (D × IH)))) : List (TE × TE) := prs.map fun p => (tD g W p.1, tD g W p.2)
theorem pps_of {X : Cx} {pos : Pos} (G : Gd g N lev sc W X) : ∀ {prs : List ((Ev → IH → R (D × IH)) × (Ev → IH → R (D × IH)))} {ks : List (Option Expr)} {vs : List Expr}, SPs g N lev sc prs ks vs → PPs X pos ks vs (trsOf g W prs)
  | _, _, _, .nil => pps_nil
  | _, _, _, .cons h1 h2 h3 => pps_cons (h1 W X G) (h2 W X G) (pps_of G h3)
theorem SPs.shape {prs : List ((Ev → IH → R (D × IH)) × (Ev → IH → R (D × IH)))} {ks : List (Option Expr)} {vs : List Expr} (h : SPs g N lev sc prs ks vs) : ks.all (·.isSome) = true ∧ ks.length = vs.length := by
  induction h with
  | nil => exact ⟨rfl, rfl⟩
  | cons _ _ _ ih => exact ⟨by simp [ih.1], by simp [ih.2]⟩
theorem tE_ofW {f : Ev → IH → R (D × IH)} {T : V → Hp → Prop} (hr : HR g.K F m ih H) (er : EvR g.K H (Bd F m ih) m env σ) {d : D} {ih1 : IH} (e : noX (f env ih) = .ok (d, ih1)) (hT : ∀ m1 H1 x, Post g.K F m ih H m1 ih1 H1 → RD g.K H1 (Bd F m1 ih1) m1 d x → T x H1) : tD g W f σ H T := by
  refine ⟨F, m, ih, env, hr, er, ?_⟩
  cases e1 : f env ih with
  | ok r => rw [e1] at e; cases e; exact hT
  | exc _ _ _ => rw [e1] at e; cases e
  | stuck => rw [e1] at e; cases e
theorem RDk.cons1 {K : PySem.W.Frag} {κ : Type} {m : List Addr} {k : κ} {d : D} {v : V} {ds : List (κ × D)} {vs : List (κ × V)} (h : RD K H B m d v) (r : RDk K H B m ds vs) : RDk K H B m ((k, d) :: ds) ((k, v) :: vs) := ⟨v, vs, rfl, h, r⟩
theorem tPairs_of : ∀ (prs : List ((Ev → IH → R (D × IH)) × (Ev → IH → R (D × IH)))) {m : List Addr} {ih : IH} {H : Hp} {rs : List (Key × D)} {ihF : IH} {T : List (V × V) → Hp → Prop}, HR g.K F m ih H → EvR g.K H (Bd F m ih) m env σ → dPr prs env ih = .ok (rs, ihF) →
    (∀ m1 H1 kvs, Post g.K F m ih H m1 ihF H1 → RDk g.K H1 (Bd F m1 ihF) m1 rs kvs → T (kvs.map fun kv => (kV kv.1, kv.2)) H1) → tPairs (trsOf g W prs) σ H T
  | [], m, ih, H, rs, ihF, T, hr, er, e, hT => by
    cases e
    exact hT m H [] (Post.refl hr) rfl
  | (fk, fv) :: r, m, ih, H, rs, ihF, T, hr, er, e, hT => by
    rw [dPr] at e
    cases e1 : noX (fk env ih) with
    | exc _ _ _ => rw [e1] at e; cases e
    | stuck => rw [e1] at e; cases e
    | ok kk =>
      obtain ⟨kd, ih1⟩ := kk
      rw [e1] at e
      simp only [R.bind] at e
      cases e2 : keyD kd with
      | none => rw [e2] at e; cases e
      | some k =>
        rw [e2] at e
        simp only at e
        refine tE_ofW hr er e1 fun m1 H1 x p1 rx => ?_
        have ex := keyD_rp e2 rx
        cases e3 : noX (fv env ih1) with
        | exc _ _ _ => rw [e3] at e; cases e
        | stuck => rw [e3] at e; cases e
        | ok vv =>
          obtain ⟨vd, ih2⟩ := vv
          rw [e3] at e
          simp only at e
          refine tE_ofW p1.hr (er.post hr p1) e3 fun m2 H2 y p2 ry => ?_
          cases e4 : dPr r env ih2 with
          | exc _ _ _ => rw [e4] at e; cases e
          | stuck => rw [e4] at e; cases e
          | ok rr =>
            obtain ⟨rest, ih3⟩ := rr
            rw [e4] at e
            cases e
            refine tPairs_of r p2.hr ((er.post hr p1).post p1.hr p2) e4 fun m3 H3 kvs p3 r3 => ?_
            rw [ex]
            exact hT m3 H3 ((k, y) :: kvs) ((p1.trans hr p2).trans hr p3) (RDk.cons1 (p3.rd p2.hr ry) r3)
theorem RDk.merge {K : PySem.W.Frag} {m : List Addr} (more : List (Key × D)) : ∀ {ks : List (Key × D)} {mv kvs : List (Key × V)}, RDk K H B m more mv → RDk K H B m ks kvs → RDk K H B m (mergeP more ks) (mergeK kvs mv) := by
  induction more with
  | nil => intro ks mv kvs h r; rw [show mv = [] from h]; exact r
  | cons p more ihm =>
    intro ks mv kvs h r
    obtain ⟨k, d⟩ := p
    obtain ⟨v, rest, rfl, h1, h2⟩ := h
    exact ihm (ks := putP ks k d) (kvs := putK kvs k v) h2 (RDk.put h1 r)
theorem se_dict {prs : List ((Ev → IH → R (D × IH)) × (Ev → IH → R (D × IH)))} {ks : List (Option Expr)} {vs : List Expr} {pos : Pos} (h : SPs g N lev sc prs ks vs) (h0 : ks.isEmpty = false) (h15 : (decide (ks.length ≤ 15)) = true) (hp : decide (prs.length ≤ 15) = true) : SE g N lev sc (dDict prs) (.Dict ks vs pos) := fun W X G => by
  refine PE.con (pe_disp (pps_of G h) h.shape.1 h.shape.2 (by intro z; rw [z] at h0; cases h0) (of_decide_eq_true h15)) fun σ H Q q => ?_
  obtain ⟨F, m, ih, env, hr, er, q⟩ := q
  unfold dDict at q
  cases e : dPr prs env ih with
  | exc _ _ _ => rw [e] at q; exact q.elim
  | stuck => rw [e] at q; exact q.elim
  | ok rr =>
    obtain ⟨rs, ihF⟩ := rr
    rw [e] at q
    intro p hD
    have fl : Fl g F m ih H p (.dK []) m ih (upd H p (.dK [])) (.dK []) := Fl.start hr hD
    refine tPairs_of prs fl.hr (fl.evr hr hD er) e fun m1 H1 kvs p1 rk => ?_
    have fl1 := fl.step hr hD rfl p1
    have fl2 := fl1.put (o' := .dK (mergeK [] kvs)) rfl
    have kk := fl1.kput (o' := .dK (mergeK [] kvs)) rfl
    refine ⟨fl1.at_, kvs, rfl, ?_, ?_⟩
    · have l1 : kvs.length = rs.length := RDk.length rk
      have l2 : ∀ (prs : List ((Ev → IH → R (D × IH)) × (Ev → IH → R (D × IH)))) (ih : IH) (rs : List (Key × D)) (ihF : IH), dPr prs env ih = .ok (rs, ihF) → rs.length = prs.length := fun prs => by
        induction prs with
        | nil => intro ih rs ihF e; cases e; rfl
        | cons p prs ihp =>
          intro ih rs ihF e
          obtain ⟨fk, fv⟩ := p
          rw [dPr] at e
          cases e1 : noX (fk env ih) with
          | exc _ _ _ => rw [e1] at e; cases e
          | stuck => rw [e1] at e; cases e
          | ok kk =>
            rw [e1] at e
            simp only [R.bind] at e
            split at e
            · cases e3 : noX (fv env kk.2) with
              | exc _ _ _ => rw [e3] at e; cases e
              | stuck => rw [e3] at e; cases e
              | ok vv =>
                rw [e3] at e
                simp only at e
                cases e4 : dPr prs env vv.2 with
                | exc _ _ _ => rw [e4] at e; cases e
                | stuck => rw [e4] at e; cases e
                | ok rr => rw [e4] at e; cases e; simp [ihp _ _ _ e4]
            · cases e
      rw [l1, l2 prs ih rs ihF e]
      exact of_decide_eq_true hp
    · have rk2 : RDk g.K (upd H1 p (.dK (mergeK [] kvs))) (Bd (F1 F p) m1 ihF) m1 (mergeP rs []) (mergeK [] kvs) := RDk.merge rs (RDk.mono kk (fun _ _ e => e) rk) rfl
      have pc := post_cell (c := .dic (mergeP rs [])) hr hD fl2.po fl2.hr fl2.at_ rk2 (by intro z; cases z)
      refine q _ _ _ pc ⟨p, rfl, ?_⟩
      rw [← fl2.hr.len]
      simp
def dNewK : Ev → IH → R (D × IH) := fun _ ih => .ok (.ref ih.length, ih ++ [.dic []])
def dNewT : Ev → IH → R (D × IH) := fun _ ih => .ok (.ref ih.length, ih ++ [.dit []])
theorem se_newK {pos : Pos} : SE g N lev sc dNewK (.Dict [] [] pos) := fun W X G => PE.con pe_dnewK fun σ H Q q => by
  obtain ⟨F, m, ih, env, hr, er, q⟩ := q
  exact fun p hp => fin_box (o := .dK []) hr q rfl hp
theorem se_newT {pos : Pos} : SE g N lev sc dNewT (.Dict [] [] pos) := fun W X G => PE.con pe_dnewT fun σ H Q q => by
  obtain ⟨F, m, ih, env, hr, er, q⟩ := q
  exact fun p hp => fin_box (o := .dT []) hr q rfl hp

/-! ### dict comprehensions -/
def dDcL (h : P → Ev → Option Ev) (t : Option (Ev → IH → R (D × IH))) (fk fv : Ev → IH → R (D × IH)) (env : Ev) : List P → List (Key × D) → IH → R (List (Key × D) × IH)
  | [], acc, ih => .ok (acc, ih)
  | p :: ps, acc, ih => match h p env with
    | none => .stuck
    | some env1 => (dTests t env1 ih).bind fun b => match b.1 with
      | true => (noX (fk env1 b.2)).bind fun k => (match keyD k.1 with
        | some kk => (noX (fv env1 k.2)).bind fun v => dDcL h t fk fv env ps (putP acc kk v.1) v.2
        | none => .stuck)
      | false => dDcL h t fk fv env ps acc b.2
def dDc (h : P → Ev → Option Ev) (src : Ev → IH → R (List P × IH)) (t : Option (Ev → IH → R (D × IH))) (fk fv : Ev → IH → R (D × IH)) (vs : List Nat) : Ev → IH → R (D × IH) := fun env ih => (src env ih).bind fun r =>
  if r.1.length ≤ SL then (match okR (dDcL h t fk fv (wipeE vs env) r.1 [] r.2) with
    | some y => .ok (.ref y.2.length, y.2 ++ [.dic y.1])
    | none => .stuck) else .stuck
theorem putP_len {κ α : Type} [DecidableEq κ] (kvs : List (κ × α)) (k : κ) (v : α) : (putP kvs k v).length ≤ kvs.length + 1 := by
  unfold putP
  split <;> simp
theorem dc_core2 {h : P → Ev → Option Ev} {sl vs : List Nat} {t : Option (Ev → IH → R (D × IH))} {fk fv : Ev → IH → R (D × IH)} {J : It} {ps : List P} {Dn : Addr} {dsF : List (Key × D)} {ihF : IH} {Qd : Hp → Prop} (hs : ∀ j ∈ sl, j ∈ vs) (hr : HR g.K F m ih H) (er : EvR g.K H (Bd F m ih) m env σ) (itg : ItG H (Bd F m ih) J ps) (hD : H Dn = none)
    (hl : ps.length ≤ SL) (q : dDcL h t fk fv (wipeE vs env) ps [] ih = .ok (dsF, ihF))
    (fin : ∀ m1 H1 vsF, Fl g F m ih H Dn (.dK []) m1 ihF H1 (.dK vsF) → RDk g.K H1 (Bd (F1 F Dn) m1 ihF) m1 dsF vsF → Qd H1) :
    ∃ Wm : Nat → Nat → Hp → Prop, (∃ k, Wm 0 k (upd H Dn (.dK []))) ∧ ∀ i k H, Wm i k H →
      (J.stop i H ∧ Qd H) ∨ (J.go i H ∧ ∃ Nx : Hp → Prop, (∀ H', Nx H' → ∃ k', k' < k ∧ Wm (i + 1) k' H') ∧ ∀ x H', J.yld i H x H' → tG g h sl x (L2.wipe σ vs) H' fun σ2 H2 => L2.wipe σ2 vs = L2.wipe σ vs ∧ tTs g t σ2 H2 fun b H3 =>
        if b = true then tD g WNo fk σ2 H3 fun y H4 => tD g WNo fv σ2 H4 fun z H5 => ∃ kvs k, y = kV k ∧ H5 Dn = some (.dK kvs) ∧ kvs.length < sizeLine ∧ Nx (upd H5 Dn (.dK (putK kvs k z))) else Nx H3) := by
  let Wm : Nat → Nat → Hp → Prop := fun i k H1 => ∃ m1 ih1 ds vs', Fl g F m ih H Dn (.dK []) m1 ih1 H1 (.dK vs') ∧ RDk g.K H1 (Bd (F1 F Dn) m1 ih1) m1 ds vs' ∧ vs'.length ≤ i ∧ i + k = ps.length ∧ dDcL h t fk fv (wipeE vs env) (ps.drop i) ds ih1 = .ok (dsF, ihF)
  refine ⟨Wm, ⟨ps.length, m, ih, [], [], Fl.start hr hD, rfl, Nat.le_refl _, by omega, by simpa using q⟩, fun i k H1 w => ?_⟩
  obtain ⟨m1, ih1, ds, vs', fl, rd, hvl, hk, eq⟩ := w
  obtain ⟨it1, it2⟩ := itg H1 _ (fl.kp hr hD)
  by_cases hi : i < ps.length
  · right
    obtain ⟨go, yl⟩ := it1 i _ (List.getElem?_eq_getElem hi)
    rw [List.drop_eq_getElem_cons hi, dDcL] at eq
    refine ⟨go, Wm (i + 1) (k - 1), fun H' nn => ⟨k - 1, by omega, nn⟩, fun x H' y => ?_⟩
    obtain ⟨keep, rx⟩ := yl x H' y
    have fl2 := fl.step hr hD rfl (Post.kept fl.hr keep)
    have rd2 := (Post.kept fl.hr keep).rdk fl.hr rd
    have er2 : EvR g.K H' (Bd (F1 F Dn) m1 ih1) m1 (wipeE vs env) (L2.wipe σ vs) := (fl2.evr hr hD er).block vs
    cases e1 : h ps[i] (wipeE vs env) with
    | none => rw [e1] at eq; cases eq
    | some env1 =>
      rw [e1] at eq
      simp only at eq
      refine ⟨F1 F Dn, m1, ih1, wipeE vs env, ps[i], fl2.hr, er2, rx, env1, e1, fun σ2 er3 sm => ⟨wipe_same sm hs, ?_⟩⟩
      cases e2 : dTests t env1 ih1 with
      | exc _ _ _ => rw [e2] at eq; cases eq
      | stuck => rw [e2] at eq; cases eq
      | ok bb =>
        obtain ⟨b, ih2⟩ := bb
        rw [e2] at eq
        simp only [R.bind] at eq
        refine tTs_of fl2.hr er3 e2 fun m2 H3 p3 => ?_
        have fl3 := fl2.step hr hD rfl p3
        have rd3 := p3.rdk fl2.hr rd2
        cases b with
        | false =>
          simp only [Bool.false_eq_true, if_false]
          exact ⟨m2, ih2, ds, vs', fl3, rd3, by omega, by omega, eq⟩
        | true =>
          simp only [if_true]
          cases e3 : noX (fk env1 ih2) with
          | exc _ _ _ => simp only [e3] at eq; cases eq
          | stuck => simp only [e3] at eq; cases eq
          | ok kk =>
            obtain ⟨kd, ih3⟩ := kk
            simp only [e3] at eq
            cases e5 : keyD kd with
            | none => simp only [e5] at eq; cases eq
            | some ky =>
              simp only [e5] at eq
              refine tE_of fl3.hr (er3.post fl2.hr p3) e3 fun m3 H4 y4 p4 ry => ?_
              have ey := keyD_rp e5 ry
              have fl4 := fl3.step hr hD rfl p4
              have rd4 := p4.rdk fl3.hr rd3
              cases e4 : noX (fv env1 ih3) with
              | exc _ _ _ => simp only [e4] at eq; cases eq
              | stuck => simp only [e4] at eq; cases eq
              | ok vv =>
                obtain ⟨vd, ih4⟩ := vv
                simp only [e4] at eq
                refine tE_of fl4.hr ((er3.post fl2.hr p3).post fl3.hr p4) e4 fun m4 H5 z5 p5 rz => ?_
                have fl5 := fl4.step hr hD rfl p5
                have rd5 := p5.rdk fl4.hr rd4
                have lt : vs'.length < sizeLine := by rw [SL_eq]; omega
                have kk := fl5.kput (o' := .dK (putK vs' ky z5)) rfl
                have ll := length_putK vs' ky z5
                exact ⟨vs', ky, ey, fl5.at_, lt, m4, ih4, putP ds ky vd, putK vs' ky z5, fl5.put rfl, RDk.put (RD.mono kk (fun _ _ e => e) rz) (RDk.mono kk (fun _ _ e => e) rd5), by omega, by omega, eq⟩
  · left
    have ei : i = ps.length := by omega
    subst ei
    rw [List.drop_length, dDcL] at eq
    cases eq
    exact ⟨it2, fin m1 H1 vs' fl rd⟩
theorem tDc_of {h : P → Ev → Option Ev} {src : Ev → IH → R (List P × IH)} {sl vs : List Nat} {t : Option (Ev → IH → R (D × IH))} {fk fv : Ev → IH → R (D × IH)} (hs : ∀ j ∈ sl, j ∈ vs) (σ : L2.St) (H : Hp) (Q : VK) (q : tD g W (dDc h src t fk fv vs) σ H Q) :
    tDc (tI g W src) (tG g h sl) (tTs g t) (tD g WNo fk) (tD g WNo fv) vs σ H Q := by
  obtain ⟨F, m, ih, env, hr, er, q⟩ := q
  refine ⟨F, m, ih, env, hr, er, ?_⟩
  unfold dDc at q
  cases e0 : src env ih with
  | exc c fs i => rw [e0] at q; exact q
  | stuck => rw [e0] at q; exact q
  | ok r =>
    obtain ⟨ps, ih1⟩ := r
    rw [e0] at q
    simp only [R.bind] at q
    split at q
    · rename_i hl
      cases ez : dDcL h t fk fv (wipeE vs env) ps [] ih1 with
      | exc _ _ _ => rw [ez] at q; exact q.elim
      | stuck => rw [ez] at q; exact q.elim
      | ok y =>
        obtain ⟨dsF, ihF⟩ := y
        rw [ez] at q
        intro m1 H1 J p1 itg Dn hD
        refine dc_core2 hs p1.hr (er.post hr p1) itg hD hl ez fun m2 H2 vsF fl rd => ?_
        have pc := post_cell (c := .dic dsF) p1.hr hD fl.po fl.hr fl.at_ rd (by intro z; cases z)
        refine q _ H2 _ (p1.trans hr pc) ⟨Dn, rfl, ?_⟩
        rw [← fl.hr.len]
        simp
    · exact q.elim
theorem se_dc {h : P → Ev → Option Ev} {src : Ev → IH → R (List P × IH)} {sl : List Nat} {own : List (Str × Nat)} {t : Option (Ev → IH → R (D × IH))} {fk fv : Ev → IH → R (D × IH)} {kx vx tg iter : Expr} {ifs : List Expr} {scope : Scope} {pos : Pos}
    (hi : SI g N lev sc src tg iter) (ok : BlkOk N sc scope own) (hg : SG g N lev scope h sl tg) (ht : STs g N lev scope t ifs) (hk : SE g N lev scope fk kx) (hv : SE g N lev scope fv vx) (hs : ∀ j ∈ sl, j ∈ own.map (·.2)) (hn : notSet iter = true) :
    SE g N lev sc (dDc h src t fk fv (own.map (·.2))) (.DictComp kx vx [⟨tg, iter, ifs, 0⟩] scope pos) := fun W X G =>
  PE.con (pe_dc (wi := tI g W src) (g := tG g h sl) (tt := tTs g t) (tk := tD g WNo fk) (tv := tD g WNo fv) G.calm (by rw [G.nm]; exact G.nd) (hi W X G) (blkOk_ex G ok) (fun s H C cl fp => hg _ _ (G.blk s H C cl fp)) (fun s H C cl fp => pts_of (G.blk s H C cl fp) ht) (fun s H C cl fp => hk _ _ (G.blk s H C cl fp)) (fun s H C cl fp => hv _ _ (G.blk s H C cl fp)) (folded_plain hn X.env)) (tDc_of hs)
end
end Dn

/-! Dn20: freezing a variable ahead of a statement; name = {..}; displays with stars; dict.update. -/
namespace Dn
open PySem PySem.Spec PyProof.Rows L2
section
variable {g : GI} {N : List Str} {lev : Nat} {sc : Scope} {W : WX} {F : Addr → Prop} {m m' : List Addr} {ih ih' : IH} {H H' : Hp} {σ : L2.St} {env : Ev} {B : Addr → Prop} {D' : Ends}
theorem PS.gh {X : Cx} {st : Stmt} {t : TS} (h : PS X st t) : PS X st (fun D' σ H => Gh (t D' σ) H) :=
  ⟨fun pins s σ H D' I q => by
    obtain ⟨H2, I2, q2⟩ := q.inv I
    exact h.run pins s σ H2 D' I2 q2⟩
/-- the variable's cell is closed -/
def dFzV (i : Nat) : Ev → IH → RS := fun env ih => match env[i]? with
  | some (some d) => (match frz 8 ih d with
    | some (p, ih') => .nx (env.set i (some (.pu p))) ih'
    | none => .stuck)
  | _ => .stuck
theorem ss_fzv {i : Nat} {f : Ev → IH → RS} {st : Stmt} (h : SS g N lev sc f st) : SS g N lev sc (dSeq (dFzV i) f) st := fun W X G => by
  refine PS.con (PS.gh (h W X G)) fun D' σ H q => ?_
  obtain ⟨F, m, ih, env, hr, er, q⟩ := q
  unfold dSeq dFzV at q
  cases e1 : env[i]? with
  | none => rw [e1] at q; exact q.elim
  | some o =>
    rw [e1] at q
    cases o with
    | none => exact q.elim
    | some d =>
      simp only at q
      cases e2 : frz 8 ih d with
      | none => rw [e2] at q; exact q.elim
      | some y =>
        obtain ⟨p, ih2⟩ := y
        rw [e2] at q
        simp only at q
        obtain ⟨v, hv, rv⟩ := er.get i d e1
        refine (frz_ok 8 _ F m H ih ih2 d p v e2 hr rv).bind fun H2 ⟨po, rp⟩ => .done ?_
        have er2 : EvR g.K H2 (Bd F m ih2) m (env.set i (some (.pu p))) (σ.set i (some v)) := (er.post hr po).set rp
        have es : σ.set i (some v) = σ := by
          refine List.ext_getElem? fun j => ?_
          by_cases hj : i = j
          · subst hj
            rw [List.getElem?_set_self (List.getElem?_eq_some_iff.mp hv).1, hv]
          · rw [List.getElem?_set_ne hj]
        rw [es] at er2
        exact ⟨F, m, ih2, _, po.hr, er2, FinS.rebase hr po q⟩

/-! ### name = {k: v for ..} in one line -/
theorem ps_setDc {X : Cx} {i : Nat} {y : Str} {py : Pos} {kx vx tg iter : Expr} {ifs : List Expr} {scope : Scope} {own : List (Str × Nat)} {pos spos : Pos} {wi : TI} {gg : TG} {tt : TT} {tk tv : TE} (hc : X.calm = true) (hN : X.N.Nodup) (hy : X.N[i]? = some y) (hyl : X.env.scope.names.lookup y = some .local)
    (sw : swapsWith (.DictComp kx vx [⟨tg, iter, ifs, 0⟩] scope pos) (some (.Name y py)) spos.line X.env = pure true) (hi : PI X tg iter wi) (ok : BlkOk X.N X.env.scope scope own)
    (hg : ∀ (s : Shared) (H : Hp) (C : Addr) (cl : List (Str × Addr)) (fp : List Addr), PG (X.blk s H scope (compEnvC scope cl C X.env) fp) tg gg) (ht : ∀ (s : Shared) (H : Hp) (C : Addr) (cl : List (Str × Addr)) (fp : List Addr), PTs (X.blk s H scope (compEnvC scope cl C X.env) fp) ifs tt)
    (hk : ∀ (s : Shared) (H : Hp) (C : Addr) (cl : List (Str × Addr)) (fp : List Addr), PE (X.blk s H scope (compEnvC scope cl C X.env) fp) kx tk) (he : ∀ (s : Shared) (H : Hp) (C : Addr) (cl : List (Str × Addr)) (fp : List Addr), PE (X.blk s H scope (compEnvC scope cl C X.env) fp) vx tv)
    (hs : ∀ x, foldedSetIterable iter X.env x = pure x) : PS X (.Assign [.Name y py] (.DictComp kx vx [⟨tg, iter, ifs, 0⟩] scope pos) spos) (tAsg (tDc wi gg tt tk tv (own.map (·.2))) (gName i)) := by
  refine ⟨fun pins s σ H D' I h => ?_⟩
  rw [exec_Assign_Name_used _ _ _ _ sw]
  refine wpAny_bind (wpAny_standAt (wpAny_bind ?_))
  show wpAny _ X.A (do let _ ← comprehension (.DictComp kx vx [⟨tg, iter, ifs, 0⟩] scope pos) scope X.env (firstIterPos [⟨tg, iter, ifs, 0⟩] pos) newDict false (eval iter X.env) (some (assign (.Name y py) X.env))) _ _ s
  have h1 : tDc wi gg tt tk tv (own.map (·.2)) σ H (fun x H1 => gName i x σ H1 D'.nx) := h
  refine wpAny_bind (thn (dc_core (Qf := fun _ s' => SP X pins D' .next s') hc hN I hi ok hg ht hk he hs h1 fun L C s' mm H1 I1 q hn f => ?_) fun _ s' hq => wpAny_pure (wpAny_pure hq))
  show wpAny _ _ (assign (.Name y py) X.env (.ref L)) _ _ _
  obtain ⟨f0, f1, f2, f3, f4, f5⟩ := f
  refine wpAny_assign_Name (store_ok2 (v := V.ref L) I1 hN hy (.inl hyl) rfl (fun s2 I2 ⟨a, sb, ha⟩ => ⟨mm, hn.sameBut sb ?_, fun h3 sb3 => ⟨_, H1, I2.turned (t' := s2.toks) (fun b o hb e => (sb3.2 b hb).trans e) f0 f1 f3 f4 f5, q⟩⟩) (.inr hyl))
  rcases ha with z | z
  · rw [z]; exact f1
  · exact fun e => f4 y a z e.symm
theorem sw_trueD {kx vx : Expr} {gs : List Comprehension} {scope : Scope} {pos py : Pos} {y : Str} {l : Nat} {env : Env} (hk : env.scope.kind = .function) (hy : env.scope.names.lookup y = some .local) (hl : (py.line == pos.line) = true)
    (ha : (scope.names.any fun (n, k) => n == y && (k == .local || k == .cell)) = false) : swapsWith (.DictComp kx vx gs scope pos) (some (.Name y py)) l env = pure true := by
  have h1 : env.kindOf y = some .local := hy
  have h2 : env.blockKind = .function := by unfold Env.blockKind; rw [hk]; rfl
  unfold swapsWith
  simp only [h2, h1, ha, Expr.pos, hl]
  rfl
theorem ss_setDc {i : Nat} {y : Str} {py spos : Pos} {h : P → Ev → Option Ev} {src : Ev → IH → R (List P × IH)} {sl : List Nat} {own : List (Str × Nat)} {t : Option (Ev → IH → R (D × IH))} {fk fv : Ev → IH → R (D × IH)} {kx vx tg iter : Expr} {ifs : List Expr} {scope : Scope} {pos : Pos}
    (hy : N[i]? = some y) (hyl : sc.names.lookup y = some .local) (hk : sc.kind = .function) (hln : (py.line == pos.line) = true) (ha : (scope.names.any fun (n, k) => n == y && (k == .local || k == .cell)) = false)
    (hi : SI g N lev sc src tg iter) (ok : BlkOk N sc scope own) (hg : SG g N lev scope h sl tg) (ht : STs g N lev scope t ifs) (hkx : SE g N lev scope fk kx) (hv : SE g N lev scope fv vx) (hs : ∀ j ∈ sl, j ∈ own.map (·.2)) (hn : notSet iter = true) :
    SS g N lev sc (dSet i (dDc h src t fk fv (own.map (·.2)))) (.Assign [.Name y py] (.DictComp kx vx [⟨tg, iter, ifs, 0⟩] scope pos) spos) := fun W X G => by
  refine PS.con (ps_setDc (wi := tI g W src) (gg := tG g h sl) (tt := tTs g t) (tk := tD g WNo fk) (tv := tD g WNo fv) G.calm (by rw [G.nm]; exact G.nd) (by rw [G.nm]; exact hy) (G.scp.lo hyl) (sw_trueD (by rw [G.scp.kind]; exact hk) (G.scp.lo hyl) hln ha) (hi W X G) (blkOk_ex G ok) (fun s H C cl fp => hg _ _ (G.blk s H C cl fp)) (fun s H C cl fp => pts_of (G.blk s H C cl fp) ht) (fun s H C cl fp => hkx _ _ (G.blk s H C cl fp)) (fun s H C cl fp => hv _ _ (G.blk s H C cl fp)) (folded_plain hn X.env)) fun D' σ H q => ?_
  obtain ⟨F, m, ih, env, hr, er, q⟩ := q
  refine tDc_of hs σ H _ ?_
  exact tD_S (k := fun d ih1 => .nx (env.set i (some d)) ih1) hr er q fun m1 H1 x d ih1 hr1 p1 rx q1 => q1 m1 H1 _ (Post.refl hr1) ((er.post hr p1).set rx)

/-! ### displays with stars -/
def starP : D → Option (List D)
  | .pu (.tup xs) => some (xs.map D.pu)
  | .pu (.lst xs) => some (xs.map D.pu)
  | _ => none
def dArgX : List (Bool × (Ev → IH → R (D × IH))) → Ev → IH → R (List D × IH)
  | [], _, ih => .ok ([], ih)
  | (false, f) :: fs, env, ih => (f env ih).bind fun r => (dArgX fs env r.2).bind fun rs => .ok (r.1 :: rs.1, rs.2)
  | (true, f) :: fs, env, ih => (f env ih).bind fun r => match starP r.1 with
    | some ds => (dArgX fs env r.2).bind fun rs => .ok (ds ++ rs.1, rs.2)
    | none => .stuck
def tAX (g : GI) (W : WX) (fs : List (Bool × (Ev → IH → R (D × IH)))) : TA := fun σ H Q => ∃ F m ih env, HR g.K F m ih H ∧ EvR g.K H (Bd F m ih) m env σ ∧ FinA g W F m ih H σ Q (dArgX fs env ih)
inductive SAX (g : GI) (N : List Str) (lev : Nat) (sc : Scope) : List (Bool × (Ev → IH → R (D × IH))) → List Expr → Prop
  | nil : SAX g N lev sc [] []
  | one {f : Ev → IH → R (D × IH)} {fs : List (Bool × (Ev → IH → R (D × IH)))} {e : Expr} {es : List Expr} : SE g N lev sc f e → (∀ (e' : Expr) (p : Pos), e ≠ .Starred e' p) → SAX g N lev sc fs es → SAX g N lev sc ((false, f) :: fs) (e :: es)
  | star {f : Ev → IH → R (D × IH)} {fs : List (Bool × (Ev → IH → R (D × IH)))} {e : Expr} {es : List Expr} {p : Pos} : SE g N lev sc f e → SAX g N lev sc fs es → SAX g N lev sc ((true, f) :: fs) (.Starred e p :: es)
theorem starP_rd {K : PySem.W.Frag} {d : D} {ds : List D} {v : V} (e : starP d = some ds) (r : RD K H B m d v) : ∃ a xs, v = .ref a ∧ (SqT K H a xs ∨ SqL K H a xs) ∧ RDs K H B m ds xs := by
  unfold starP at e
  split at e
  · cases e
    obtain ⟨a, vs, rfl, h1, h2⟩ := r
    exact ⟨a, vs, rfl, .inl (.of h1), h2.toDs⟩
  · cases e
    obtain ⟨a, vs, rfl, h1, _, h2⟩ := r
    exact ⟨a, vs, rfl, .inr (.of h1), h2.toDs⟩
  · cases e
theorem FinA.rebase {m' : List Addr} {ih' : IH} {H' : Hp} (hr : HR g.K F m ih H) (p : Post g.K F m ih H m' ih' H') {Q : List V → Hp → Prop} {r : R (List D × IH)} (h : FinA g W F m ih H σ Q r) : FinA g W F m' ih' H' σ Q r := by
  cases r with
  | ok r => exact fun m2 H2 v p2 r2 => h m2 H2 v (p.trans hr p2) r2
  | exc c fs ih2 => exact fun m2 H2 cls dd p2 r2 => h m2 H2 cls dd (p.trans hr p2) r2
  | stuck => exact h
theorem paX_of {X : Cx} (G : Gd g N lev sc W X) : ∀ {fs : List (Bool × (Ev → IH → R (D × IH)))} {es : List Expr}, SAX g N lev sc fs es → PA X es (tAX g W fs)
  | _, _, .nil => ⟨fun pos pins s σ H Q I h => pa_nil.run pos pins s σ H Q I (by
      obtain ⟨F, m, ih, env, hr, er, h⟩ := h
      exact h m H [] (Post.refl hr) rfl)⟩
  | _, _, .one (f := f) (fs := fs) h1 h2 h3 => ⟨fun pos pins s σ H Q I h => (pa_cons (h1 W X G) (paX_of G h3) (star_plain h2)).run pos pins s σ H Q I (by
      obtain ⟨F, m, ih, env, hr, er, h⟩ := h
      refine ⟨F, m, ih, env, hr, er, ?_⟩
      rw [dArgX] at h
      cases e : f env ih with
      | ok r =>
        rw [e] at h
        simp only [R.bind] at h
        intro m1 H1 v p1 r1
        refine ⟨F, m1, r.2, env, p1.hr, er.post hr p1, ?_⟩
        cases e2 : dArgX fs env r.2 with
        | ok rs =>
          rw [e2] at h
          exact fun m2 H2 vs p2 r2 => h m2 H2 (v :: vs) (p1.trans hr p2) ⟨v, vs, rfl, p2.rd p1.hr r1, r2⟩
        | exc c fs ih2 => rw [e2] at h; exact fun m2 H2 cls dd p2 r2 => h m2 H2 cls dd (p1.trans hr p2) r2
        | stuck => rw [e2] at h; exact h.elim
      | exc c fs ih2 => rw [e] at h; exact h
      | stuck => rw [e] at h; exact h)⟩
  | _, _, .star (f := f) (fs := fs) h1 h3 => ⟨fun pos pins s σ H Q I h => (StX.pa_star (h1 W X G) (paX_of G h3)).run pos pins s σ H Q I (by
      obtain ⟨F, m, ih, env, hr, er, h⟩ := h
      refine ⟨F, m, ih, env, hr, er, ?_⟩
      rw [dArgX] at h
      cases e : f env ih with
      | ok r =>
        rw [e] at h
        simp only [R.bind] at h
        intro m1 H1 v p1 r1
        cases e3 : starP r.1 with
        | none => rw [e3] at h; exact h.elim
        | some ds =>
          rw [e3] at h
          simp only at h
          obtain ⟨a, xs, ev, sq, rds⟩ := starP_rd e3 r1
          refine ⟨a, xs, ev, by rw [G.K]; exact sq, F, m1, r.2, env, p1.hr, er.post hr p1, ?_⟩
          cases e2 : dArgX fs env r.2 with
          | ok rs =>
            rw [e2] at h
            exact fun m2 H2 vs p2 r2 => h m2 H2 (xs ++ vs) (p1.trans hr p2) ((p2.rds p1.hr rds).app r2)
          | exc c fs ih2 => rw [e2] at h; exact fun m2 H2 cls dd p2 r2 => h m2 H2 cls dd (p1.trans hr p2) r2
          | stuck => rw [e2] at h; exact h.elim
      | exc c fs ih2 => rw [e] at h; exact h
      | stuck => rw [e] at h; exact h)⟩
def dTupX (fs : List (Bool × (Ev → IH → R (D × IH)))) : Ev → IH → R (D × IH) := fun env ih => (dArgX fs env ih).bind fun r => match allPu r.1 with
  | some ps => if ps.length ≤ SL then .ok (.pu (.tup ps), r.2) else .stuck
  | none => .stuck
theorem se_tupX {fs : List (Bool × (Ev → IH → R (D × IH)))} {es : List Expr} {k : Nat} {pos : Pos} (h : SAX g N lev sc fs es) : SE g N lev sc (dTupX fs) (.Tuple es k pos) := fun W X G => by
  refine PE.con (pe_tup (paX_of G h)) fun σ H Q q => ?_
  obtain ⟨F, m, ih, env, hr, er, q⟩ := q
  refine ⟨F, m, ih, env, hr, er, ?_⟩
  unfold dTupX at q
  cases e : dArgX fs env ih with
  | ok r =>
    rw [e] at q
    simp only [R.bind] at q
    intro m1 H1 vs p1 rx
    split at q
    · rename_i ps e1
      split at q
      · have rp := allPu_rp e1 rx
        exact ⟨by rw [SL_eq, rp.length]; assumption, fin_tup p1.hr (Fin.rebase hr p1 q) rp⟩
      · exact q.elim
    · exact q.elim
  | exc c fs ih2 => rw [e] at q; exact q
  | stuck => rw [e] at q; exact q
end
end Dn

/-! Dn21: dict.update, dict.get. -/
namespace Dn
open PySem PySem.Spec PyProof.Rows L2
section
variable {X : Cx}
def rUpd : V → List V → Hp → VK → Prop := fun x xs H Q => ∃ (a b : Addr) (kvs more : List (Key × V)), x = .ref a ∧ xs = [.ref b] ∧ a ≠ b ∧ H a = some (.dK kvs) ∧ Rd H b (.dK more) ∧ kvs.length + more.length ≤ sizeLine ∧ Q .non (upd H a (.dK (mergeK kvs more)))
theorem mt_update : MtR X "dict.update" rUpd := by
  intro pins s σ H x xs u us Q I rx rs h
  obtain ⟨a, b, kvs, more, rfl, rfl, hne, ea, eb, hl, q⟩ := h
  cases rx
  obtain ⟨w, rfl, rw_⟩ := vals1 rs
  cases rw_
  obtain ⟨z1, d1, vs1, k1, o1⟩ := dk_of I.hok ea
  obtain ⟨z2, d2, vs2, k2, o2⟩ := dk_rd I.hok eb
  refine call_meetsIn PySem.F.slot_dict_update o1.typeIs PySem.F.entry_dict_update (PySem.F.args_dict_update_2 _ _) (meets_dict_update (mixKind X.prog X.w) a b hne d2) ⟨vs1, vs2, o1, o2, by rw [← k1.length, ← k2.length]; exact hl, fun h' dd _ hs => ?_⟩
  have ml := length_mergeK more kvs
  exact ⟨.non, _, d_write I (by rw [ea]; exact True.intro) hs (by obtain ⟨o, e, _⟩ := Heap.dictOf_iff.mp dd; exact ⟨o, e⟩) (dk_new (by omega) d1 (KV.merge k2 k1) dd), rfl, q⟩
end
section
variable {g : GI} {N : List Str} {lev : Nat} {sc : Scope} {W : WX} {F : Addr → Prop} {m m' : List Addr} {ih ih' : IH} {H H' : Hp} {B : Addr → Prop}
def isDk : D → IH → Bool
  | .ref n, ih => (match ih[n]? with
    | some (.dic _) => true
    | _ => false)
  | _, _ => false
theorem isDk_ty {X : Cx} {d : D} {x : V} (hr : HR g.K F m ih H) (rx : RD g.K H (Bd F m ih) m d x) (e : isDk d ih = true) : tyV X.K "dict" x H := by
  unfold isDk at e
  split at e
  · obtain ⟨a, rfl, hm⟩ := rx
    split at e
    · rename_i hc
      obtain ⟨ob, ho, rc⟩ := hr.cell _ a _ hm hc (by intro z; cases z)
      cases ob with
      | dK vs => exact .inr (.inr (.inl ⟨rfl, .inl ⟨vs, ho⟩⟩))
      | _ => exact rc.elim
    · cases e
  · cases e
def dkOf : D → IH → Option (List (Key × D))
  | .pu (.dic ks), _ => some (ks.map fun kv => (kv.1, .pu kv.2))
  | .ref n, ih => (match ih[n]? with
    | some (.dic ks) => some ks
    | _ => none)
  | _, _ => none
theorem dkOf_rd {d : D} {x : V} {ks : List (Key × D)} (hr : HR g.K F m ih H) (rx : RD g.K H (Bd F m ih) m d x) (e : dkOf d ih = some ks) : ∃ b kvs, x = .ref b ∧ Rd H b (.dK kvs) ∧ RDk g.K H (Bd F m ih) m ks kvs := by
  unfold dkOf at e
  split at e
  · cases e
    obtain ⟨a, o, kvs, rfl, h1, h2⟩ := rx
    exact ⟨a, kvs, rfl, .inr ⟨o, h1⟩, h2.toD⟩
  · obtain ⟨a, rfl, hm⟩ := rx
    split at e
    · rename_i hc
      cases e
      obtain ⟨ob, ho, rc⟩ := hr.cell _ a _ hm hc (by intro z; cases z)
      cases ob with
      | dK vs => exact ⟨a, vs, rfl, .inl ho, rc⟩
      | _ => exact rc.elim
    · cases e
  · cases e
def notRef (n : Nat) : D → Bool
  | .ref k => !(k == n)
  | _ => true
def updD : D → List D → IH → R (D × IH) := fun o ds ih => match o, ds with
  | .ref n, [d] => (match ih[n]?, dkOf d ih with
    | some (.dic ks), some more => if notRef n d && decide (ks.length + more.length ≤ SL) then .ok (.pu .non, ih.set n (.dic (mergeP more ks))) else .stuck
    | _, _ => .stuck)
  | _, _ => .stuck
theorem updD_ok : MeD g "dict" "dict.update" isDk updD := fun N lev sc W X G => by
  refine ⟨_, mt_update, fun F m ih H d x hr rx e => isDk_ty hr rx e, fun F m ih H σ Q d x ds xs hr rx rs h => ?_⟩
  unfold updD at h
  split at h
  · rename_i n d2
    obtain ⟨a, rfl, hm⟩ := rx
    obtain ⟨y, rfl, ry⟩ := rs.one
    split at h
    · rename_i ks more hc e2
      split at h
      · rename_i z
        obtain ⟨z1, z2⟩ := Bool.and_eq_true_iff.mp z
        have z2 := of_decide_eq_true z2
        obtain ⟨ob, ho, rc⟩ := hr.cell _ a _ hm hc (by intro z; cases z)
        obtain ⟨b, mv, rfl, hb, rk⟩ := dkOf_rd hr ry e2
        cases ob with
        | dK vs =>
          have hab : a ≠ b := by
            intro e
            subst e
            cases d2 with
            | ref k =>
              obtain ⟨b', e', hk⟩ := ry
              cases e'
              have : k = n := ix_one hr.nd hk hm
              simp [notRef, this] at z1
            | pu p =>
              cases p with
              | dic q =>
                obtain ⟨_, o2, _, e', h1, _⟩ := ry
                cases e'
                rw [ho] at h1
                cases h1
              | _ => cases e2
            | scr _ => cases e2
            | ke => cases e2
            | tz _ => cases e2
          have l1 : vs.length = ks.length := RDk.length rc
          have l2 : mv.length = more.length := RDk.length rk
          refine ⟨a, b, vs, mv, rfl, rfl, hab, ho, hb, by rw [SL_eq]; omega, ?_⟩
          exact h m _ .non (Post.write hr hm hc (by intro z; cases z) (RDk.merge more rk rc)) rfl
        | _ => exact rc.elim
      · exact h.elim
    · exact h.elim
  · exact h.elim
end
end Dn

/-! Dn22: the rules with checks in one Bool each, as the printer uses them. -/
namespace Dn
open PySem PySem.Spec PyProof.Rows L2
section
variable {g : GI} {N : List Str} {lev k : Nat} {sc : Scope} {p pos p2 : Pos} {e a b c : Expr} {es : List Expr} {f h : Ev → IH → R (D × IH)} {fs : List (Ev → IH → R (D × IH))}
def glB (sc : Scope) (x : Str) : Bool := match sc.names.lookup x with
  | some .globalImplicit => !(x == ("__debug__" : Str))
  | _ => false
theorem glB_ok {x : Str} (h : glB sc x = true) : sc.names.lookup x = some .globalImplicit ∧ (x == ("__debug__" : Str)) = false := by
  unfold glB at h
  split at h
  · rename_i e; exact ⟨e, by simpa using h⟩
  · cases h
def visB (sc : Scope) (x : Str) : Bool := match sc.names.lookup x with
  | some .local => true
  | some .cell => true
  | some .free => true
  | _ => false
theorem visB_ok {x : Str} (h : visB sc x = true) : Vis sc x := by
  unfold visB at h
  split at h
  · exact .inl (by assumption)
  · exact .inr (.inl (by assumption))
  · exact .inr (.inr (by assumption))
  · cases h
def locB (sc : Scope) (x : Str) : Bool := match sc.names.lookup x with
  | some .local => true
  | some .cell => true
  | _ => false
theorem locB_ok {x : Str} (h : locB sc x = true) : Loc sc x := by
  unfold locB at h
  split at h
  · exact .inl (by assumption)
  · exact .inr (by assumption)
  · cases h
def lcB (sc : Scope) (x : Str) : Bool := match sc.names.lookup x with
  | some .local => true
  | _ => false
theorem lcB_ok {x : Str} (h : lcB sc x = true) : sc.names.lookup x = some .local := by
  unfold lcB at h
  split at h
  · assumption
  · cases h
def atN (N : List Str) (i : Nat) (x : Str) : Bool := match N[i]? with
  | some y => decide (y = x)
  | none => false
theorem atN_ok {i : Nat} {x : Str} (h : atN N i x = true) : N[i]? = some x := by
  unfold atN at h
  split at h
  · rename_i y e; rw [e, of_decide_eq_true h]
  · cases h
def varB (N : List Str) (sc : Scope) (i : Nat) (x : Str) : Bool := atN N i x && (visB sc x && (!(x == ("__debug__" : Str)) && !(x == ("__classdict__" : Str))))
theorem e_var {i : Nat} {x : Str} (h : varB N sc i x = true) : SE g N lev sc (dVar i) (.Name x pos) := by
  unfold varB at h
  simp only [Bool.and_eq_true, Bool.not_eq_true'] at h
  exact se_var (atN_ok h.1) (visB_ok h.2.1) h.2.2.1 h.2.2.2
theorem e_int {i : Int} {x : Str} {j : Nat} (hm : ∃ t, g.mg x = some (.int i t)) (h : glB sc x = true) : SE g N lev sc (dC (.int i)) (.Name x pos) := by
  obtain ⟨t, e⟩ := hm
  exact se_glob (p := .int i) rfl (glB_ok h).1 e ⟨t, rfl⟩ (glB_ok h).2
theorem e_str {i : Str} {x : Str} {j : Nat} (hm : ∃ t, g.mg x = some (.str i t)) (h : glB sc x = true) : SE g N lev sc (dC (.str i)) (.Name x pos) := by
  obtain ⟨t, e⟩ := hm
  exact se_glob (p := .str i) rfl (glB_ok h).1 e ⟨t, rfl⟩ (glB_ok h).2
def nst : Expr → Bool
  | .Starred .. => false
  | _ => true
theorem nst_ok (h : nst e = true) (e' : Expr) (p : Pos) : e ≠ .Starred e' p := by
  intro z
  rw [z] at h
  cases h
theorem a_cons (h : SE g N lev sc f e) (hs : nst e = true) (r : SA g N lev sc fs es) : SA g N lev sc (f :: fs) (e :: es) := .cons h (nst_ok hs) r
theorem x_cons {xs : List (Bool × (Ev → IH → R (D × IH)))} (h : SE g N lev sc f e) (hs : nst e = true) (r : SAX g N lev sc xs es) : SAX g N lev sc ((false, f) :: xs) (e :: es) := .one h (nst_ok hs) r
theorem g_name {i : Nat} {x : Str} (h : (atN N i x && locB sc x) = true) : SG g N lev sc (gN i) [i] (.Name x pos) := by
  obtain ⟨h1, h2⟩ := Bool.and_eq_true_iff.mp h
  exact sg_name (atN_ok h1) (locB_ok h2)
theorem g_cons {hh : P → Ev → Option Ev} {hs : List (P → Ev → Option Ev)} {v vs : List Nat} (h : SG g N lev sc hh v e) (n : nst e = true) (r : SGs g N lev sc hs vs es) : SGs g N lev sc (hh :: hs) (v ++ vs) (e :: es) := .cons h (nst_ok n) r

/-! ### truth -/
def plainT : Expr → Bool
  | .BoolOp .. => false
  | .UnaryOp .Not .. => false
  | .Compare .. => false
  | .IfExp .. => false
  | .NamedExpr .. => false
  | _ => true
theorem t_plain (h : SE g N lev sc f e) (hp : plainT e = true) : ST g N lev sc f e := by
  refine st_of h fun env whole => ?_
  cases e <;> first | rfl | (cases hp; done) | (rename_i op _ _; cases op <;> first | rfl | cases hp)
/-! ### operators give truth values -/
theorem bo_eq : BoolOd eqD := fun a b ih r e => by
  unfold eqD eqDt eqD0 at e
  repeat' split at e
  all_goals first | (cases e; exact ⟨_, rfl⟩) | cases e
theorem bo_ne : BoolOd neD := fun a b ih r e => by
  unfold neD eqDt eqD0 at e
  repeat' split at e
  all_goals first | (cases e; exact ⟨_, rfl⟩) | cases e
theorem bo_ord {t : List Nat → List Nat → Bool} {u : Int → Int → Bool} : BoolOd (ordD t u) := fun a b ih r e => by
  unfold ordD od2 at e
  repeat' split at e
  all_goals first | (cases e; exact ⟨_, rfl⟩) | cases e
theorem bo_lt : BoolOd ltD := fun a b ih r e => by
  unfold ltD ltT ltS ordD od2 at e
  repeat' split at e
  all_goals first | (cases e; exact ⟨_, rfl⟩) | cases e
theorem bo_le : BoolOd leD := bo_ord
theorem bo_gt : BoolOd gtD := bo_ord
theorem bo_ge : BoolOd geD := bo_ord
theorem bo_is {t : Bool → Bool} : BoolOd (isN t) := fun a b ih r e => by
  unfold isN at e
  repeat' split at e
  all_goals first | (cases e; exact ⟨_, rfl⟩) | cases e
theorem bo_inT {t : Bool → Bool} : BoolOd (inDt t) := fun a b ih r e => by
  unfold inDt inSign inF inDeep inDict at e
  repeat' split at e
  all_goals first | (cases e; exact ⟨_, rfl⟩) | cases e
theorem bo_in : BoolOd inD := bo_inT
theorem bo_notin : BoolOd notInD := bo_inT
theorem t_w (h : SW g N lev sc f e) : ST g N lev sc f e := fun W X G => ⟨fun pins s σ H Q I q => (h W X G).run (eval e X.env) pins s σ H Q I q⟩
/-! ### built-ins -/
theorem e_B {x : Str} {id : String} {cd : List D → IH → R (D × IH)} (ho : CaD g (.builtin id) cd) (hv : bootBuiltins x = some (.builtin id)) (hn : x ≠ "__name__") (hm : g.mg x = none) (hg : glB sc x = true) (ha : SA g N lev sc fs (e :: es)) : SE g N lev sc (dCall cd fs) (.Call (.Name x p) (e :: es) [] pos) :=
  se_callB ho (glB_ok hg).1 hm hv ha hn (glB_ok hg).2
theorem e_T {x : Str} {T : String} {cd : List D → IH → R (D × IH)} (ho : CaD g (.type T) cd) (hv : bootBuiltins x = some (.type T)) (hn : x ≠ "__name__") (hm : g.mg x = none) (hg : glB sc x = true) (ha : SA g N lev sc fs (e :: es)) : SE g N lev sc (dCall cd fs) (.Call (.Name x p) (e :: es) [] pos) :=
  se_callT ho (glB_ok hg).1 hm hv ha hn (glB_ok hg).2
theorem bv_len : bootBuiltins "len" = some (.builtin "len") := by decide +kernel
theorem bv_sum : bootBuiltins "sum" = some (.builtin "sum") := by decide +kernel
theorem bv_all : bootBuiltins "all" = some (.builtin "all") := by decide +kernel
theorem bv_any : bootBuiltins "any" = some (.builtin "any") := by decide +kernel
theorem bv_max : bootBuiltins "max" = some (.builtin "max") := by decide +kernel
theorem bv_min : bootBuiltins "min" = some (.builtin "min") := by decide +kernel
theorem bv_repr : bootBuiltins "repr" = some (.builtin "repr") := by decide +kernel
theorem bv_sorted : bootBuiltins "sorted" = some (.builtin "sorted") := by decide +kernel
theorem bv_int : bootBuiltins "int" = some (.type "int") := by decide +kernel
theorem bv_bool : bootBuiltins "bool" = some (.type "bool") := by decide +kernel
theorem bv_str : bootBuiltins "str" = some (.type "str") := by decide +kernel
theorem bv_tuple : bootBuiltins "tuple" = some (.type "tuple") := by decide +kernel
theorem bv_list : bootBuiltins "list" = some (.type "list") := by decide +kernel
theorem bv_dict : bootBuiltins "dict" = some (.type "dict") := by decide +kernel
theorem bv_set : bootBuiltins "set" = some (.type "set") := by decide +kernel
theorem e_isi {T : Str} {t : String} (hT : bootBuiltins T = some (.type t)) (hn : T ≠ "__name__") (ht : t ∈ ["int", "bool", "str", "tuple", "list"]) (hm : g.mg "isinstance" = none) (hmT : g.mg T = none) (hg : (glB sc "isinstance" && glB sc T) = true) (he : SE g N lev sc f e) (hs : nst e = true) :
    SE g N lev sc (dIsi t f) (.Call (.Name "isinstance" p) [e, .Name T p2] [] pos) := by
  obtain ⟨h1, h2⟩ := Bool.and_eq_true_iff.mp hg
  exact se_isi (glB_ok h1).1 hm (glB_ok h2).1 hmT hT ht hn (glB_ok h2).2 he (nst_ok hs)
theorem i_range1 {tg : Expr} (hm : g.mg "range" = none) (hg : glB sc "range" = true) (ha : SA g N lev sc [f] [e]) : SI g N lev sc (iR1 f) tg (.Call (.Name "range" p) [e] [] pos) := si_range1 (glB_ok hg).1 hm ha
theorem i_range2 {tg : Expr} (hm : g.mg "range" = none) (hg : glB sc "range" = true) (ha : SA g N lev sc [f, h] [a, b]) : SI g N lev sc (iR2 f h) tg (.Call (.Name "range" p) [a, b] [] pos) := si_range2 (glB_ok hg).1 hm ha
theorem i_enum {elts : List Expr} {kk : Nat} {tpos : Pos} (hm : g.mg "enumerate" = none) (hg : glB sc "enumerate" = true) (ha : SA g N lev sc [f] [e]) : SI g N lev sc (iEnu f) (.Tuple elts kk tpos) (.Call (.Name "enumerate" p) [e] [] pos) := si_enum (glB_ok hg).1 hm ha
theorem i_items {elts : List Expr} {kk : Nat} {tpos : Pos} (he : SE g N lev sc f e) (hb : (baseOk e && (p.endLine == pos.line)) = true) : SI g N lev sc (iItm f) (.Tuple elts kk tpos) (.Call (.Attribute e "items" p) [] [] pos) := by
  obtain ⟨h1, h2⟩ := Bool.and_eq_true_iff.mp hb
  exact si_items he (fun env => base_plain h1 _ env) h2
/-! ### methods -/
theorem e_app {o : Expr} (ho : SE g N lev sc f o) (ha : SA g N lev sc [h] [e]) (hb : (baseOk o && (p.endLine == pos.line)) = true) : SE g N lev sc (dMe isL appD f [h]) (.Call (.Attribute o "append" p) [e] [] pos) := by
  obtain ⟨h1, h2⟩ := Bool.and_eq_true_iff.mp hb
  exact se_meth appD_ok F.plainAttrs_list F.slot_list_append F.type_list_append ho ha h1 h2 (by simp)
theorem e_upd {o : Expr} (ho : SE g N lev sc f o) (ha : SA g N lev sc [h] [e]) (hb : (baseOk o && (p.endLine == pos.line)) = true) : SE g N lev sc (dMe isDk updD f [h]) (.Call (.Attribute o "update" p) [e] [] pos) := by
  obtain ⟨h1, h2⟩ := Bool.and_eq_true_iff.mp hb
  exact se_meth updD_ok F.plainAttrs_dict F.slot_dict_update F.type_dict_update ho ha h1 h2 (by simp)
/-! ### subscripts -/
def ixB : Expr → Bool
  | .Slice .. => false
  | .Constant .. => true
  | .Name .. => true
  | .BinOp .. => true
  | .Call .. => true
  | .Subscript .. => true
  | .UnaryOp .. => true
  | .Tuple .. => true
  | .IfExp .. => true
  | _ => false
theorem e_idx (ha : SE g N lev sc f a) (hb : SE g N lev sc h b) (hs : ixB b = true) : SE g N lev sc (dOp ixD f h) (.Subscript a b pos) := by
  refine se_idx ixD_ok ha hb fun o i => ?_
  cases b <;> first | rfl | cases hs
theorem s_put {o i : Expr} {fo fk : Ev → IH → R (D × IH)} (ho : SE g N lev sc fo o) (hi : SE g N lev sc fk i) (he : SE g N lev sc f e) (hs : ixB i = true) : SS g N lev sc (dPut fo fk f) (.Assign [.Subscript o i p] e pos) := by
  refine ss_put ho hi he fun env v => ?_
  cases i <;> first | rfl | cases hs
/-! ### statements -/
theorem s_set {i : Nat} {x : Str} (h : SE g N lev sc f e) (hc : (atN N i x && (locB sc x && swNo sc x p e)) = true) : SS g N lev sc (dSet i f) (.Assign [.Name x p] e pos) := by
  simp only [Bool.and_eq_true] at hc
  exact ss_set (atN_ok hc.1) (locB_ok hc.2.1) h hc.2.2
def fnK : Scope → Bool
  | { kind := .function, .. } => true
  | _ => false
theorem fnK_ok (h : fnK sc = true) : sc.kind = .function := by
  unfold fnK at h
  split at h
  · rfl
  · cases h
def setCB (N : List Str) (sc scope : Scope) (i : Nat) (y : Str) (py pos : Pos) : Bool := atN N i y && (lcB sc y && (fnK sc && ((py.line == pos.line) && !(scope.names.any fun (n, k) => n == y && (k == .local || k == .cell)))))
def blkB (N : List Str) (sc scope : Scope) (own : List (Str × Nat)) (sl : List Nat) (iter : Expr) : Bool := blkC N sc scope own && (decide (∀ j ∈ sl, j ∈ own.map (·.2)) && notSet iter)
theorem e_lc {box : Bool} {hh : P → Ev → Option Ev} {src : Ev → IH → R (List P × IH)} {sl : List Nat} (own : List (Str × Nat)) {t : Option (Ev → IH → R (D × IH))} {elt tg iter : Expr} {ifs : List Expr} {scope : Scope}
    (hi : SI g N lev sc src tg iter) (hg : SG g N lev scope hh sl tg) (ht : STs g N lev scope t ifs) (he : SE g N lev scope f elt) (hB : blkB N sc scope own sl iter = true) : SE g N lev sc (dLc box hh src t f (own.map (·.2))) (.ListComp elt [⟨tg, iter, ifs, 0⟩] scope pos) := by
  unfold blkB at hB
  simp only [Bool.and_eq_true] at hB
  exact se_lc hi (blkOk_by hB.1) hg ht he (of_decide_eq_true hB.2.1) hB.2.2
theorem s_setLc {box : Bool} {i : Nat} {y : Str} {py : Pos} {hh : P → Ev → Option Ev} {src : Ev → IH → R (List P × IH)} {sl : List Nat} (own : List (Str × Nat)) {t : Option (Ev → IH → R (D × IH))} {elt tg iter : Expr} {ifs : List Expr} {scope : Scope}
    (hi : SI g N lev sc src tg iter) (hg : SG g N lev scope hh sl tg) (ht : STs g N lev scope t ifs) (he : SE g N lev scope f elt) (hB : blkB N sc scope own sl iter = true) (hS : setCB N sc scope i y py p = true) : SS g N lev sc (dSet i (dLc box hh src t f (own.map (·.2)))) (.Assign [.Name y py] (.ListComp elt [⟨tg, iter, ifs, 0⟩] scope p) pos) := by
  unfold blkB at hB
  unfold setCB at hS
  simp only [Bool.and_eq_true, Bool.not_eq_true'] at hB hS
  exact ss_setLc (atN_ok hS.1) (lcB_ok hS.2.1) (fnK_ok hS.2.2.1) hS.2.2.2.1 hS.2.2.2.2 hi (blkOk_by hB.1) hg ht he (of_decide_eq_true hB.2.1) hB.2.2
theorem e_dc {hh : P → Ev → Option Ev} {src : Ev → IH → R (List P × IH)} {sl : List Nat} (own : List (Str × Nat)) {t : Option (Ev → IH → R (D × IH))} {kx vx tg iter : Expr} {ifs : List Expr} {scope : Scope}
    (hi : SI g N lev sc src tg iter) (hg : SG g N lev scope hh sl tg) (ht : STs g N lev scope t ifs) (hk : SE g N lev scope f kx) (hv : SE g N lev scope h vx) (hB : blkB N sc scope own sl iter = true) : SE g N lev sc (dDc hh src t f h (own.map (·.2))) (.DictComp kx vx [⟨tg, iter, ifs, 0⟩] scope pos) := by
  unfold blkB at hB
  simp only [Bool.and_eq_true] at hB
  exact se_dc hi (blkOk_by hB.1) hg ht hk hv (of_decide_eq_true hB.2.1) hB.2.2
theorem s_setDc {i : Nat} {y : Str} {py : Pos} {hh : P → Ev → Option Ev} {src : Ev → IH → R (List P × IH)} {sl : List Nat} (own : List (Str × Nat)) {t : Option (Ev → IH → R (D × IH))} {kx vx tg iter : Expr} {ifs : List Expr} {scope : Scope}
    (hi : SI g N lev sc src tg iter) (hg : SG g N lev scope hh sl tg) (ht : STs g N lev scope t ifs) (hk : SE g N lev scope f kx) (hv : SE g N lev scope h vx) (hB : blkB N sc scope own sl iter = true) (hS : setCB N sc scope i y py p = true) : SS g N lev sc (dSet i (dDc hh src t f h (own.map (·.2)))) (.Assign [.Name y py] (.DictComp kx vx [⟨tg, iter, ifs, 0⟩] scope p) pos) := by
  unfold blkB at hB
  unfold setCB at hS
  simp only [Bool.and_eq_true, Bool.not_eq_true'] at hB hS
  exact ss_setDc (atN_ok hS.1) (lcB_ok hS.2.1) (fnK_ok hS.2.2.1) hS.2.2.2.1 hS.2.2.2.2 hi (blkOk_by hB.1) hg ht hk hv (of_decide_eq_true hB.2.1) hB.2.2
theorem s_par {i j : Nat} {x y : Str} {px py pt pt2 : Pos} {kt k2 : Nat} (ha : SA g N lev sc [f, h] [a, b]) (hB : (atN N i x && (atN N j y && (!(i == j) && (lcB sc x && (lcB sc y && ((py.line == px.line) && (swapOk2 a b && fnK sc))))))) = true) :
    SS g N lev sc (dPar i j f h) (.Assign [.Tuple [.Name x px, .Name y py] kt pt] (.Tuple [a, b] k2 pt2) pos) := by
  simp only [Bool.and_eq_true, Bool.not_eq_true', beq_iff_eq, beq_eq_false_iff_ne] at hB
  exact ss_par (atN_ok hB.1) (atN_ok hB.2.1) hB.2.2.1 (lcB_ok hB.2.2.2.1) (lcB_ok hB.2.2.2.2.1) hB.2.2.2.2.2.1 hB.2.2.2.2.2.2.1 (fnK_ok hB.2.2.2.2.2.2.2) ha
theorem e_callF {x : Str} {ps : List Str} {φ : List D → IH → R (D × IH)} {dfl : List D} (C : Cal g k x ps φ dfl) (hk : k ≤ lev) (hg : glB sc x = true) (ha : SA g N lev sc fs (e :: es)) : SE g N lev sc (dCallF ps.length φ dfl fs) (.Call (.Name x p) (e :: es) [] pos) := se_callF C hk (glB_ok hg).1 ha (glB_ok hg).2
theorem e_callP {x : Str} {ps : List Str} {φ : List D → IH → R (D × IH)} {dfl : List D} (C : Cal g k x ps φ dfl) (hk : k ≤ lev) (hg : glB sc x = true) (ha : SA g N lev sc fs (e :: es)) : SE g N lev sc (dCallP ps.length φ dfl fs) (.Call (.Name x p) (e :: es) [] pos) := se_callP C hk (glB_ok hg).1 ha (glB_ok hg).2
theorem e_callF0 {x : Str} {ps : List Str} {φ : List D → IH → R (D × IH)} {dfl : List D} (C : Cal g k x ps φ dfl) (hk : k ≤ lev) (hg : glB sc x = true) : SE g N lev sc (dCallF ps.length φ dfl []) (.Call (.Name x p) [] [] pos) := se_callF0 C hk (glB_ok hg).1 (glB_ok hg).2
theorem e_callP0 {x : Str} {ps : List Str} {φ : List D → IH → R (D × IH)} {dfl : List D} (C : Cal g k x ps φ dfl) (hk : k ≤ lev) (hg : glB sc x = true) : SE g N lev sc (dCallP ps.length φ dfl []) (.Call (.Name x p) [] [] pos) := se_callP0 C hk (glB_ok hg).1 (glB_ok hg).2
end
end Dn

/-! Dn23: plain tuples and index; zip; any source of a loop; stores of several names; lists put together in a new cell. -/
namespace Dn
open PySem PySem.Spec PyProof.Rows L2
section
variable {g : GI} {N : List Str} {lev k : Nat} {sc : Scope} {W : WX} {F : Addr → Prop} {m m' : List Addr} {ih ih' : IH} {H H' : Hp} {σ : L2.St} {env : Ev} {B : Addr → Prop} {p pos p2 : Pos} {e a b c : Expr} {es : List Expr} {f h : Ev → IH → R (D × IH)} {fs : List (Ev → IH → R (D × IH))}
/-! ### any source -/
theorem SI.or {tg iter : Expr} {src s1 s2 : Ev → IH → R (List P × IH)} (h1 : SI g N lev sc s1 tg iter) (h2 : SI g N lev sc s2 tg iter) (h : ∀ env ih, src env ih = s1 env ih ∨ src env ih = s2 env ih) : SI g N lev sc src tg iter := fun W X G => by
  refine PI.con (PI.or (h1 W X G) (h2 W X G)) fun σ H Q q => ?_
  obtain ⟨F, m, ih, env, hr, er, q⟩ := q
  rcases h env ih with e | e
  · left; exact ⟨F, m, ih, env, hr, er, by rw [← e]; exact q⟩
  · right; exact ⟨F, m, ih, env, hr, er, by rw [← e]; exact q⟩
def iAny (f : Ev → IH → R (D × IH)) : Ev → IH → R (List P × IH) := fun env ih => (f env ih).bind fun r => match r.1 with
  | .pu (.dic ks) => .ok (ks.map fun kv => kP kv.1, r.2)
  | .pu (.dit ks) => .ok (ks.map fun kv => .tup (kv.1.map kP), r.2)
  | .pu p => (match seqP p with
    | some ps => .ok (ps, r.2)
    | none => .stuck)
  | _ => .stuck
theorem i_any {tg : Expr} (he : SE g N lev sc f e) : SI g N lev sc (iAny f) tg e := SI.or (si_seq he) (si_keys he) fun env ih => by
  unfold iAny iSeq iKey
  cases f env ih with
  | ok r =>
    obtain ⟨d, ih1⟩ := r
    simp only [R.bind]
    cases d with
    | pu p =>
      cases p with
      | dic _ => exact .inr rfl
      | dit _ => exact .inr rfl
      | _ => exact .inl rfl
    | _ => exact .inl rfl
  | exc _ _ _ => exact .inl rfl
  | stuck => exact .inl rfl
/-! ### zip -/
def zipP : List P → List P → List P
  | x :: xs, y :: ys => .tup [x, y] :: zipP xs ys
  | _, _ => []
theorem zipP_get : ∀ (xs ys : List P) (i : Nat) (q : P), (zipP xs ys)[i]? = some q → ∃ x y, xs[i]? = some x ∧ ys[i]? = some y ∧ q = .tup [x, y]
  | x :: xs, y :: ys, 0, q, e => by cases e; exact ⟨x, y, rfl, rfl, rfl⟩
  | x :: xs, y :: ys, i + 1, q, e => by
    obtain ⟨a, b, h1, h2, h3⟩ := zipP_get xs ys i q (by simpa [zipP] using e)
    exact ⟨a, b, by simpa using h1, by simpa using h2, h3⟩
  | [], _, _, _, e => by simp [zipP] at e
  | _ :: _, [], _, _, e => by simp [zipP] at e
theorem zipP_len : ∀ (xs ys : List P), (zipP xs ys).length = xs.length ∨ (zipP xs ys).length = ys.length
  | x :: xs, y :: ys => by rcases zipP_len xs ys with h | h <;> simp [zipP, h]
  | [], _ => .inl rfl
  | _ :: _, [] => .inr rfl
theorem itg_zipT {K : PySem.W.Frag} {x y : Addr} {vs ws : List V} {ps qs : List P} (h1 : H x = some (.tup vs)) (h2 : RPs H B ps vs) (h3 : H y = some (.tup ws)) (h4 : RPs H B qs ws) : ItG H B (RZ.ItzT K x y) (zipP ps qs) := fun H' B' k => by
  have e1 := k.tup x vs h1
  have e2 := k.tup y ws h3
  have r1 := RPs.mono k _ _ h2
  have r2 := RPs.mono k _ _ h4
  refine ⟨fun i p hp => ?_, vs, ws, .of e1, .of e2, by rcases zipP_len ps qs with z | z <;> rw [z, r1.length, r2.length] <;> simp⟩
  obtain ⟨u, w, g1, g2, rfl⟩ := zipP_get ps qs i p hp
  obtain ⟨v1, e3, rv1⟩ := r1.get g1
  obtain ⟨v2, e4, rv2⟩ := r2.get g2
  refine ⟨⟨vs, ws, v1, v2, .of e1, .of e2, e3, e4⟩, fun z H2 ⟨T, z1, z2, ez, hT, eH, hz1, hz2⟩ => ?_⟩
  subst ez eH
  have a1 := hz1 vs (.of e1)
  have a2 := hz2 ws (.of e2)
  rw [e3] at a1
  rw [e4] at a2
  cases a1
  cases a2
  exact ⟨upd_kept hT, rp_pair hT rv1 rv2⟩
theorem itg_zipL {K : PySem.W.Frag} {x y : Addr} {vs ws : List V} {ps qs : List P} (h1 : H x = some (.lst vs)) (n1 : ¬ B x) (h2 : RPs H B ps vs) (h3 : H y = some (.lst ws)) (n2 : ¬ B y) (h4 : RPs H B qs ws) : ItG H B (Itz K x y) (zipP ps qs) := fun H' B' k => by
  have e1 := k.lst x vs n1 h1
  have e2 := k.lst y ws n2 h3
  have r1 := RPs.mono k _ _ h2
  have r2 := RPs.mono k _ _ h4
  refine ⟨fun i p hp => ?_, vs, ws, .of e1, .of e2, by rcases zipP_len ps qs with z | z <;> rw [z, r1.length, r2.length] <;> simp⟩
  obtain ⟨u, w, g1, g2, rfl⟩ := zipP_get ps qs i p hp
  obtain ⟨v1, e3, rv1⟩ := r1.get g1
  obtain ⟨v2, e4, rv2⟩ := r2.get g2
  refine ⟨⟨vs, ws, v1, v2, .of e1, .of e2, e3, e4⟩, fun z H2 ⟨T, z1, z2, ez, hT, eH, hz1, hz2⟩ => ?_⟩
  subst ez eH
  have a1 := hz1 vs (.of e1)
  have a2 := hz2 ws (.of e2)
  rw [e3] at a1
  rw [e4] at a2
  cases a1
  cases a2
  exact ⟨upd_kept hT, rp_pair hT rv1 rv2⟩
def iZip (f h : Ev → IH → R (D × IH)) : Ev → IH → R (List P × IH) := fun env ih => (dArgs [f, h] env ih).bind fun r => match r.1 with
  | [.pu (.lst xs), .pu (.lst ys)] => .ok (zipP xs ys, r.2)
  | [.pu (.tup xs), .pu (.tup ys)] => .ok (zipP xs ys, r.2)
  | _ => .stuck
theorem i_zip {elts : List Expr} {kk : Nat} {tpos : Pos} (hm : g.mg "zip" = none) (hg : glB sc "zip" = true) (ha : SA g N lev sc [f, h] [a, b]) : SI g N lev sc (iZip f h) (.Tuple elts kk tpos) (.Call (.Name "zip" p) [a, b] [] pos) := fun W X G => by
  refine PI.con (RZ.pi_zipA (G.scp.gl (glB_ok hg).1) (by rw [G.mg]; exact hm) (pa_of G ha) ha.star (by cases ha with | cons _ _ h3 => exact any_back h3)) fun σ H Q q => ?_
  obtain ⟨F, m, ih, env, hr, er, q⟩ := q
  refine tA_I (k := fun ds ih1 => match ds with | [.pu (.lst xs), .pu (.lst ys)] => .ok (zipP xs ys, ih1) | [.pu (.tup xs), .pu (.tup ys)] => .ok (zipP xs ys, ih1) | _ => .stuck) hr er q fun m1 H1 xs ds ih1 hr1 p1 rx q1 => ?_
  split at q1
  · obtain ⟨x, y, rfl, r1, r2⟩ := rx.two
    obtain ⟨a1, vs, rfl, h1, n1, h2⟩ := r1
    obtain ⟨a2, ws, rfl, h3, n2, h4⟩ := r2
    exact ⟨a1, a2, vs, ws, rfl, .inl ⟨.of h1, .of h3, q1 m1 H1 _ (Post.refl hr1) (itg_zipL h1 n1 h2 h3 n2 h4)⟩⟩
  · obtain ⟨x, y, rfl, r1, r2⟩ := rx.two
    obtain ⟨a1, vs, rfl, h1, h2⟩ := r1
    obtain ⟨a2, ws, rfl, h3, h4⟩ := r2
    exact ⟨a1, a2, vs, ws, rfl, .inr ⟨.of h1, .of h3, q1 m1 H1 _ (Post.refl hr1) (itg_zipT h1 h2 h3 h4)⟩⟩
  · exact q1.elim

/-! ### a tuple just made -/
theorem call_tupZ {X : Cx} : CallR X (.type "tuple") (fun xs H Q => ∃ p ys, xs = [.ref p] ∧ SqL X.K H p ys ∧ ∀ l o, H l = none → o.dict = none → Q (.ref l) (upd H l (.frz o (.tup ys)))) := by
  intro pins s σ H xs us Q I r h
  obtain ⟨p, ys, rfl, hq, q⟩ := h
  obtain ⟨u, rfl, rx⟩ := vals1 r
  cases rx
  obtain ⟨its, r', pl, hz⟩ := I.list hq
  have hlen := r'.length
  refine call_tuple_list pl.isList (fun h' kp => ?_) (by simp only [List.size_toArray] <;> omega)
  have I1 : Inv X pins σ H { s with heap := h' } := I.kept (t' := s.toks) kp
  refine ⟨.ref h'.objs.size, _, I1.laid (o := .frz { cls := .type "tuple", data := .seq its.toArray } (.tup ys)) (t' := s.toks) (fun b o e => Heap.get?_push_of_some _ e) (Nat.le_refl _) ⟨Heap.get?_push_size _ rfl, hz, its, r', IsTup.new _ _⟩, rfl, q _ _ (I1.hok.fresh (Nat.le_refl _)) rfl⟩
def tupleZ : List D → IH → R (D × IH)
  | [.pu (.lst xs)], ih => .ok (.tz xs, ih)
  | _, _ => .stuck
theorem tupleZ_ok : CaD g (.type "tuple") tupleZ := fun N lev sc W X G => by
  refine ⟨_, call_tupZ, fun F m ih H σ Q xs ds hr rx q => ?_⟩
  unfold tupleZ at q
  split at q
  · obtain ⟨x, rfl, r1⟩ := rx.one
    obtain ⟨a1, vs, rfl, h1, _, h2⟩ := r1
    refine ⟨a1, vs, rfl, .of h1, fun l o hl ho => ?_⟩
    exact q m _ _ (Post.fresh hr hl) ⟨l, o, vs, rfl, upd_same, ho, h2.fresh hr hl⟩
  · exact q.elim
/-- a call that gives such a tuple -/
def pfZ (φ : List D → IH → R (D × IH)) (ds : List D) : Option (List P) := match φ ds [] with
  | .ok (.tz ps, _) => some ps
  | _ => none
def dCallZ (n : Nat) (φ : List D → IH → R (D × IH)) (dfl : List D) (fs : List (Ev → IH → R (D × IH))) : Ev → IH → R (D × IH) := fun env ih => (dArgs fs env ih).bind fun r =>
  if apB (r.1 ++ dfl) && decide ((r.1 ++ dfl).length = n) then (match pfZ φ (r.1 ++ dfl) with
    | some ps => .ok (.tz ps, r.2)
    | none => .stuck) else .stuck
theorem e_callZ {x : Str} {ps : List Str} {φ : List D → IH → R (D × IH)} {dfl : List D} (C : Cal g k x ps φ dfl) (hk : k ≤ lev) (hg : glB sc x = true) (ha : SA g N lev sc fs (e :: es)) : SE g N lev sc (dCallZ ps.length φ dfl fs) (.Call (.Name x p) (e :: es) [] pos) := fun W X G => by
  obtain ⟨f, fd, ds, dvs, Fn, hm, kp, hb, hd, at_⟩ := C.ex
  refine PE.con (pe_callG G Fn hk (glB_ok hg).1 hm kp hb hd ha (glB_ok hg).2) fun σ H Q q => ?_
  obtain ⟨F, m, ih, env, hr, er, q⟩ := q
  refine tA_bind (k := fun xs ih1 => if apB (xs ++ dfl) && decide ((xs ++ dfl).length = ps.length) then (match pfZ φ (xs ++ dfl) with | some ps => .ok (.tz ps, ih1) | none => .stuck) else .stuck) hr er q fun m1 H1 vs xs ih1 hr1 p1 rx q1 => ?_
  split at q1
  · rename_i hl
    obtain ⟨ha, hl⟩ := Bool.and_eq_true_iff.mp hl
    have hl := of_decide_eq_true hl
    split at q1
    · rename_i p0 ep
      have rr : RDs g.K H1 (Bd (Bd F m1 ih1) [] []) [] (xs ++ dfl) (vs ++ dvs) := RDs.apart ha (rx.app (at_ _ _ _))
      refine ⟨by rw [rr.length]; exact hl, Bd F m1 ih1, [], [], _, hr1.apart, rr, ?_⟩
      unfold pfZ at ep
      split at ep
      · rename_i ps' ih2 e1
        cases ep
        rw [e1]
        intro m' H' v po rd
        have keep : ∀ a o, H1 a = some o → H' a = some o := fun a o e => po.frame a o e noLv
        obtain ⟨a1, o, ws, ev, g1, g2, g3⟩ := rd
        exact q1 m1 H' v (Post.kept hr1 keep) ⟨a1, o, ws, ev, g1, g2, RPs.mono (Kp.less fun a z => .inl z) _ _ g3⟩
      · cases ep
    · exact q1.elim
  · exact q1.elim
end
end Dn

/-! Dn24: index, count; stores of several names; lists put together in a new cell. -/
namespace Dn
open PySem PySem.Spec PyProof.Rows L2
section
variable {X : Cx} {o e : Expr} {es : List Expr} {to : TE} {t : TA} {name : Str} {apos cpos : Pos} {id : String} {r : V → List V → Hp → VK → Prop}
/-- a method of a plain tuple -/
theorem pe_tm (pa : PlainAttrs "tuple") (slot : Slot "tuple" name id) (hty : typeOf (.builtin id) = pure (.type "method_descriptor")) (hm : MtR X id r) (ho : PE X o to) (ha : PA X (e :: es) t) (hbase : attributeBase o name X.env (eval o X.env) = eval o X.env)
    (few : ((backTo cpos (starEach (e :: es) X.env)).all (fun x => !x.1) && (backToKw cpos (keywordEach [] X.env)).all (fun x => x.1.isSome) && decide ((e :: es).length + ([] : List Keyword).length + (if ([] : List Keyword).isEmpty then 0 else 1) < 30)) = true)
    (line : (apos.endLine == cpos.line) = true) (st : starEach (e :: es) X.env = (false, eval e X.env) :: starEach es X.env) (pl : (backTo cpos (starEach es X.env)).any (·.1) = false) :
    PE X (.Call (.Attribute o name apos) (e :: es) [] cpos) (fun σ H Q => to σ H fun x H1 => (∃ a ob vs, x = .ref a ∧ H1 a = some (.frz ob (.tup vs)) ∧ ob.dict = none) ∧ t σ H1 fun xs H2 => r x xs H2 Q) := by
  refine ⟨fun pins s σ H Q I h => wpAny_Call_method_late hbase few line rfl (thn (ho.run pins s σ H _ I h) fun v s1 ⟨x, H1, I1, r1, ⟨a, ob, vs, ex, hf, hd⟩, q1⟩ => ?_)⟩
  subst ex
  cases r1
  obtain ⟨g1, _, its, _, o2, g2, g3, _⟩ := I1.hok a _ hf
  rw [g1] at g2
  cases g2
  refine ⟨"tuple", id, pa, slot, hty, ⟨ob, g1, g3⟩, fun b e => by cases e; exact ⟨ob, g1, hd⟩, ?_⟩
  have run := ha.run cpos pins s1 σ H1 _ I1 q1
  rw [st] at run ⊢
  refine Calls.callWith_builtin (by show (false || (backTo cpos (starEach es X.env)).any (·.1)) = false; rw [pl]; rfl) (Calls.evalArgs_plain (thn run fun us s2 ⟨xs, H2, I2, r2, q2⟩ => ?_))
  exact hm pins s2 σ H2 (.ref a) xs _ us Q I2 rfl r2 q2
end
section
variable {g : GI} {N : List Str} {lev k : Nat} {sc : Scope} {W : WX} {F : Addr → Prop} {m m' : List Addr} {ih ih' : IH} {H H' : Hp} {σ : L2.St} {env : Ev} {B : Addr → Prop} {p pos p2 : Pos} {e a b c : Expr} {es : List Expr} {f h : Ev → IH → R (D × IH)} {fs : List (Ev → IH → R (D × IH))}
def strsP : List P → Option (List Str)
  | [] => some []
  | .str s :: ps => (strsP ps).map (s :: ·)
  | _ :: _ => none
theorem strsP_rp : ∀ {ps : List P} {ys : List Str} {vs : List V}, strsP ps = some ys → RPs H B ps vs → vs = ys.map V.str
  | [], ys, vs, e, r => by cases e; exact r
  | .str s :: ps, ys, vs, e, r => by
    obtain ⟨v, rest, rfl, r1, r2⟩ := r
    obtain ⟨zs, e1, rfl⟩ := Option.map_eq_some_iff.mp e
    cases r1
    rw [strsP_rp e1 r2]
    rfl
  | .non :: _, _, _, e, _ => by cases e
  | .bl _ :: _, _, _, e, _ => by cases e
  | .int _ :: _, _, _, e, _ => by cases e
  | .tup _ :: _, _, _, e, _ => by cases e
  | .lst _ :: _, _, _, e, _ => by cases e
  | .dic _ :: _, _, _, e, _ => by cases e
  | .dit _ :: _, _, _, e, _ => by cases e
/-- the first place -/
def placeB {α : Type} (t : α → Bool) : List α → Option Nat
  | [] => none
  | x :: xs => if t x then some 0 else (placeB t xs).map (· + 1)
theorem placeB_ok {α : Type} {t : α → Bool} : ∀ {xs : List α} {j : Nat}, placeB t xs = some j → (∃ x, xs[j]? = some x ∧ t x = true) ∧ ∀ (n : Nat) x, n < j → xs[n]? = some x → t x = false
  | [], j, e => by cases e
  | x :: xs, j, e => by
    unfold placeB at e
    split at e
    · rename_i hx
      cases e
      exact ⟨⟨x, rfl, hx⟩, fun n y hn => absurd hn (Nat.not_lt_zero _)⟩
    · rename_i hx
      obtain ⟨i, e1, rfl⟩ := Option.map_eq_some_iff.mp e
      obtain ⟨⟨y, g1, g2⟩, g3⟩ := placeB_ok e1
      refine ⟨⟨y, by simpa using g1, g2⟩, fun n z hn hz => ?_⟩
      cases n with
      | zero => cases hz; simpa using hx
      | succ n => exact g3 n z (by omega) (by simpa using hz)
/-- t.index(text), t a tuple just made -/
def idxZ (f h : Ev → IH → R (D × IH)) : Ev → IH → R (D × IH) := fun env ih => (f env ih).bind fun o => match o.1 with
  | .tz ps => (dArgs [h] env o.2).bind fun r => (match r.1, strsP ps with
    | [.pu (.str z)], some ys => (match placeB (fun y => decide (y = z)) ys with
      | some j => .ok (.pu (.int (j : Nat)), r.2)
      | none => .stuck)
    | _, _ => .stuck)
  | _ => .stuck
theorem e_idxZ {o : Expr} (ho : SE g N lev sc f o) (ha : SA g N lev sc [h] [e]) (hb : (p.endLine == pos.line) = true) (hbs : ∀ env, attributeBase o "index" env (eval o env) = eval o env) : SE g N lev sc (idxZ f h) (.Call (.Attribute o "index" p) [e] [] pos) := fun W X G => by
  refine PE.con (pe_tm F.plainAttrs_tuple F.slot_tuple_index F.type_tuple_index mt_tup_index (ho W X G) (pa_of G ha) (hbs _) (few_of pos ha (by simp)) hb ha.star (by cases ha with | cons _ _ h3 => exact any_back h3)) fun σ H Q q => ?_
  obtain ⟨F, m, ih, env, hr, er, q⟩ := q
  refine tD_bind (k := fun d ih1 => match d with | .tz ps => (dArgs [h] env ih1).bind fun r => (match r.1, strsP ps with | [.pu (.str z)], some ys => (match placeB (fun y => decide (y = z)) ys with | some j => .ok (.pu (.int (j : Nat)), r.2) | none => .stuck) | _, _ => .stuck) | _ => .stuck) hr er q fun m1 H1 x d ih1 hr1 p1 rx q1 => ?_
  split at q1
  · rename_i ps
    have rx0 := rx
    obtain ⟨a1, ob, vs, rfl, h1, h2, h3⟩ := rx
    refine ⟨⟨a1, ob, vs, rfl, h1, h2⟩, ?_⟩
    refine tA_bind (k := fun ds ih2 => match ds, strsP ps with | [.pu (.str z)], some ys => (match placeB (fun y => decide (y = z)) ys with | some j => .ok (.pu (.int (j : Nat)), ih2) | none => .stuck) | _, _ => .stuck) hr1 (er.post hr p1) q1 fun m2 H2 xs ds ih2 hr2 p2 rs q2 => ?_
    split at q2
    · rename_i z ys ey
      split at q2
      · rename_i j ej
        obtain ⟨y, rfl, ry⟩ := rs.one
        cases ry
        obtain ⟨a2, ob2, ws, ea, g1, _, g3⟩ := p2.rd hr1 rx0
        cases ea
        obtain ⟨⟨y0, k1, k2⟩, k3⟩ := placeB_ok ej
        have := of_decide_eq_true k2
        subst this
        refine ⟨a1, ys, y0, j, rfl, rfl, .inl (.inr ⟨ob2, by rw [← strsP_rp ey g3]; exact g1⟩), k1, fun n hn e => ?_, fin_pu hr2 q2 rfl⟩
        have := k3 n y0 hn e
        simp at this
      · exact q2.elim
    · exact q2.elim
  · exact q1.elim
/-! ### lists -/
theorem pds_get (ps : List P) (j : Nat) : (pds ps)[j]? = ps[j]?.map pd := by rw [pds_map, List.getElem?_map]
def idxL : D → List D → IH → R (D × IH) := fun o ds ih => match o, ds with
  | .pu (.lst xs), [.pu y] => if shp (.lst xs) && shp y then (match placeB (fun z => eqP z y) xs with
    | some j => .ok (.pu (.int (j : Nat)), ih)
    | none => .stuck) else .stuck
  | _, _ => .stuck
theorem idxL_ok : MeD g "list" "list.index" isL idxL := fun N lev sc W X G => by
  refine ⟨_, mt_indexD (by have := G.room.un; omega), fun F m ih H d x hr rx e => isL_ty hr rx e, fun F m ih H σ Q d x ds xs hr rx rs q => ?_⟩
  unfold idxL at q
  split at q
  · rename_i ps y
    split at q
    · rename_i z
      obtain ⟨z1, z2⟩ := Bool.and_eq_true_iff.mp z
      split at q
      · rename_i j ej
        obtain ⟨v, rfl, ry⟩ := rs.one
        have d1 := dp_of (K := X.K) _ _ rx (SeqAt.canLay_of_shaped z1)
        have d2 := dp_of (K := X.K) _ _ ry (SeqAt.canLay_of_shaped z2)
        obtain ⟨a1, vs, rfl, _⟩ := rx
        obtain ⟨⟨y0, k1, k2⟩, k3⟩ := placeB_ok ej
        refine ⟨a1, v, pd y, pds ps, j, pd y0, rfl, rfl, d1, d2, z1, z2, by rw [pds_get, k1]; rfl, k2, fun n z' hn hz => ?_, fin_pu hr q rfl⟩
        rw [pds_get] at hz
        obtain ⟨w, hw, rfl⟩ := Option.map_eq_some_iff.mp hz
        exact k3 n w hn hw
      · exact q.elim
    · exact q.elim
  · exact q.elim
def rCntD (K : PySem.W.Frag) : V → List V → Hp → VK → Prop := fun x xs H Q => ∃ (a : Addr) (y : V) (d : PyData) (ds : List PyData), x = V.ref a ∧ xs = [y] ∧ Dp K H (V.ref a) (.list ds) ∧ Dp K H y d ∧ SeqAt.shaped (.list ds) = true ∧ SeqAt.shaped d = true ∧ Q (.int ((ds.countP fun z => PyData.eqv z d : Nat) : Int)) H
theorem mt_cntD {X : Cx} (hu : X.A.units + 65 < cLine) : MtR X "list.count" (rCntD X.K) := by
  intro pins s σ H x xs v us Q I rx rxs h
  obtain ⟨a, y, d, ds, rfl, rfl, hl, hy, sl, sd, q⟩ := h
  cases rx
  obtain ⟨u, rfl, ru⟩ := vals1 rxs
  obtain ⟨bs, r1⟩ := Dp.reads I d y u hy ru
  cases hl with
  | lst hs ha =>
    obtain ⟨its, rv, pl, _⟩ := I.list hs
    obtain ⟨as, h4⟩ := Dp.readsAll I ds _ its ha rv
    exact SeqAt.count_list_data pl.isList h4 r1 (PyData.plainAll_of_canLay0 _ (show PyData.canLayAll0 ds = true from SeqAt.canLay_of_shaped sl)) (PyData.plain_of_canLay0 _ (SeqAt.canLay_of_shaped sd)) (room_in_shaped sd hu) ⟨.int _, H, I.tok _, ⟨_, rfl⟩, q⟩
def cntL : D → List D → IH → R (D × IH) := fun o ds ih => match o, ds with
  | .pu (.lst xs), [.pu y] => if shp (.lst xs) && shp y then .ok (.pu (.int ((xs.countP fun z => eqP z y : Nat) : Int)), ih) else .stuck
  | _, _ => .stuck
theorem cntL_ok : MeD g "list" "list.count" isL cntL := fun N lev sc W X G => by
  refine ⟨_, mt_cntD (by have := G.room.un; omega), fun F m ih H d x hr rx e => isL_ty hr rx e, fun F m ih H σ Q d x ds xs hr rx rs q => ?_⟩
  unfold cntL at q
  split at q
  · rename_i ps y
    split at q
    · rename_i z
      obtain ⟨z1, z2⟩ := Bool.and_eq_true_iff.mp z
      obtain ⟨v, rfl, ry⟩ := rs.one
      have d1 := dp_of (K := X.K) _ _ rx (SeqAt.canLay_of_shaped z1)
      have d2 := dp_of (K := X.K) _ _ ry (SeqAt.canLay_of_shaped z2)
      obtain ⟨a1, vs, rfl, _⟩ := rx
      refine ⟨a1, v, pd y, pds ps, rfl, rfl, d1, d2, z1, z2, ?_⟩
      rw [pds_map, List.countP_map]
      exact fin_pu hr q rfl
    · exact q.elim
  · exact q.elim
theorem e_index {o : Expr} (ho : SE g N lev sc f o) (ha : SA g N lev sc [h] [e]) (hb : (p.endLine == pos.line) = true) (hbs : ∀ env, attributeBase o "index" env (eval o env) = eval o env) : SE g N lev sc (dMe isL idxL f [h]) (.Call (.Attribute o "index" p) [e] [] pos) := se_methX idxL_ok F.plainAttrs_list F.slot_list_index F.type_list_index ho ha hbs hb (by simp)
theorem e_count {o : Expr} (ho : SE g N lev sc f o) (ha : SA g N lev sc [h] [e]) (hb : (p.endLine == pos.line) = true) (hbs : ∀ env, attributeBase o "count" env (eval o env) = eval o env) : SE g N lev sc (dMe isL cntL f [h]) (.Call (.Attribute o "count" p) [e] [] pos) := se_methX cntL_ok F.plainAttrs_list F.slot_list_count F.type_list_count ho ha hbs hb (by simp)
theorem e_pop {o : Expr} (ho : SE g N lev sc f o) (hb : (baseOk o && (p.endLine == pos.line)) = true) : SE g N lev sc (dMe isL popD f []) (.Call (.Attribute o "pop" p) [] [] pos) := by
  obtain ⟨h1, h2⟩ := Bool.and_eq_true_iff.mp hb
  exact se_meth0 popD_ok F.plainAttrs_list F.slot_list_pop F.type_list_pop ho h1 h2
end
end Dn

/-! Dn25: a, b = x, y where the stores are not swapped; lists put together in a new cell; in () of a default. -/
namespace Dn
open PySem PySem.Spec PyProof.Rows L2
section
variable {g : GI} {N : List Str} {lev k : Nat} {sc : Scope} {W : WX} {F : Addr → Prop} {m m' : List Addr} {ih ih' : IH} {H H' : Hp} {σ : L2.St} {env : Ev} {B : Addr → Prop} {p pos p2 : Pos} {e a b c : Expr} {es : List Expr} {f h : Ev → IH → R (D × IH)} {fs : List (Ev → IH → R (D × IH))}
/-- a target that is no local of the line -/
def offT (sc : Scope) : Expr → Bool
  | .Name x _ => (match sc.names.lookup x with
    | some .cell => true
    | _ => false)
  | _ => true
theorem filterMap_short {α β : Type} {f : α → Option β} : ∀ {xs : List α}, (∃ x ∈ xs, f x = none) → (xs.filterMap f).length < xs.length
  | [], h => by obtain ⟨x, hx, _⟩ := h; cases hx
  | y :: ys, h => by
    have le : (ys.filterMap f).length ≤ ys.length := List.length_filterMap_le ..
    obtain ⟨x, hx, hf⟩ := h
    rcases List.mem_cons.mp hx with e | hx
    · subst e
      rw [List.filterMap_cons, hf]
      simp only [List.length_cons]
      omega
    · have := filterMap_short (f := f) ⟨x, hx, hf⟩
      cases hy : f y with
      | none => rw [List.filterMap_cons_none hy, List.length_cons]; omega
      | some z => rw [List.filterMap_cons_some hy, List.length_cons, List.length_cons]; omega
theorem unswapped {X : Cx} (G : Gd g N lev sc W X) {ts vs : List Expr} {kt k2 : Nat} {pt pt2 : Pos} (h : ts.any (offT sc) = true) : swappedStores [.Tuple ts kt pt] (.Tuple vs k2 pt2) X.env = pure none := by
  unfold swappedStores
  dsimp only
  split
  · rfl
  · split
    · rfl
    · have short : ((ts.filterMap fun
          | .Name id pos => if X.env.kindOf id == some .local && pos.line == ((ts.head?.map (·.pos.line)).getD 0) then some id else none
          | _ => none).length != ts.length) = true := by
        have z := filterMap_short (f := fun
          | .Name id pos => if X.env.kindOf id == some .local && pos.line == ((ts.head?.map (·.pos.line)).getD 0) then some id else none
          | _ => none) (xs := ts) (by
            obtain ⟨x, hx, hb⟩ := List.any_eq_true.mp h
            refine ⟨x, hx, ?_⟩
            cases x with
            | Name id q =>
              simp only [offT] at hb
              split at hb
              · rename_i e1
                have : X.env.kindOf id = some .cell := G.scp.at e1 (by intro z; cases z)
                simp only [this]
                rfl
              · cases hb
            | _ => rfl)
        simp only [bne_iff_ne, ne_eq]
        omega
      refine if_pos ((Bool.or_eq_true _ _).mpr (.inl ?_))
      exact short
theorem s_asgT {hh : P → Ev → Option Ev} {sl : List Nat} {ts vs : List Expr} {kt k2 : Nat} {pt pt2 : Pos} (hg : SG g N lev sc hh sl (.Tuple ts kt pt)) (he : SE g N lev sc f (.Tuple vs k2 pt2)) (hb : ts.any (offT sc) = true) : SS g N lev sc (dAsg hh f) (.Assign [.Tuple ts kt pt] (.Tuple vs k2 pt2) pos) := fun W X G => by
  refine PS.con (ps_asg (he W X G) (hg W X G) rfl (unswapped G hb) rfl) fun D' σ H q => ?_
  obtain ⟨F, m, ih, env, hr, er, q⟩ := q
  refine tD_S (k := fun d ih1 => match d with | .pu p => (match hh p env with | some env' => .nx env' ih1 | none => .stuck) | _ => .stuck) hr er q fun m1 H1 y d ih1 hr1 p1 rx q1 => ?_
  split at q1
  · split at q1
    · rename_i env' e1
      exact ⟨F, m1, ih1, env, _, hr1, er.post hr p1, rx, env', e1, fun σ' er' _ => q1 m1 H1 σ' (Post.refl hr1) er'⟩
    · exact q1.elim
  · exact q1.elim
/-! ### xs + ys: a new cell -/
def lotD : D → IH → Option (List D)
  | .pu (.lst xs), _ => some (xs.map D.pu)
  | .ref n, ih => (match ih[n]? with
    | some (.lst xs) => some xs
    | _ => none)
  | _, _ => none
theorem lotD_rd {d : D} {x : V} {xs : List D} (hr : HR g.K F m ih H) (rx : RD g.K H (Bd F m ih) m d x) (e : lotD d ih = some xs) : ∃ a vs, x = .ref a ∧ H a = some (.lst vs) ∧ RDs g.K H (Bd F m ih) m xs vs := by
  unfold lotD at e
  split at e
  · cases e
    obtain ⟨a, vs, rfl, h1, _, h2⟩ := rx
    exact ⟨a, vs, rfl, h1, h2.toDs⟩
  · obtain ⟨a, rfl, hm⟩ := rx
    split at e
    · rename_i hc
      cases e
      obtain ⟨ob, ho, rc⟩ := hr.cell _ a _ hm hc (by intro z; cases z)
      cases ob with
      | lst vs => exact ⟨a, vs, rfl, ho, rc⟩
      | _ => exact rc.elim
    · cases e
  · cases e
def addB : D → D → IH → R (D × IH) := fun d1 d2 ih => match lotD d1 ih, lotD d2 ih with
  | some xs, some ys => if xs.length + ys.length ≤ SL then .ok (.ref ih.length, ih ++ [.lst (xs ++ ys)]) else .stuck
  | _, _ => .stuck
theorem addB_ok : OpD g (binaryOp .Add) addB := fun N lev sc W X G => by
  refine ⟨_, op_cat, fun F m ih H σ Q x y d1 d2 hr rx ry q => ?_⟩
  unfold addB at q
  split at q
  · rename_i xs ys e1 e2
    obtain ⟨a1, vs, rfl, h1, r1⟩ := lotD_rd hr rx e1
    obtain ⟨a2, ws, rfl, h2, r2⟩ := lotD_rd hr ry e2
    split at q
    · rename_i z
      exact ⟨_, _, _, _, rfl, rfl, h1, h2, by rw [SL_eq, r1.length, r2.length]; exact z, fun p hp => fin_box (o := .lst _) hr q (r1.app r2) hp⟩
    · exact q.elim
  · exact q.elim
/-! ### in () -/
def inK (t : Bool → Bool) : D → D → IH → R (D × IH) := fun x o ih => match o with
  | .ke => (match x with
    | .pu p => if flatP p then .ok (.pu (.bl (t false)), ih) else .stuck
    | _ => .stuck)
  | o => inDt t x o ih
theorem inKe_ok (neg : Bool) {f : Value → Value → Sem Value} (ho : ∀ X : Cx, OpR X f (rIn X.K neg)) : OpD g f (fun x o ih => match o with
    | .ke => (match x with
      | .pu p => if flatP p then .ok (.pu (.bl (if neg then !false else false)), ih) else .stuck
      | _ => .stuck)
    | _ => .stuck) := fun N lev sc W X G => by
  refine ⟨_, ho X, fun F m ih H σ Q x y d1 d2 hr rx ry q => ?_⟩
  cases d2 with
  | ke =>
    cases d1 with
    | pu p =>
      dsimp only at q
      split at q
      · rename_i z
        obtain ⟨a1, rfl, hs⟩ := ry
        obtain ⟨e1, e2⟩ := any_rp (ps := []) (vs := []) z rx rfl rfl
        exact ⟨a1, [], rfl, .inr (by rw [G.K]; exact hs H), flat_rp z rx, e2, by rw [e1]; exact fin_pu hr q rfl⟩
      · exact q.elim
    | _ => exact q.elim
  | _ => exact q.elim
def inKD : D → D → IH → R (D × IH) := inK id
def notInKD : D → D → IH → R (D × IH) := inK not
theorem inKD_ok : OpD g (compareOp .In) inKD := OpD.or (inKe_ok false fun X => op_in_seq) inD_ok fun a b ih => by
  unfold inKD inK
  cases b <;> first | exact .inl rfl | exact .inr rfl
theorem notInKD_ok : OpD g (compareOp .NotIn) notInKD := OpD.or (inKe_ok true fun X => op_notIn_seq) notInD_ok fun a b ih => by
  unfold notInKD inK
  cases b <;> first | exact .inl rfl | exact .inr rfl
theorem bo_inK {t : Bool → Bool} : BoolOd (inK t) := fun a b ih r e => by
  unfold inK at e
  split at e
  · repeat' split at e
    all_goals first | (cases e; exact ⟨_, rfl⟩) | cases e
  · exact bo_inT _ _ _ _ e
end
end Dn

/-! Dn26: sets of tuples of ints and texts: the search, adding. The tables are HandS.TupSets's (TabOk, go_spec, relaid_ok). -/
namespace Dn
open PySem PySem.Spec PyProof.Rows L2
abbrev Kt (P : Program) (w : World) (h : Heap) (k : List Key) (a : Addr) : Prop := IsTupleKey (mixKind P w) h k a
abbrev kh (P : Program) (w : World) (k : List Key) : Int := tupleKeyHash (mixKind P w) k
section
variable {P : Program} {w : World} {A : Around} {E : Value → Shared → Prop} {s : Shared}
/-- an item of such a tuple -/
def Atom (v : Value) : Prop := (∃ i t, v = .int i t) ∨ ∃ i t, v = .str i t
theorem atoms_of {k : List Key} {vs : List Value} (h : ItemsAre (mixKind P w) k vs) : ∀ v ∈ vs, Atom v := by
  induction h with
  | nil => intro v hv; cases hv
  | @cons k0 v' ks vs h1 _ ih =>
    intro v hv
    rcases List.mem_cons.mp hv with e | hv
    · subst e
      rcases keyIs_shape h1 with ⟨i, t, -, e⟩ | ⟨i, t, -, e⟩
      · exact .inl ⟨i, t, e⟩
      · exact .inr ⟨i, t, e⟩
    · exact ih v hv
theorem atom_cls {v : Value} (h : Atom v) (n : Nat) : ofAClassStatement n v = pure false := by
  rcases h with ⟨i, t, rfl⟩ | ⟨i, t, rfl⟩ <;> cases n <;> rfl
theorem atom_hash {v : Value} (h : Atom v) (n : Nat) : ∃ b, hashByValue n v = pure b := by
  rcases h with ⟨i, t, rfl⟩ | ⟨i, t, rfl⟩
  · exact ⟨true, by cases n <;> rfl⟩
  · exact ⟨false, by cases n <;> rfl⟩
theorem kt_cls {k : List Key} {b : Addr} {Q : Bool → Shared → Prop} (hk : Kt P w s.heap k b) (q : Q false s) : wpAny (model P w) A (ofAClassStatement 8 (.ref b)) Q E s := by
  have ty := hk.typeIs
  obtain ⟨o, its, n, ho, -, hd, hi⟩ := hk
  unfold ofAClassStatement
  refine wpAny_bind (wpAny_typeOf ty ?_)
  dsimp only
  have tt : (("tuple" : String) == "tuple") = true := by decide
  simp only [tt, if_true, Bool.not_true, Bool.false_eq_true, if_false]
  try refine wpAny_bind (wpAny_pure ?_)
  try simp only [Bool.not_true, Bool.false_eq_true, if_false]
  show wpAny _ _ (seqItems? (.ref b) >>= _) _ _ s
  refine wpAny_bind (wpAny_seqItems ho hd ?_)
  dsimp only
  refine wpAny_bind ?_
  show wpAny _ _ (forIn its _ _) _ _ s
  rw [← Array.forIn_toList]
  refine wpAny_forIn_list _ (fun rest r s' => r.1 = none ∧ s' = s ∧ ∀ v ∈ rest, Atom v) _ ?_ ?_ _ _ ⟨rfl, rfl, atoms_of hi⟩
  · rintro v rest r s' ⟨-, rfl, al⟩
    rw [atom_cls (al v List.mem_cons_self)]
    refine wpAny_bind (wpAny_pure ?_)
    simp only [Bool.false_eq_true, if_false]
    exact wpAny_pure ⟨rfl, rfl, fun u hu => al u (List.mem_cons_of_mem _ hu)⟩
  · rintro ⟨r1, r2⟩ s' ⟨hr, rfl, -⟩
    cases (show r1 = none from hr)
    exact wpAny_pure q
theorem kt_hash {k : List Key} {b : Addr} {Q : Bool → Shared → Prop} (hk : Kt P w s.heap k b) (q : ∀ c, Q c s) : wpAny (model P w) A (hashByValue 8 (.ref b)) Q E s := by
  have ty := hk.typeIs
  obtain ⟨o, its, n, ho, -, hd, hi⟩ := hk
  unfold hashByValue
  refine wpAny_bind (wpAny_specialOf ty F.slot_tuple_hash.lookup ?_)
  show wpAny _ _ (seqItems? (.ref b) >>= _) _ _ s
  refine wpAny_bind (wpAny_seqItems ho hd (wpAny_bind ?_))
  show wpAny _ _ (forIn its _ _) _ _ s
  rw [← Array.forIn_toList]
  refine wpAny_forIn_list _ (fun rest r s' => r.1 = none ∧ s' = s ∧ ∀ v ∈ rest, Atom v) _ ?_ ?_ _ _ ⟨rfl, rfl, atoms_of hi⟩
  · rintro v rest r s' ⟨-, rfl, al⟩
    obtain ⟨c, hc⟩ := atom_hash (al v List.mem_cons_self) 7
    rw [hc]
    refine wpAny_bind (wpAny_pure ?_)
    cases c with
    | true =>
      simp only [Bool.not_true, Bool.false_eq_true, if_false]
      exact wpAny_pure ⟨rfl, rfl, fun u hu => al u (List.mem_cons_of_mem _ hu)⟩
    | false =>
      simp only [Bool.not_false, if_true]
      exact wpAny_pure (wpAny_pure (q _))
  · rintro ⟨r1, r2⟩ s' ⟨hr, rfl, -⟩
    cases (show r1 = none from hr)
    exact wpAny_pure (q _)
theorem kt_seen {k : List Key} {b : Addr} {Q : Bool → Shared → Prop} (hk : Kt P w s.heap k b) {ys : List Value} (hy : ∀ y ∈ ys, ∃ k' c, y = Value.ref c ∧ Kt P w s.heap k' c) (q : Q false s) : wpAny (model P w) A (searchCouldBeSeen (.ref b) ys) Q E s := by
  unfold searchCouldBeSeen
  refine wpAny_bind (wpAny_forIn_list _ (fun rest r s' => r.1 = none ∧ s' = s ∧ ∀ y ∈ rest, ∃ k' c, y = Value.ref c ∧ Kt P w s.heap k' c) _ ?_ ?_ _ _ ⟨rfl, rfl, hy⟩)
  · rintro v rest r s' ⟨-, rfl, al⟩
    obtain ⟨k', c, rfl, hc⟩ := al v List.mem_cons_self
    have more : ∀ y ∈ rest, ∃ k' c, y = Value.ref c ∧ Kt P w s'.heap k' c := fun u hu => al u (List.mem_cons_of_mem _ hu)
    dsimp only
    by_cases hv : (b == c || (carriedByValue (.ref b) && carriedByValue (.ref c))) = true
    · exact wp_if_pos hv (wpAny_pure ⟨rfl, rfl, more⟩)
    · refine wp_if_neg hv (wpAny_bind (wpAny_eqIsQuiet_tuple hk ?_))
      simp only [Bool.not_true, Bool.false_eq_true, if_false]
      refine wpAny_bind (wpAny_eqIsQuiet_tuple hc ?_)
      simp only [Bool.not_true, Bool.false_eq_true, if_false]
      refine wpAny_bind (kt_cls hk ?_)
      simp only [Bool.false_eq_true, if_false]
      refine wpAny_bind (kt_cls hc ?_)
      simp only [Bool.false_eq_true, if_false]
      exact wpAny_pure ⟨rfl, rfl, more⟩
  · rintro ⟨r1, r2⟩ s' ⟨hr, rfl, -⟩
    cases (show r1 = none from hr)
    exact wpAny_pure q

/-! ### the set -/
def rowK (P : Program) (w : World) (L : List (Addr × List Key)) : List (Int × Value) := L.map fun p => (kh P w p.2, Value.ref p.1)
structure SetKt (P : Program) (w : World) (h : Heap) (a : Addr) (L : List (Addr × List Key)) (es : Array (Int × Value)) (ep : Nat) (t : SetTable) : Prop where
  ob : ∃ o, h.get? a = some o ∧ o.ExactSet ∧ o.data = .set es ep t
  rows : es.toList = rowK P w L
  tab : TabOk t (L.map fun p => kh P w p.2)
  nd : (L.map (·.2)).Nodup
  tup : ∀ p ∈ L, Kt P w h p.2 p.1
  led : w.params.followText "set-order" = true ∨ t.led = true
  room : L.length * 5 < t.mask * 3
  few : L.length < 64
variable {a : Addr} {L : List (Addr × List Key)} {es : Array (Int × Value)} {ep : Nat} {t : SetTable}
theorem rowK_len (h : es.toList = rowK P w L) : es.size = L.length := by
  have z := congrArg List.length h
  simpa [rowK] using z
theorem rowK_at (h : es.toList = rowK P w L) {i : Nat} {p : Addr × List Key} (hp : L[i]? = some p) : es[i]? = some (kh P w p.2, Value.ref p.1) := by
  rw [← Array.getElem?_toList, h, rowK, List.getElem?_map, hp]
  rfl
theorem fits_of (h1 : t.place.size = es.size) (h2 : t.dummies = #[]) (h3 : es.size ≤ t.mask) : t.fits es.size = true := by
  unfold SetTable.fits SetTable.fill
  rw [h2, Bool.and_eq_true, beq_iff_eq, decide_eq_true_eq]
  show t.place.size = es.size ∧ t.place.size + 0 ≤ t.mask
  omega
theorem SetKt.place (R : SetKt P w s.heap a L es ep t) : t.place.size = L.length := by rw [R.tab.sz, List.length_map]
theorem SetKt.fits (R : SetKt P w s.heap a L es ep t) : t.fits es.size = true := by
  have h1 := R.place
  have h2 := rowK_len R.rows
  have h3 := R.room
  exact fits_of (by omega) R.tab.dm (by omega)
theorem SetKt.way_ (R : SetKt P w s.heap a L es ep t) : ¬ t.gaveWay = true := by
  unfold SetTable.gaveWay
  rw [mask_odd R.tab.mok]
  decide
/-- the probe's stand behind c steps -/
abbrev stK (m : Nat) (h : Int) (c : Nat) : SetTable.Probe := nth m (runAt m (SetTable.bits h % (m + 1)) (SetTable.bits h)) c
theorem stK_dummy (m : Nat) (h : Int) (c : Nat) : (stK m h c).dummy = none := by
  have key : ∀ (n : Nat) (p : SetTable.Probe), p.dummy = none → (nth m p n).dummy = none := by
    intro n
    induction n with
    | zero => exact fun p h => h
    | succ n ih => exact fun p h => ih (adv m p) (by unfold adv; split <;> exact h)
  exact key c _ rfl
theorem stK_add (m : Nat) (h : Int) (c q : Nat) : nth m (stK m h c) q = stK m h (c + q) := (nth_add m c _ q).symm
theorem kt_search (R : SetKt P w s.heap a L es ep t) {x : Addr} {k : List Key} (hx : Kt P w s.heap k x) (hu : A.units < cLine) {K : Nat} (hKf : K < 10 * SetTable.turns t.mask) (hK : way t.mask (kh P w k) K ∉ t.place.toList) (hKb : ∀ c, c < K → way t.mask (kh P w k) c ∈ t.place.toList) {Q : SetFound → Shared → Prop}
    (hin : k ∈ L.map (·.2) → Q (.there none) s) (hout : k ∉ L.map (·.2) → Q (.free (way t.mask (kh P w k) K) false) s) :
    ∀ (f c : Nat) (stand : Option SetTable.Probe), stand.getD (t.probeStart (kh P w k)) = stK t.mask (kh P w k) c → c ≤ K → K - c < f →
      (∀ (i : Nat) p, L[i]? = some p → p.2 = k → ∃ c', c ≤ c' ∧ c' < K ∧ t.place.toList[i]? = some (way t.mask (kh P w k) c')) → wpAny (model P w) A (setSearchFrom a (.ref x) (kh P w k) true f stand) Q E s := by
  intro f
  induction f with
  | zero => intro c stand _ _ hf; exact absurd hf (Nat.not_lt_zero _)
  | succ f again =>
    intro c stand hst hc hf hre
    obtain ⟨o, ho, hex, hd⟩ := R.ob
    rw [setSearchFrom_succ]
    refine wpAny_bind (wpAny_setState_of ho hd R.fits ?_)
    dsimp only
    refine wp_if_neg R.way_ ?_
    try refine wpAny_bind (wpAny_pure ?_)
    have stj : ∀ q, (nth t.mask (stK t.mask (kh P w k) c) q).j = way t.mask (kh P w k) (c + q) := fun q => congrArg SetTable.Probe.j (stK_add _ _ c q)
    have hs : ∀ (i : Nat) p, L[i]? = some p → (es[i]?.map (·.1)).getD 0 = kh P w p.2 := fun i p hp => by rw [rowK_at R.rows hp]; rfl
    rcases go_spec t R.tab.ris R.tab.dm (fun i => (es[i]?.map (·.1)).getD 0) (kh P w k) (10 * SetTable.turns t.mask) (K - c) _ (stK_dummy t.mask (kh P w k) c) (by omega) (fun q hq => by rw [stj]; exact hKb (c + q) (by omega)) (by rw [stj, show c + (K - c) = K by omega]; exact hK) with ⟨q, i, hq, hi, hh, hno, hpr⟩ | ⟨hno, hpr⟩
    · have pr : t.probe (fun i => (es[i]?.map (·.1)).getD 0) (kh P w k) (stand.getD (t.probeStart (kh P w k))) = some (.candidate (way t.mask (kh P w k) (c + q)) i (stK t.mask (kh P w k) (c + (q + 1)))) := by
        rw [hst, ← stj, ← stK_add]
        exact hpr
      rw [pr]
      dsimp only
      rw [stj] at hi
      have il : i < L.length := by
        have z := (List.getElem?_eq_some_iff.mp hi).1
        rw [Array.length_toList, R.place] at z
        exact z
      obtain ⟨p, hp⟩ : ∃ p, L[i]? = some p := ⟨_, List.getElem?_eq_getElem il⟩
      have mem : p ∈ L := List.mem_of_getElem? hp
      have rest : wpAny (model P w) A (searchRest a (.ref x) (kh P w k) true f es t (way t.mask (kh P w k) (c + q)) i (stK t.mask (kh P w k) (c + (q + 1)))) Q E s := by
        unfold searchRest
        rw [rowK_at R.rows hp]
        dsimp only
        refine wpAny_bind (wpAny_holding (wpAny_eqBool_tuple hu (R.tup p mem) hx (wpAny_bind (wpAny_setState_of ho hd R.fits ?_))))
        dsimp only
        by_cases hkk : p.2 = k
        · exact wp_if_pos (by simp [hkk]) (wpAny_pure (hin (List.mem_map.mpr ⟨p, mem, hkk⟩)))
        · refine wp_if_neg (by simp [hkk]) ?_
          try refine wpAny_bind (wpAny_pure ?_)
          rw [sameMem]
          dsimp only
          have live := slot_live R.tab.ris hi
          simp only [if_true, live, rowK_at R.rows hp]
          refine wpAny_bind (wpAny_isSame_ref_self (wpAny_bind (wpAny_pure ?_)))
          simp only [if_true]
          refine wp_if_neg (by simp [hkk]) (again (c + (q + 1)) _ rfl (by omega) (by omega) fun i0 p0 h0 hk0 => ?_)
          obtain ⟨c', a1, a2, a3⟩ := hre i0 p0 h0 hk0
          refine ⟨c', ?_, a2, a3⟩
          rcases Nat.lt_trichotomy c' (c + q) with z | z | z
          · exact (hno (c' - c) i0 (by omega) (by rw [stj, show c + (c' - c) = c' by omega]; exact a3) ((hs i0 p0 h0).trans (congrArg (kh P w) hk0))).elim
          · rw [z] at a3
            have l2 := slot_live R.tab.ris a3
            rw [live] at l2
            injection l2 with l2
            rw [← l2, hp] at h0
            exact (hkk ((congrArg Prod.snd (Option.some.inj h0)).trans hk0)).elim
          · omega
      by_cases hl : t.led = true
      · refine wp_if_neg (by simp [hl]) ?_
        try refine wpAny_bind (wpAny_pure ?_)
        exact rest
      · refine wp_if_pos (by simp [hl]) (wpAny_bind (kt_seen hx (fun y hy => ?_) ?_))
        · obtain ⟨e, he, rfl⟩ := List.mem_map.mp hy
          have he2 : e ∈ es.toList := by
            have z : e ∈ es ∧ e.1 = kh P w k := by simpa using he
            simpa using z.1
          rw [R.rows] at he2
          obtain ⟨p2, m2, rfl⟩ := List.mem_map.mp he2
          exact ⟨p2.2, p2.1, rfl, R.tup p2 m2⟩
        · refine wp_if_neg (by decide) ?_
          try refine wpAny_bind (wpAny_pure ?_)
          exact rest
    · have pr : t.probe (fun i => (es[i]?.map (·.1)).getD 0) (kh P w k) (stand.getD (t.probeStart (kh P w k))) = some (.empty (way t.mask (kh P w k) K) none) := by
        have z : way t.mask (kh P w k) K = (nth t.mask (stK t.mask (kh P w k) c) (K - c)).j := by rw [stj, show c + (K - c) = K by omega]
        rw [hst, z]
        exact hpr
      rw [pr]
      dsimp only
      refine wpAny_pure (hout fun hm => ?_)
      obtain ⟨p0, h0, hk0⟩ := List.mem_map.mp hm
      obtain ⟨i0, hi0, e0⟩ := List.getElem_of_mem h0
      have h00 : L[i0]? = some p0 := by rw [List.getElem?_eq_getElem hi0, e0]
      obtain ⟨c', a1, a2, a3⟩ := hre i0 p0 h00 hk0
      exact hno (c' - c) i0 (by omega) (by rw [stj, show c + (c' - c) = c' by omega]; exact a3) ((hs i0 p0 h00).trans (congrArg (kh P w) hk0))
end
end Dn

/-! Dn27: adding to a set of key tuples; set(list). -/
namespace Dn
open PySem PySem.Spec PyProof.Rows L2
section
variable {P : Program} {w : World} {A : Around} {E : Value → Shared → Prop} {s : Shared} {a : Addr} {L : List (Addr × List Key)} {es : Array (Int × Value)} {ep : Nat} {t : SetTable}
theorem kt_find (R : SetKt P w s.heap a L es ep t) {x : Addr} {k : List Key} (hx : Kt P w s.heap k x) (hu : A.units < cLine) {Q : SetFound → Shared → Prop} (hin : k ∈ L.map (·.2) → Q (.there none) s)
    (hout : ∀ K, k ∉ L.map (·.2) → way t.mask (kh P w k) K ∉ t.place.toList → (∀ c, c < K → way t.mask (kh P w k) c ∈ t.place.toList) → Q (.free (way t.mask (kh P w k) K) false) s) : wpAny (model P w) A (setSearch a (.ref x) (kh P w k) true) Q E s := by
  have room := R.room
  obtain ⟨K, h1, h2, h3⟩ := R.tab.first (by rw [List.length_map]; omega) (kh P w k)
  have big : K < 100000 := by
    have : 10 * SetTable.turns t.mask ≤ 1420 := by
      unfold SetTable.turns
      rcases R.tab.mok with e | e | e <;> omega
    omega
  unfold setSearch
  refine kt_search R hx hu h1 h2 h3 hin (fun n => hout K n h2 h3) 100000 0 none rfl (Nat.zero_le _) (by omega) fun i p hp hk => ?_
  have il : i < t.place.toList.length := by rw [Array.length_toList, R.place]; exact (List.getElem?_eq_some_iff.mp hp).1
  obtain ⟨c, hc, e⟩ := R.tab.before h2 (i := i) (by rw [List.getElem?_map, hp, ← hk]; rfl) (List.getElem?_eq_getElem il)
  exact ⟨c, Nat.zero_le _, hc, by rw [List.getElem?_eq_getElem il, e]⟩
theorem Kt.kept {h h' : Heap} {k : List Key} {b : Addr} (x : Kt P w h k b) (hk : ∀ o, h.get? b = some o → h'.get? b = some o) : Kt P w h' k b := by
  obtain ⟨o, its, n, ho, r⟩ := x
  exact ⟨o, its, n, hk o ho, r⟩
/-- a tuple is no set -/
theorem Kt.but {h h' : Heap} {k : List Key} {b : Addr} {o : Obj} (x : Kt P w h k b) (ho : h.get? a = some o) (hd : o.data = .set es ep t) (hs : Heap.SameBut a h h') : Kt P w h' k b :=
  x.kept fun o' e => (hs.2 b fun z => by
    obtain ⟨o2, its, n, h2, _, d2, _⟩ := x
    rw [z, ho] at h2
    cases h2
    rw [hd] at d2
    cases d2).trans e
theorem plainT_tab {hs : List Int} (T : TabOk t hs) (b : Bool) : TabOk { t with plain := b } hs := ⟨T.ris, T.dm, T.sz, T.mok, T.bd, T.reach⟩
/-- rows by an order -/
theorem rows_by (hr : es.toList = rowK P w L) {order : Array Nat} (hp : order.toList.Perm (List.range L.length)) :
    ∃ L2, (order.filterMap (es[·]?)).toList = rowK P w L2 ∧ L2.Perm L ∧ (L2.map fun p => kh P w p.2) = order.toList.map fun i => (es.map (·.1)).getD i 0 := by
  have all : ∀ l : List Nat, (∀ i ∈ l, i < L.length) → l.filterMap (fun i => es[i]?) = rowK P w (l.filterMap fun i => L[i]?) ∧ ((l.filterMap fun i => L[i]?).map fun p => kh P w p.2) = l.map fun i => (es.map (·.1)).getD i 0 := by
    intro l
    induction l with
    | nil => exact fun _ => ⟨rfl, rfl⟩
    | cons i l ih =>
      intro hl
      have hi := hl i List.mem_cons_self
      have g1 : L[i]? = some L[i] := List.getElem?_eq_getElem hi
      have g2 := rowK_at hr g1
      obtain ⟨e1, e2⟩ := ih fun j hj => hl j (List.mem_cons_of_mem _ hj)
      rw [List.filterMap_cons_some g1, List.filterMap_cons_some g2, e1, List.map_cons, List.map_cons, e2]
      refine ⟨rfl, ?_⟩
      have g3 : (es.map (·.1))[i]? = some (kh P w L[i].2) := by rw [Array.getElem?_map, g2]; rfl
      simp [Array.getD_eq_getD_getElem?, g3]
  obtain ⟨e1, e2⟩ := all order.toList fun i hi => List.mem_range.mp (hp.mem_iff.mp hi)
  refine ⟨_, by first | (rw [Array.toList_filterMap]; exact e1) | simpa using e1, ?_, e2⟩
  have whole : ∀ n, n ≤ L.length → (List.range n).filterMap (fun i => L[i]?) = L.take n := by
    intro n
    induction n with
    | zero => exact fun _ => rfl
    | succ n ih =>
      intro hn
      have g1 : L[n]? = some L[n] := List.getElem?_eq_getElem hn
      rw [List.range_succ, List.filterMap_append, ih (Nat.le_of_lt hn), List.take_succ, g1, List.filterMap_cons_some g1]
      rfl
  have z := hp.filterMap fun i => L[i]?
  rw [whole _ (Nat.le_refl _), List.take_length] at z
  exact z
/-- a larger table -/
theorem kt_relay {o : Obj} (ho : s.heap.get? a = some o) (hex : o.ExactSet) (hd : o.data = .set es ep t) (rows : es.toList = rowK P w L) (psz : t.place.size = es.size) (dm : t.dummies = #[]) (fit : es.size ≤ t.mask) (nd : (L.map (·.2)).Nodup) (tup : ∀ p ∈ L, Kt P w s.heap p.2 p.1)
    (ld : w.params.followText "set-order" = true ∨ t.led = true) (few : L.length < 64) {wanted M : Nat} (hw : SetTable.sizeAbove wanted - 1 = M) (hM : MaskOk M) (hw2 : SetTable.sizeAbove wanted ≤ 128) (hn : L.length * 5 < M * 3) {Q : Unit → Shared → Prop}
    (hQ : ∀ h' L' es' ep' t', Heap.SameBut a s.heap h' → SetKt P w h' a L' es' ep' t' → L'.Perm L → Q () { s with heap := h' }) : wpAny (model P w) A (setRelay a wanted) Q E s := by
  have sz := rowK_len rows
  obtain ⟨t', order, e, hp, T, em, el, -, ed⟩ := relaid_ok t (hs := es.map (·.1)) (wanted := wanted) hw hM (by rw [Array.size_map, sz]; omega)
  rw [Array.size_map, sz] at hp
  obtain ⟨L2, r1, r2, r3⟩ := rows_by rows hp
  rw [← r3] at T
  have sz2 : (order.filterMap (es[·]?)).size = es.size := by rw [rowK_len r1, r2.length_eq, sz]
  rw [setRelay_eq]
  refine wpAny_bind (wpAny_setState_of ho hd (fits_of psz dm fit) ?_)
  dsimp only
  refine wp_if_neg (by rw [sizeLine_eq]; omega) ?_
  try refine wpAny_bind (wpAny_pure ?_)
  rw [e]
  dsimp only
  refine wpAny_bind (wp_if_neg (by rw [sz2]; simp) ?_)
  try refine wpAny_bind (wpAny_pure ?_)
  refine wpAny_pure ?_
  dsimp only
  refine wpAny_storeSet_of ho hd ?_ (by rw [sz2, sz, sizeLine_eq]; omega)
  have sb : Heap.SameBut a s.heap (s.heap.update a (Obj.putSet (order.filterMap (es[·]?)) t')) := Heap.SameBut.update ..
  exact hQ _ L2 _ (ep + 1) t' sb ⟨⟨_, store_at ho hd, ⟨hex.1, hex.2.1, hex.2.2⟩, rfl⟩, r1, T, (r2.map (·.2)).nodup_iff.mpr nd, fun p hm => (tup p (r2.mem_iff.mp hm)).but ho hd sb, by rw [el]; exact ld, by rw [r2.length_eq, em]; exact hn, by rw [r2.length_eq]; exact few⟩ r2
theorem kt_add (R : SetKt P w s.heap a L es ep t) {x : Addr} {k : List Key} (hx : Kt P w s.heap k x) (hu : A.units < cLine) (hfew : L.length + 1 < 64) {Q : Bool → Shared → Prop}
    (hQ : ∀ b h' L' es' ep' t', Heap.SameBut a s.heap h' → SetKt P w h' a L' es' ep' t' → (k ∈ L.map (·.2) → L' = L) → (k ∉ L.map (·.2) → L'.Perm ((x, k) :: L)) → Q b { s with heap := h' }) : wpAny (model P w) A (setAddHashed a (.ref x) (kh P w k)) Q E s := by
  obtain ⟨o, ho, hex, hd⟩ := R.ob
  have sz := rowK_len R.rows
  have room := R.room
  unfold setAddHashed
  refine wpAny_holding ?_
  rw [show (100000 : Nat) = 99999 + 1 from rfl, setAddHashedIn_succ]
  refine wpAny_bind (wpAny_setState_of ho hd R.fits ?_)
  dsimp only
  refine wp_if_neg (by simp [byScan, Value.scannable]) ?_
  try refine wpAny_bind (wpAny_pure ?_)
  refine wpAny_bind (kt_find R hx hu (fun hm => wpAny_pure (hQ false s.heap L es ep t (Heap.SameBut.refl a s.heap) R (fun _ => rfl) fun z => absurd hm z)) fun K hm hK hb => ?_)
  dsimp only
  refine wpAny_bind (wpAny_setState_of ho hd R.fits ?_)
  dsimp only
  obtain ⟨q1, q2, q3, q4, q5, q6, q7, q8, q9⟩ := R.tab.put hK hb
  generalize t.put (way t.mask (kh P w k) K) = pt at q1 q3 q4 q5 q6 q7 q8 q9 ⊢
  obtain ⟨t1, p⟩ := pt
  dsimp only at q1 q3 q4 q5 q6 q7 q8 q9 ⊢
  subst q1
  have put : (SetTable.insertAt es (SetTable.below t.place (way t.mask (kh P w k) K)) (kh P w k, Value.ref x)).toList = rowK P w (L.take (SetTable.below t.place (way t.mask (kh P w k) K)) ++ (x, k) :: L.drop (SetTable.below t.place (way t.mask (kh P w k) K))) := by
    rw [SetTable.toList_insertAt, R.rows]
    unfold rowK
    rw [List.map_append, List.map_cons, List.map_take, List.map_drop]
  generalize SetTable.below t.place (way t.mask (kh P w k) K) = p at q2 q3 put ⊢
  have pm := put_perm L p (x, k)
  have hh : (L.take p ++ (x, k) :: L.drop p).map (fun p => kh P w p.2) = (L.map fun p => kh P w p.2).take p ++ kh P w k :: (L.map fun p => kh P w p.2).drop p := by rw [List.map_append, List.map_cons, List.map_take, List.map_drop]
  rw [← hh] at q3
  have nd1 : ((L.take p ++ (x, k) :: L.drop p).map (·.2)).Nodup := (pm.map (·.2)).nodup_iff.mpr (List.nodup_cons.mpr ⟨hm, R.nd⟩)
  generalize SetTable.insertAt es p (kh P w k, Value.ref x) = es1 at put ⊢
  generalize L.take p ++ (x, k) :: L.drop p = L1 at pm q3 nd1 put
  have len1 : L1.length = L.length + 1 := pm.length_eq
  have sz1 : es1.size = L.length + 1 := by rw [rowK_len put, len1]
  -- by value, or not
  have fin : ∀ b : Bool, wpAny (model P w) A (do
      storeSet a es1 (if b = true then t1 else { t1 with plain := false })
      if (!false && (if b = true then t1 else { t1 with plain := false }).tooFull) = true then setRelay a (SetTable.grown (es.size + 1))
      return true) Q E s := by
    intro b
    have T1 : TabOk (if b = true then t1 else { t1 with plain := false }) (L1.map fun p => kh P w p.2) := by cases b <;> first | exact q3 | exact plainT_tab q3 false
    have m1 : (if b = true then t1 else { t1 with plain := false }).mask = t.mask := by cases b <;> exact q4
    have l1 : (if b = true then t1 else { t1 with plain := false }).led = t.led := by cases b <;> exact q5
    have f1 : (if b = true then t1 else { t1 with plain := false }).fill = L.length + 1 := by
      rw [List.length_map] at q9
      cases b <;> exact q9
    generalize (if b = true then t1 else { t1 with plain := false }) = t2 at T1 m1 l1 f1 ⊢
    refine wpAny_bind (wpAny_storeSet_of ho hd ?_ (by rw [sz1, sizeLine_eq]; omega))
    have sb : Heap.SameBut a s.heap (s.heap.update a (Obj.putSet es1 t2)) := Heap.SameBut.update ..
    have ho1 := store_at (es' := es1) (t' := t2) ho hd
    generalize s.heap.update a (Obj.putSet es1 t2) = h1 at sb ho1 ⊢
    have tup1 : ∀ p ∈ L1, Kt P w h1 p.2 p.1 := fun p hp => by
      rcases List.mem_cons.mp (pm.mem_iff.mp hp) with e | hp
      · rw [e]; exact hx.but ho hd sb
      · exact (R.tup p hp).but ho hd sb
    have ld1 : w.params.followText "set-order" = true ∨ t2.led = true := by rw [l1]; exact R.led
    by_cases hf : t2.tooFull = true
    · refine wp_if_pos (by simp [hf]) (wpAny_bind ?_)
      have full : (L.length + 1) * 5 ≥ t2.mask * 3 := by
        have z := hf
        unfold SetTable.tooFull at z
        rw [decide_eq_true_eq, f1] at z
        exact z
      rw [sz]
      have two : (t.mask = 7 ∧ L.length = 4) ∨ (t.mask = 31 ∧ L.length = 18) := by
        rw [m1] at full
        rcases R.tab.mok with e | e | e <;> rw [e] at full room
        · exact .inl ⟨e, by omega⟩
        · exact .inr ⟨e, by omega⟩
        · omega
      have go : ∀ M, SetTable.sizeAbove (SetTable.grown (L.length + 1)) - 1 = M → MaskOk M → SetTable.sizeAbove (SetTable.grown (L.length + 1)) ≤ 128 → (L.length + 1) * 5 < M * 3 →
          wpAny (model P w) A (setRelay a (SetTable.grown (L.length + 1))) (fun _ s' => wpAny (model P w) A (pure true) Q E s') E { s with heap := h1 } := fun M g1 g2 g3 g4 =>
        kt_relay (s := { s with heap := h1 }) ho1 ⟨hex.1, hex.2.1, hex.2.2⟩ rfl put (by rw [T1.sz, List.length_map, len1, sz1]) T1.dm (by rw [sz1, m1]; rcases two with ⟨e, e2⟩ | ⟨e, e2⟩ <;> omega) nd1 tup1 ld1 (by rw [len1]; exact hfew) g1 g2 g3 (by rw [len1]; exact g4)
          fun h2 L2 es2 ep2 t3 sb2 R2 pm2 => wpAny_pure (hQ true h2 L2 es2 ep2 t3 (sb.trans sb2) R2 (fun z => absurd z hm) fun _ => pm2.trans pm)
      rcases two with ⟨_, e2⟩ | ⟨_, e2⟩
      · exact go 31 (by rw [e2, size_20]) (.inr (.inl rfl)) (by rw [e2, size_20]; decide) (by omega)
      · exact go 127 (by rw [e2, size_76]) (.inr (.inr rfl)) (by rw [e2, size_76]; decide) (by omega)
    · refine wp_if_neg (by simp [hf]) ?_
      try refine wpAny_bind (wpAny_pure ?_)
      refine wpAny_pure (hQ true h1 L1 es1 (ep + 1) t2 sb ⟨⟨_, ho1, ⟨hex.1, hex.2.1, hex.2.2⟩, rfl⟩, put, T1, nd1, tup1, ld1, ?_, by rw [len1]; exact hfew⟩ (fun z => absurd z hm) fun _ => pm)
      have z := hf
      unfold SetTable.tooFull at z
      rw [decide_eq_true_eq, f1] at z
      rw [len1]
      omega
  by_cases pl : t1.plain = true
  · first
      | (refine wpAny_bind ?_; refine wp_if_pos pl ?_; exact kt_hash hx fun c => fin c)
      | exact wp_if_pos pl (wpAny_bind (kt_hash hx fun c => fin c))
  · first
      | (refine wpAny_bind ?_; refine wp_if_neg pl ?_; exact wpAny_pure (fin true))
      | exact wp_if_neg pl (wpAny_bind (wpAny_pure (fin true)))
end
end Dn

/-! Dn28: sets by a law of their elements: key tuples, texts. -/
namespace Dn
open PySem PySem.Spec PyProof.Rows L2
abbrev newSet (w : World) : Obj := { cls := .type "set", dict := none, data := .set #[] 0 (.fresh 0 0 (!w.params.followText "set-order")) }
/-- how elements of a sort lie in sets: El a value is that element, Sx the set at a holds these, in the table's order -/
structure SLaw (P : Program) (w : World) (κ : Type) where
  El : Heap → κ → Value → Prop
  Sx : Heap → Addr → List (Value × κ) → Prop
  elk : ∀ {h h' : Heap} {k : κ} {v : Value}, El h k v → (∀ b o, h.get? b = some o → h'.get? b = some o) → El h' k v
  sxk : ∀ {h h' : Heap} {a : Addr} {L : List (Value × κ)}, Sx h a L → (∀ o, h.get? a = some o → h'.get? a = some o) → (∀ p ∈ L, El h' p.2 p.1) → Sx h' a L
  fresh : ∀ {h : Heap} {a : Addr}, h.get? a = some (newSet w) → Sx h a []
  add : ∀ {A : Around} {E : Value → Shared → Prop} {s : Shared} {a : Addr} {L : List (Value × κ)} {v : Value} {k : κ} {Q : Bool → Shared → Prop}, A.units < cLine → Sx s.heap a L → El s.heap k v → L.length + 1 < 64 →
    (∀ b h' tk L', Heap.SameBut a s.heap h' → s.toks ≤ tk → Sx h' a L' → (k ∈ L.map (·.2) → L' = L) → (k ∉ L.map (·.2) → L'.Perm ((v, k) :: L)) → Q b { s with heap := h', toks := tk }) → wpAny (model P w) A (setAdd a v) Q E s
  nd : ∀ {h : Heap} {a : Addr} {L : List (Value × κ)}, Sx h a L → (L.map (·.2)).Nodup
  raw : ∀ {h : Heap} {a : Addr} {L : List (Value × κ)}, Sx h a L → ∃ es ep t, SetAt h a es ep t ∧ t.fits es.size = true ∧ es.size < scanBound ∧ Ris t.place.toList ∧ (w.params.followText "set-order" = true ∨ t.led = true) ∧ es.toList.map (·.2) = L.map (·.1)
section
variable {P : Program} {w : World}
def lawT (P : Program) (w : World) : SLaw P w (List Key) where
  El := fun h k v => ∃ x, v = .ref x ∧ Kt P w h k x
  Sx := fun h a L => ∃ L0 es ep t, SetKt P w h a L0 es ep t ∧ L = L0.map fun p => (Value.ref p.1, p.2)
  elk := fun ⟨x, e, k⟩ hk => ⟨x, e, k.kept fun o z => hk x o z⟩
  sxk := fun ⟨L0, es, ep, t, R, e⟩ ha hp => by
    obtain ⟨o, ho, r⟩ := R.ob
    refine ⟨L0, es, ep, t, ⟨⟨o, ha o ho, r⟩, R.rows, R.tab, R.nd, fun p hm => ?_, R.led, R.room, R.few⟩, e⟩
    obtain ⟨x, e2, k⟩ := hp (.ref p.1, p.2) (by rw [e]; exact List.mem_map.mpr ⟨p, hm, rfl⟩)
    cases e2
    exact k
  fresh := fun {h a} ho => ⟨[], #[], 0, .fresh 0 0 (!w.params.followText "set-order"), ⟨⟨_, ho, ⟨rfl, rfl, rfl⟩, rfl⟩, rfl, ⟨List.Pairwise.nil, rfl, rfl, .inl rfl, fun x hx => (by cases hx), fun i h j hi => (by simp at hi)⟩, List.nodup_nil, fun p hp => (by cases hp), by
    show _ ∨ (!w.params.followText "set-order") = true
    cases w.params.followText "set-order" <;> simp, by show 0 * 5 < 7 * 3; decide, by show 0 < 64; decide⟩, rfl⟩
  add := fun {A E s a L v k Q} hu ⟨L0, es, ep, t, R, e⟩ ⟨x, ev, hx⟩ few q => by
    subst ev e
    unfold setAdd
    refine wpAny_holding (wpAny_bind (wpAny_pyHash_tuple hu hx ?_))
    refine kt_add (s := { s with toks := s.toks + (k.length + 1) }) R hx hu (by simpa using few) fun b h' L' es' ep' t' sb R' c1 c2 => ?_
    have mm : (L0.map fun p => (Value.ref p.1, p.2)).map (·.2) = L0.map (·.2) := by rw [List.map_map]; rfl
    refine q b h' _ (L'.map fun p => (Value.ref p.1, p.2)) sb (Nat.le_add_right _ _) ⟨L', es', ep', t', R', rfl⟩ (fun z => ?_) fun z => ?_
    · rw [mm] at z; rw [c1 z]
    · rw [mm] at z; exact (c2 z).map _
  nd := fun ⟨L0, es, ep, t, R, e⟩ => by rw [e, List.map_map]; exact R.nd
  raw := fun ⟨L0, es, ep, t, R, e⟩ => by
    obtain ⟨o, ho, hex, hd⟩ := R.ob
    have sz := rowK_len R.rows
    have few := R.few
    refine ⟨es, ep, t, ⟨o, ho, hex.1, hd⟩, fits_of (by rw [R.tab.sz, List.length_map, sz]) R.tab.dm (by have := R.room; omega), by unfold scanBound; omega, R.tab.ris, R.led, ?_⟩
    rw [R.rows, e, rowK, List.map_map, List.map_map]
    rfl
/-! ### texts -/
def strOf : Value → Str
  | .str k _ => k
  | _ => ""
def lotS (es : Array (Int × Value)) : List (Value × Str) := es.toList.map fun e => (e.2, strOf e.2)
structure SetSt (P : Program) (w : World) (h : Heap) (a : Addr) (D : PySem.Froz.SD) : Prop where
  ob : h.get? a = some (PySem.Froz.sObj "set" D)
  ok : PySem.Froz.TxOk P w D ((lotS D.1).map (·.2))
  nd : ((lotS D.1).map (·.2)).Nodup
  ris : Ris D.2.2.place.toList
  led : w.params.followText "set-order" = true ∨ D.2.2.led = true
  few : D.1.size < 64
theorem tail_ris {ep : Nat} {es1 : Array (Int × Value)} {t2 : SetTable} {b : Bool} (h1 : Ris t2.place.toList) : Ris (PySem.Froz.tailTx ep es1 t2 b).2.2.place.toList ∧ (PySem.Froz.tailTx ep es1 t2 b).2.2.led = t2.led ∧ (PySem.Froz.tailTx ep es1 t2 b).1.toList.Perm es1.toList := by
  unfold PySem.Froz.tailTx
  split
  · exact ⟨relayAll_ris .., relayAll_led .., relayAll_perm ..⟩
  · exact ⟨h1, rfl, .refl _⟩
theorem addTx_facts {D : PySem.Froz.SD} {h : Int} {v : Value} (r : Ris D.2.2.place.toList) : Ris (PySem.Froz.addTx h v D).2.2.place.toList ∧ (PySem.Froz.addTx h v D).2.2.led = D.2.2.led ∧ (PySem.Froz.addTx h v D).1.toList.Perm (D.1.push (h, v)).toList := by
  unfold PySem.Froz.addTx
  have g1 := layNew_ris D.2.2 D.1 h v r
  have g2 := layNew_led D.2.2 D.1 h v
  have g3 := layNew_perm D.2.2 D.1 h v
  generalize layNew D.2.2 D.1 h v = L at g1 g2 g3
  have z : Ris (if L.2.1.plain = true then { L.2.1 with plain := false } else L.2.1).place.toList ∧ (if L.2.1.plain = true then { L.2.1 with plain := false } else L.2.1).led = D.2.2.led := by
    split
    · exact ⟨g1, g2⟩
    · exact ⟨g1, g2⟩
  obtain ⟨k1, k2, k3⟩ := tail_ris (ep := D.2.1) (es1 := L.1) (b := L.2.2.1) z.1
  exact ⟨k1, k2.trans z.2, k3.trans g3⟩
theorem has_add {A : Around} {E : Value → Shared → Prop} {s : Shared} {a : Addr} {D : PySem.Froz.SD} {l : List Str} {k : Str} {u : Tok} {Q : Bool → Shared → Prop} (ho : s.heap.get? a = some (PySem.Froz.sObj "set" D)) (F : PySem.Froz.TxOk P w D l) (hk : k ∈ l) (hb : l.length < scanBound) (q : Q false s) : wpAny (model P w) A (setAddHashed a (.str k u) (hashStr w k)) Q E s := by
  obtain ⟨es, ep, t⟩ := D
  have hkey : (strKind P w).is k (.str k u) = true := PySem.Froz.is_str k u
  have fit : t.fits es.size = true := F.fit
  have el : ElemsOf (strKind P w) es.toList := F.el
  have sz : es.size = l.length := F.sz
  obtain ⟨e, he, hie⟩ := (F.mem k).mp hk
  unfold setAddHashed setAddHashedIn
  refine wpAny_holding (wpAny_bind (wpAny_setState_of ho rfl fit ?_))
  dsimp only
  rw [byScan_of rfl (by omega) el]
  simp only [↓reduceIte]
  unfold setAddByScan
  refine wpAny_bind (wpAny_bind (wpAny_rule (wpAny_bind (wpAny_setScan_of (knd := strKind P w) (k := k) hkey ho rfl fit el ?_))))
  cases hr : List.findIdx? (fun e => (strKind P w).is k e.2) es.toList with
  | none => exact absurd hie (by simpa using List.findIdx?_eq_none_iff.mp hr e he)
  | some j => exact wpAny_pure (wpAny_pure q)
def lawS (P : Program) (w : World) : SLaw P w Str where
  El := fun _ k v => ∃ t, v = .str k t
  Sx := fun h a L => ∃ D, SetSt P w h a D ∧ L = lotS D.1
  elk := fun x _ => x
  sxk := fun ⟨D, R, e⟩ ha _ => ⟨D, ⟨ha _ R.ob, R.ok, R.nd, R.ris, R.led, R.few⟩, e⟩
  fresh := fun {h a} ho => ⟨(#[], 0, .fresh 0 0 (!w.params.followText "set-order")), ⟨ho, PySem.Froz.TxOk.nil rfl, List.nodup_nil, List.Pairwise.nil, by
    show _ ∨ (!w.params.followText "set-order") = true
    cases w.params.followText "set-order" <;> simp, by show 0 < 64; decide⟩, rfl⟩
  add := fun {A E s a L v k Q} hu ⟨D, R, e⟩ ⟨u, ev⟩ few q => by
    subst ev e
    have hkey : (strKind P w).is k (.str k u) = true := PySem.Froz.is_str k u
    have ll : (lotS D.1).length = D.1.size := by unfold lotS; simp
    unfold setAdd
    refine wpAny_holding (wpAny_bind ((strKind P w).pyHash hkey ?_))
    by_cases hk : k ∈ (lotS D.1).map (·.2)
    · exact has_add (s := { s with toks := s.toks + 1 }) R.ob R.ok hk (by rw [List.length_map, ll]; have := R.few; unfold scanBound; omega) (q false s.heap _ _ (Heap.SameBut.refl a s.heap) (Nat.le_add_right _ _) ⟨D, R, rfl⟩ (fun _ => rfl) fun z => absurd hk z)
    · obtain ⟨g1, g2, g3⟩ := addTx_facts (h := hashStr w k) (v := .str k u) R.ris
      have pm : (lotS (PySem.Froz.addTx (hashStr w k) (.str k u) D).1).Perm ((.str k u, k) :: lotS D.1) := by
        unfold lotS
        refine (g3.map _).trans ?_
        rw [Array.toList_push, List.map_append]
        exact List.perm_append_comm
      have sz : (PySem.Froz.addTx (hashStr w k) (.str k u) D).1.size = D.1.size + 1 := by
        have z := g3.length_eq
        rw [Array.toList_push, List.length_append, Array.length_toList, Array.length_toList] at z
        exact z
      have F2 := PySem.Froz.add_ok u (k := k) R.ok
      refine PySem.Froz.add_x (s := { s with toks := s.toks + 1 }) R.ob R.ok hk (by rw [List.length_map]; unfold scanBound; omega) ?_
      have sb : Heap.SameBut a s.heap (s.heap.update a fun _ => PySem.Froz.sObj "set" (PySem.Froz.addTx (hashStr w k) (.str k u) D)) := Heap.SameBut.update ..
      refine q true _ _ (lotS (PySem.Froz.addTx (hashStr w k) (.str k u) D).1) sb (Nat.le_add_right _ _) ⟨_, ⟨PySem.Froz.get_upd _ R.ob rfl, ⟨F2.el, fun k' => ?_, ?_, F2.fit⟩, ?_, g1, by rw [g2]; exact R.led, by rw [sz, ← ll]; exact few⟩, rfl⟩ (fun z => absurd z hk) fun _ => pm
      · rw [(pm.map (·.2)).mem_iff]; exact F2.mem k'
      · rw [(pm.map (·.2)).length_eq]; exact F2.sz
      · exact (pm.map (·.2)).nodup_iff.mpr (List.nodup_cons.mpr ⟨hk, R.nd⟩)
  nd := fun ⟨D, R, e⟩ => by rw [e]; exact R.nd
  raw := fun ⟨D, R, e⟩ => ⟨D.1, D.2.1, D.2.2, ⟨_, R.ob, rfl, rfl⟩, R.ok.fit, by have := R.few; unfold scanBound; omega, R.ris, R.led, by rw [e, lotS, List.map_map]; rfl⟩
end
end Dn

/-! Dn29 (printed by gen29.py): set(xs) of a list or tuple whose elements have a law. -/
namespace Dn
open PySem PySem.Spec PyProof.Rows L2
/-- what the set has of the first i items -/
structure GotK {κ : Type} (ks : List (Value × κ)) (i : Nat) (L : List (Value × κ)) : Prop where
  sub : ∀ p ∈ L, p ∈ ks.take i
  all : ∀ p ∈ ks.take i, p.2 ∈ L.map (·.2)
  len : L.length ≤ i
section
variable {P : Program} {w : World} {κ : Type} {A : Around} {E : Value → Shared → Prop} {s : Shared}
theorem GotK.same {ks L : List (Value × κ)} {i : Nat} {x : Value × κ} (g : GotK ks i L) (h : ks[i]? = some x) (hm : x.2 ∈ L.map (·.2)) : GotK ks (i + 1) L := by
  have tn := take_next h
  refine ⟨fun p hp => by rw [tn]; exact List.mem_append_left _ (g.sub p hp), fun p hp => ?_, Nat.le_succ_of_le g.len⟩
  rw [tn] at hp
  exact (List.mem_append.mp hp).elim (g.all p) fun z => by rw [List.mem_singleton.mp z]; exact hm
theorem GotK.more {ks L L' : List (Value × κ)} {i : Nat} {x : Value × κ} (g : GotK ks i L) (h : ks[i]? = some x) (pm : L'.Perm (x :: L)) : GotK ks (i + 1) L' := by
  have tn := take_next h
  refine ⟨fun p hp => ?_, fun p hp => ?_, by rw [pm.length_eq, List.length_cons]; exact Nat.succ_le_succ g.len⟩
  · rw [tn]
    exact (List.mem_cons.mp (pm.mem_iff.mp hp)).elim (fun e => by rw [e]; exact List.mem_append_right _ (List.mem_singleton.mpr rfl)) fun z => List.mem_append_left _ (g.sub p z)
  · rw [(pm.map (·.2)).mem_iff, List.map_cons]
    rw [tn] at hp
    exact (List.mem_append.mp hp).elim (fun z => List.mem_cons_of_mem _ (g.all p z)) fun z => by rw [List.mem_singleton.mp z]; exact List.mem_cons_self
/-- the loop of set.update -/
theorem upd_loop (M : SLaw P w κ) {I : Addr} {fp wr : List Addr} {G : Array GenState → Array GenState → Prop} {n : Nat} {Pv : Nat → Value → Prop} {St : Nat → Shared → Prop} {R : Result → Shared → Prop} (Wk : WalksS P w A.in1 I fp wr G n Pv St) (S : Addr) (hSf : S ∉ fp) (ks : List (Value × κ)) (hn : n = ks.length) (hfew : ks.length < 64)
    (hval : ∀ i v, Pv i v → ∃ p, ks[i]? = some p ∧ v = p.1) (h0 : Heap) (hk : ∀ p ∈ ks, M.El h0 p.2 p.1) (hS0 : h0.get? S = none) (hw0 : ∀ b ∈ wr, h0.get? b = none) (hu : A.in1.units < cLine) :
    ∀ (k i : Nat) (s : Shared), n - i = k → i ≤ n → St i s → (∀ b o, h0.get? b = some o → s.heap.get? b = some o) → (∃ L, M.Sx s.heap S L ∧ GotK ks i L) →
      (∀ s' L, Moved (S :: wr) G s s' → M.Sx s'.heap S L → GotK ks n L → (∀ b o, h0.get? b = some o → s'.heap.get? b = some o) → R (.ok (.ret .none)) s') → codeAny (model P w) A (.builtin "set.update.loop" ⟨[.ref S, .ref I], []⟩) R s := by
  have nSw : S ∉ wr := fun h => hSf (Wk.sub _ h)
  have more : ∀ b ∈ wr, b ∈ S :: wr := fun b hb => List.mem_cons_of_mem _ hb
  have still : ∀ {s s' : Shared}, Moved wr G s s' → (∀ b o, h0.get? b = some o → s.heap.get? b = some o) → ∀ b o, h0.get? b = some o → s'.heap.get? b = some o := fun mv kp b o e => mv.heap b o (fun hb => by rw [hw0 b hb] at e; cases e) (kp b o e)
  intro k
  induction k with
  | zero =>
    intro i s ek hi st kp ⟨L, sx, g⟩ fin
    obtain rfl : i = n := by omega
    refine codeAny_builtin F.entry_set_update_loop ?_; rw [Around.under_plainId F.plain_set_update_loop _]
    show wpAny _ A.in1 (pyNext (.ref I) >>= _) _ _ s
    refine wpAny_bind (Wk.done s _ _ st fun s' mv => ?_)
    show wpAny _ A.in1 (ret Value.none) _ _ s'
    have kp' := still mv kp
    exact wpAny_pure (fin s' L (mv.mono more) (M.sxk sx (fun o e => mv.heap S o nSw e) fun p hp => M.elk (hk p (List.mem_of_mem_take (g.sub p hp))) kp') g kp')
  | succ k ih =>
    intro i s ek hi st kp ⟨L, sx, g⟩ fin
    have lt : i < n := by omega
    refine codeAny_builtin F.entry_set_update_loop ?_; rw [Around.under_plainId F.plain_set_update_loop _]
    show wpAny _ A.in1 (pyNext (.ref I) >>= _) _ _ s
    refine wpAny_bind (Wk.item i s _ _ lt st fun v s' hP st' mv => ?_)
    obtain ⟨p, hp, rfl⟩ := hval i v hP
    have kp' := still mv kp
    have sx' : M.Sx s'.heap S L := M.sxk sx (fun o e => mv.heap S o nSw e) fun q hq => M.elk (hk q (List.mem_of_mem_take (g.sub q hq))) kp'
    show wpAny _ A.in1 (holding [p.1] (setAdd S p.1) >>= _) _ _ s'
    refine wpAny_bind (wpAny_holding (M.add hu sx' (M.elk (hk p (List.mem_of_getElem? hp)) kp') (by have := g.len; omega) fun b h' tk L' sb tle sx2 c1 c2 => ?_))
    have g' : GotK ks (i + 1) L' := by
      rcases Classical.em (p.2 ∈ L.map (·.2)) with c | c
      · rw [c1 c]; exact g.same hp c
      · exact g.more hp (c2 c)
    have kp2 : ∀ b o, h0.get? b = some o → h'.get? b = some o := fun b o e => (sb.2 b fun z => by rw [z, hS0] at e; cases e).trans (kp' b o e)
    refine wpAny_pure ⟨plainId_quiet F.plain_set_update_loop _, ih (i + 1) _ (by omega) lt (Wk.frame _ s' _ _ st' tle fun b hb o e => by rw [sb.2 b fun h : b = S => hSf (by rw [← h]; exact hb)]; exact e) kp2 ⟨L', sx2, g'⟩ fun s'' L2 mv2 sx3 g3 kp3 => ?_⟩
    exact fin s'' L2 (Moved.trans Wk.gtrans ((mv.mono more).then_heap tle fun b o hb e => by rw [sb.2 b fun h : b = S => hb (by rw [h]; exact List.mem_cons_self)]; exact e) mv2) sx3 g3 kp3

set_option maxRecDepth 100000 in
set_option maxHeartbeats 3200000 in
theorem call_setList (M : SLaw P w κ) {l : Addr} {items : Array Value} (ks : List (Value × κ)) {Q : Value → Shared → Prop} (hh : A.handled = none) (hl : s.heap.IsList l items) (hit : items.toList = ks.map (·.1)) (hk : ∀ p ∈ ks, M.El s.heap p.2 p.1) (hfew : ks.length < 64) (hu : A.units + 3 < cLine)
    (fin : ∀ (h' : Heap) (tk : Nat) L, M.Sx h' s.heap.objs.size L → GotK ks ks.length L → (∀ b o, s.heap.get? b = some o → h'.get? b = some o) → Q (.ref s.heap.objs.size) { s with heap := h', toks := tk }) : wpAny (model P w) A (call (.type "set") [.ref l]) Q E s := by
  have len : items.size = ks.length := by
    have q := congrArg List.length hit
    simpa using q
  obtain ⟨c, tl, mro⟩ := F.called_set.mro
  have made := F.called_set.made; have sub := F.called_set.sub
  refine wpAny_call (codeAny_of_tree ?_); show wpAny _ _ (callAny (.type "set") _) _ _ _
  refine wpAny_pure ⟨Code.quiet_builtin _ (by decide +kernel), codeAny_builtin F.entry_type_call ?_⟩; rw [Around.under_plain (weight_type_call_type "set" [.ref l] []) rfl]
  have f1 := F.called_set.notType; have f2 := F.called_set.canCreate; have f3 := F.typeCall_set_1 (.ref l)
  repeat (any_goals (first | assumption | wp_step))
  refine codeAny_mono (code_set_led1 (.ref l) (E := E) (Q₁ := fun obj s₁ => obj = .ref s.heap.objs.size ∧ s₁ = { s with heap := s.heap.push (newSet w) }) ⟨rfl, rfl⟩) fun r s₁ hr => ?_
  cases r with
  | error e => exact hr
  | ok fl =>
    cases fl with
    | ret obj =>
      obtain ⟨rfl, rfl⟩ := hr
      have here : (s.heap.push (newSet w)).get? s.heap.objs.size = some (newSet w) := Heap.get?_push_size _ rfl
      have ty : Shared.TypeIs { s with heap := s.heap.push (newSet w) } (.ref s.heap.objs.size) "set" := ⟨_, here, rfl⟩
      have f4 := F.called_set.init.lookup; have f5 := F.called_set.init.bind (.ref s.heap.objs.size)
      repeat (any_goals (first | assumption | wp_step))
      refine codeAny_mono (codeAny_call_builtin (R := wants (fun r s₂ => r = .none ∧ ∃ h' tk L, s₂ = { s with heap := h', toks := tk } ∧ M.Sx h' s.heap.objs.size L ∧ GotK ks ks.length L ∧ (∀ b o, s.heap.get? b = some o → h'.get? b = some o)) E) F.called_set.init.plain F.entry_set_init (check_set_init_1 ty ?_)) fun r₂ s₂ hr₂ => ?_
      · obtain ⟨⟨ocls, odict, odata, oslots⟩, hol, hcl, nl, hdl⟩ := hl
        simp only at hcl hdl
        subst hcl hdl
        have hol' : (s.heap.push (newSet w)).get? l = some { cls := .type "list", dict := odict, data := .seq items nl, slots := oslots } := Heap.get?_push_of_some _ hol
        have g1 := F.sub_list_set; have g2 := F.sub_list_frozenset
        have g3 : (Value.type "list" == Value.type "dict") = false := by decide
        have src : (s.heap.push (newSet w)).IsList l items := ⟨_, hol', rfl, nl, rfl⟩
        unfold Builtin.«set.__init__» noKeywords Builtin.Frozenset.updateFrom
        generalize hPI : pyIter = PI
        wp_walk
        subst hPI
        refine wpAny_pyIter_list src (wpAny_bind (wpAny_runValue ?_))
        have ll : l < s.heap.objs.size := Heap.lt_size hol
        have sz1 : (s.heap.push (newSet w)).objs.size = s.heap.objs.size + 1 := Heap.size_push ..
        have off : ∀ b, s.heap.objs.size ≤ b → s.heap.get? b = none := fun b hb => by
          cases q : s.heap.get? b with
          | none => rfl
          | some o => exact absurd (Nat.lt_of_lt_of_le (Heap.lt_size q) hb) (Nat.lt_irrefl _)
        refine upd_loop M ((Walks.list (by simp [hh]) _ l (by rw [sz1]; exact Nat.ne_of_lt (Nat.lt_succ_of_lt ll)) items).toS) s.heap.objs.size (by
            rw [sz1]; simp only [List.mem_cons, List.mem_singleton, List.not_mem_nil, or_false, not_or]
            exact ⟨Nat.ne_of_lt (Nat.lt_succ_self _), Nat.ne_of_gt ll⟩) ks len hfew (fun i v hv => by
            have q : items.toList[i]? = some v := by rw [Array.getElem?_toList]; exact hv
            rw [hit, List.getElem?_map] at q
            obtain ⟨p, e1, e2⟩ := Option.map_eq_some_iff.mp q
            exact ⟨p, e1, e2.symm⟩) s.heap hk (off _ (Nat.le_refl _)) (fun b hb => off b (by rw [List.mem_singleton.mp hb, sz1]; exact Nat.le_succ _)) hu (items.size - 0) 0 _ (by omega) (Nat.zero_le _)
          ⟨⟨_, Heap.get?_push_size _ rfl, rfl, rfl⟩, (src.push _)⟩ (fun b o e => Heap.get?_push_of_some _ (Heap.get?_push_of_some _ e)) ⟨[], M.fresh (Heap.get?_push_of_some _ here), ⟨fun p h => (by cases h), fun p h => (by simp at h), Nat.le_refl _⟩⟩ ?_
        intro s' L mv sx g kp
        obtain ⟨h', g2, d', tk', os'⟩ := s'
        obtain rfl : g2 = s.gens := mv.gens
        obtain rfl : d' = s.drawn := mv.drawn
        obtain rfl : os' = s.os := mv.os
        show wpAny _ _ _ _ _ _
        refine wpAny_pure ?_; show wpAny _ _ (ret Value.none) _ _ _
        rw [len] at g
        exact wpAny_pure ⟨rfl, h', tk', L, rfl, sx, g, kp⟩
      · cases r₂ with
        | error e => exact hr₂
        | ok fl₂ =>
          cases fl₂ with
          | ret r =>
            obtain ⟨rfl, h', tk, L, rfl, sx, g, kp⟩ := hr₂
            repeat (any_goals (first | assumption | wp_step))
            exact fin _ _ _ sx g kp
          | _ => exact hr₂.elim
    | _ => exact hr.elim

set_option maxRecDepth 100000 in
set_option maxHeartbeats 3200000 in
theorem call_setTuple (M : SLaw P w κ) {l : Addr} {items : Array Value} (ks : List (Value × κ)) {Q : Value → Shared → Prop} (hh : A.handled = none) (hl : s.heap.IsTuple l items) (hit : items.toList = ks.map (·.1)) (hk : ∀ p ∈ ks, M.El s.heap p.2 p.1) (hfew : ks.length < 64) (hu : A.units + 3 < cLine)
    (fin : ∀ (h' : Heap) (tk : Nat) L, M.Sx h' s.heap.objs.size L → GotK ks ks.length L → (∀ b o, s.heap.get? b = some o → h'.get? b = some o) → Q (.ref s.heap.objs.size) { s with heap := h', toks := tk }) : wpAny (model P w) A (call (.type "set") [.ref l]) Q E s := by
  have len : items.size = ks.length := by
    have q := congrArg List.length hit
    simpa using q
  obtain ⟨c, tl, mro⟩ := F.called_set.mro
  have made := F.called_set.made; have sub := F.called_set.sub
  refine wpAny_call (codeAny_of_tree ?_); show wpAny _ _ (callAny (.type "set") _) _ _ _
  refine wpAny_pure ⟨Code.quiet_builtin _ (by decide +kernel), codeAny_builtin F.entry_type_call ?_⟩; rw [Around.under_plain (weight_type_call_type "set" [.ref l] []) rfl]
  have f1 := F.called_set.notType; have f2 := F.called_set.canCreate; have f3 := F.typeCall_set_1 (.ref l)
  repeat (any_goals (first | assumption | wp_step))
  refine codeAny_mono (code_set_led1 (.ref l) (E := E) (Q₁ := fun obj s₁ => obj = .ref s.heap.objs.size ∧ s₁ = { s with heap := s.heap.push (newSet w) }) ⟨rfl, rfl⟩) fun r s₁ hr => ?_
  cases r with
  | error e => exact hr
  | ok fl =>
    cases fl with
    | ret obj =>
      obtain ⟨rfl, rfl⟩ := hr
      have here : (s.heap.push (newSet w)).get? s.heap.objs.size = some (newSet w) := Heap.get?_push_size _ rfl
      have ty : Shared.TypeIs { s with heap := s.heap.push (newSet w) } (.ref s.heap.objs.size) "set" := ⟨_, here, rfl⟩
      have f4 := F.called_set.init.lookup; have f5 := F.called_set.init.bind (.ref s.heap.objs.size)
      repeat (any_goals (first | assumption | wp_step))
      refine codeAny_mono (codeAny_call_builtin (R := wants (fun r s₂ => r = .none ∧ ∃ h' tk L, s₂ = { s with heap := h', toks := tk } ∧ M.Sx h' s.heap.objs.size L ∧ GotK ks ks.length L ∧ (∀ b o, s.heap.get? b = some o → h'.get? b = some o)) E) F.called_set.init.plain F.entry_set_init (check_set_init_1 ty ?_)) fun r₂ s₂ hr₂ => ?_
      · obtain ⟨⟨ocls, odict, odata, oslots⟩, hol, hcl, nl, hdl⟩ := hl
        simp only at hcl hdl
        subst hcl hdl
        have hol' : (s.heap.push (newSet w)).get? l = some { cls := .type "tuple", dict := odict, data := .seq items nl, slots := oslots } := Heap.get?_push_of_some _ hol
        have g1 := F.sub_tuple_set; have g2 := F.sub_tuple_frozenset
        have g3 : (Value.type "tuple" == Value.type "dict") = false := by decide
        have src : (s.heap.push (newSet w)).IsTuple l items := ⟨_, hol', rfl, nl, rfl⟩
        unfold Builtin.«set.__init__» noKeywords Builtin.Frozenset.updateFrom
        generalize hPI : pyIter = PI
        wp_walk
        subst hPI
        refine wpAny_pyIter_tuple src (wpAny_bind (wpAny_runValue ?_))
        have ll : l < s.heap.objs.size := Heap.lt_size hol
        have sz1 : (s.heap.push (newSet w)).objs.size = s.heap.objs.size + 1 := Heap.size_push ..
        have off : ∀ b, s.heap.objs.size ≤ b → s.heap.get? b = none := fun b hb => by
          cases q : s.heap.get? b with
          | none => rfl
          | some o => exact absurd (Nat.lt_of_lt_of_le (Heap.lt_size q) hb) (Nat.lt_irrefl _)
        refine upd_loop M ((Walks.tuple (by simp [hh]) _ l (by rw [sz1]; exact Nat.ne_of_lt (Nat.lt_succ_of_lt ll)) items).toS) s.heap.objs.size (by
            rw [sz1]; simp only [List.mem_cons, List.mem_singleton, List.not_mem_nil, or_false, not_or]
            exact ⟨Nat.ne_of_lt (Nat.lt_succ_self _), Nat.ne_of_gt ll⟩) ks len hfew (fun i v hv => by
            have q : items.toList[i]? = some v := by rw [Array.getElem?_toList]; exact hv
            rw [hit, List.getElem?_map] at q
            obtain ⟨p, e1, e2⟩ := Option.map_eq_some_iff.mp q
            exact ⟨p, e1, e2.symm⟩) s.heap hk (off _ (Nat.le_refl _)) (fun b hb => off b (by rw [List.mem_singleton.mp hb, sz1]; exact Nat.le_succ _)) hu (items.size - 0) 0 _ (by omega) (Nat.zero_le _)
          ⟨⟨_, Heap.get?_push_size _ rfl, rfl, rfl⟩, (src.push _)⟩ (fun b o e => Heap.get?_push_of_some _ (Heap.get?_push_of_some _ e)) ⟨[], M.fresh (Heap.get?_push_of_some _ here), ⟨fun p h => (by cases h), fun p h => (by simp at h), Nat.le_refl _⟩⟩ ?_
        intro s' L mv sx g kp
        obtain ⟨h', g2, d', tk', os'⟩ := s'
        obtain rfl : g2 = s.gens := mv.gens
        obtain rfl : d' = s.drawn := mv.drawn
        obtain rfl : os' = s.os := mv.os
        show wpAny _ _ _ _ _ _
        refine wpAny_pure ?_; show wpAny _ _ (ret Value.none) _ _ _
        rw [len] at g
        exact wpAny_pure ⟨rfl, h', tk', L, rfl, sx, g, kp⟩
      · cases r₂ with
        | error e => exact hr₂
        | ok fl₂ =>
          cases fl₂ with
          | ret r =>
            obtain ⟨rfl, h', tk, L, rfl, sx, g, kp⟩ := hr₂
            repeat (any_goals (first | assumption | wp_step))
            exact fin _ _ _ sx g kp
          | _ => exact hr₂.elim
    | _ => exact hr.elim
end
end Dn

/-! Dn30: sorted(set(..)): the sorted list of distinct elements does not hang on the set's order. -/
namespace Dn
open PySem PySem.Spec PyProof.Rows L2
/-- an element as data -/
def tupK (k : List Key) : P := .tup (k.map kP)
theorem toks_kP (k : Key) : ∃ x, PySem.W.keyToks (pd (kP k)) = [x] := by cases k <;> exact ⟨_, rfl⟩
theorem kP_inj {a b : Key} (h : PySem.W.keyToks (pd (kP a)) = PySem.W.keyToks (pd (kP b))) : a = b := by
  cases a with
  | inl i =>
    cases b with
    | inl j => have z : ([Sum.inl i] : List (Int ⊕ List Nat)) = [Sum.inl j] := h; cases z; rfl
    | inr j => have z : ([Sum.inl i] : List (Int ⊕ List Nat)) = [Sum.inr j.cps.toList] := h; cases z
  | inr i =>
    cases b with
    | inl j => have z : ([Sum.inr i.cps.toList] : List (Int ⊕ List Nat)) = [Sum.inl j] := h; cases z
    | inr j =>
      have z : ([Sum.inr i.cps.toList] : List (Int ⊕ List Nat)) = [Sum.inr j.cps.toList] := h
      injection z with z _
      injection z with z
      rw [PySem.W.str_of_cps z]
theorem tupK_inj : ∀ {a b : List Key}, PySem.W.keyToksAll (pds (a.map kP)) = PySem.W.keyToksAll (pds (b.map kP)) → a = b
  | [], [], _ => rfl
  | [], _ :: _, h => by
    have z : ([Sum.inl 0] : List (Int ⊕ List Nat)) = Sum.inl 1 :: _ := h
    injection z with z _
    injection z with z
    cases z
  | _ :: _, [], h => by
    have z : (Sum.inl 1 :: _ : List (Int ⊕ List Nat)) = [Sum.inl 0] := h
    injection z with z _
    injection z with z
    cases z
  | x :: a, y :: b, h => by
    have z : (Sum.inl 1 :: (PySem.W.keyToks (pd (kP x)) ++ PySem.W.keyToksAll (pds (a.map kP))) : List (Int ⊕ List Nat)) = Sum.inl 1 :: (PySem.W.keyToks (pd (kP y)) ++ PySem.W.keyToksAll (pds (b.map kP))) := h
    injection z with _ z
    obtain ⟨u, eu⟩ := toks_kP x
    obtain ⟨v, ev⟩ := toks_kP y
    rw [eu, ev] at z
    injection z with z1 z2
    have e1 : x = y := kP_inj (by rw [eu, ev, z1])
    rw [e1, tupK_inj z2]
theorem le_anti {p q : P} (h1 : leP p q = true) (h2 : leP q p = true) : PySem.W.keyToks (pd p) = PySem.W.keyToks (pd q) := by
  unfold leP PySem.W.dataLt at h1 h2
  rw [Bool.not_eq_true'] at h1 h2
  exact (PyProof.Rows.listOrd PyProof.Rows.itemOrd).total _ _ h2 h1
/-- sorts of elements as data -/
structure KindP (κ : Type) where
  toP : κ → P
  inj : ∀ {a b : κ}, PySem.W.keyToks (pd (toP a)) = PySem.W.keyToks (pd (toP b)) → a = b
def kindT : KindP (List Key) := ⟨tupK, fun h => tupK_inj h⟩
def kindS : KindP Str := ⟨.str, fun {a b} h => by
  have z : ([Sum.inr a.cps.toList] : List (Int ⊕ List Nat)) = [Sum.inr b.cps.toList] := h
  injection z with z _
  injection z with z
  exact PySem.W.str_of_cps z⟩
theorem isort_perm_eq {κ : Type} (T : KindP κ) {a b : List κ} (h : a.Perm b) : isort leP (a.map T.toP) = isort leP (b.map T.toP) := by
  refine List.Perm.eq_of_pairwise (le := fun x y => leP x y = true) (fun x y hx hy h1 h2 => ?_) (isort_sorted leP_total _) (isort_sorted leP_total _) ((isort_perm _).trans ((h.map _).trans (isort_perm _).symm))
  obtain ⟨u, _, rfl⟩ := List.mem_map.mp ((isort_perm _).mem_iff.mp hx)
  obtain ⟨v, _, rfl⟩ := List.mem_map.mp ((isort_perm _).mem_iff.mp hy)
  rw [T.inj (le_anti h1 h2)]
/-- without doubles -/
def ddp {κ : Type} [DecidableEq κ] : List κ → List κ
  | [] => []
  | x :: xs => if x ∈ xs then ddp xs else x :: ddp xs
section
variable {κ : Type} [DecidableEq κ]
theorem mem_ddp {x : κ} : ∀ {xs : List κ}, x ∈ ddp xs ↔ x ∈ xs
  | [] => by simp [ddp]
  | y :: ys => by
    unfold ddp
    split
    · rename_i h
      rw [mem_ddp, List.mem_cons]
      exact ⟨.inr, fun z => z.elim (fun e => e ▸ h) id⟩
    · rw [List.mem_cons, List.mem_cons, mem_ddp]
theorem nd_ddp : ∀ xs : List κ, (ddp xs).Nodup
  | [] => List.nodup_nil
  | y :: ys => by
    unfold ddp
    split
    · exact nd_ddp ys
    · rename_i h
      exact List.nodup_cons.mpr ⟨fun z => h (mem_ddp.mp z), nd_ddp ys⟩
theorem ddp_perm {a b : List κ} (nd : a.Nodup) (h : ∀ x, x ∈ a ↔ x ∈ b) : a.Perm (ddp b) := (List.perm_ext_iff_of_nodup nd (nd_ddp b)).mpr fun x => (h x).trans mem_ddp.symm
end
/-- pairs by a permutation of their first parts -/
theorem perm_lift {α β : Type} : ∀ {L : List (α × β)} {vs : List α}, vs.Perm (L.map (·.1)) → ∃ L' : List (α × β), L'.Perm L ∧ L'.map (·.1) = vs := by
  intro L vs h
  generalize e : L.map (·.1) = m at h
  induction h generalizing L with
  | nil => cases L with
    | nil => exact ⟨[], .refl _, rfl⟩
    | cons _ _ => cases e
  | @cons x l1 l2 hp ih =>
    cases L with
    | nil => cases e
    | cons y L =>
      injection e with e1 e2
      obtain ⟨L', p, q⟩ := ih e2
      exact ⟨y :: L', p.cons y, by rw [List.map_cons, q, show y.1 = x from e1]⟩
  | swap x y l =>
    cases L with
    | nil => cases e
    | cons a L =>
      cases L with
      | nil => injection e with _ e; cases e
      | cons b L =>
        injection e with e1 e2
        injection e2 with e2 e3
        exact ⟨b :: a :: L, .swap .., by rw [List.map_cons, List.map_cons, show a.1 = x from e1, show b.1 = y from e2, e3]⟩
  | trans _ _ ih1 ih2 =>
    obtain ⟨L1, p1, q1⟩ := ih2 e
    obtain ⟨L2, p2, q2⟩ := ih1 q1
    exact ⟨L2, p2.trans p1, q2⟩
end Dn

/-! Dn31: sorted(set(xs)). -/
namespace Dn
open PySem PySem.Spec PyProof.Rows L2
section
variable {X : Cx} {κ : Type} [DecidableEq κ]
/-- values beside elements -/
theorem vals_zip : ∀ {bs : List (V × κ)} {us : List Value}, Vals (bs.map (·.1)) us → ∃ ks : List (Value × κ), ks.map (·.1) = us ∧ ks.map (·.2) = bs.map (·.2) ∧ ∀ p ∈ ks, ∃ v, (v, p.2) ∈ bs ∧ RelV v p.1
  | [], _, h => by cases h; exact ⟨[], rfl, rfl, fun p hp => by cases hp⟩
  | b :: bs, _, h => by
    cases h with
    | @cons v u vs us r t =>
      obtain ⟨ks, e1, e2, e3⟩ := vals_zip t
      refine ⟨(u, b.2) :: ks, by rw [List.map_cons, e1], by rw [List.map_cons, e2, List.map_cons], fun p hp => ?_⟩
      rcases List.mem_cons.mp hp with e | hp
      · rw [e]; exact ⟨b.1, List.mem_cons_self, r⟩
      · obtain ⟨w, h1, h2⟩ := e3 p hp
        exact ⟨w, List.mem_cons_of_mem _ h1, h2⟩
theorem each_of {bs : List (V × κ)} : ∀ (L : List (Value × κ)), (∀ p ∈ L, ∃ v, (v, p.2) ∈ bs ∧ RelV v p.1) → ∃ out : List (V × κ), PySem.W.EachIs (fun u (b : V × κ) => RelV b.1 u) (L.map (·.1)) out ∧ out.map (·.2) = L.map (·.2) ∧ ∀ b ∈ out, b ∈ bs
  | [], _ => ⟨[], .nil, rfl, fun b hb => by cases hb⟩
  | p :: L, h => by
    obtain ⟨v, h1, h2⟩ := h p List.mem_cons_self
    obtain ⟨out, e1, e2, e3⟩ := each_of L fun q hq => h q (List.mem_cons_of_mem _ hq)
    refine ⟨(v, p.2) :: out, .cons h2 e1, by rw [List.map_cons, e2, List.map_cons], fun b hb => ?_⟩
    rcases List.mem_cons.mp hb with e | hb
    · rw [e]; exact h1
    · exact e3 b hb
theorem vals_eachK : ∀ {l : List (V × κ)} {us : List Value}, PySem.W.EachIs (fun u (q : V × κ) => RelV q.1 u) us l → Vals (l.map (·.1)) us
  | [], _, h => by cases h; exact .nil
  | q :: l, _, h => by
    cases h with
    | cons r t => exact .cons r (vals_eachK t)
theorem each_readsK {pins : List (Addr × Obj)} {σ : L2.St} {H : Hp} {s : Shared} (I : Inv X pins σ H s) {enc : V × κ → PyData} : ∀ (l : List (V × κ)) (its : List Value), (∀ q ∈ l, Dp X.K H q.1 (enc q)) → PySem.W.EachIs (fun u (q : V × κ) => RelV q.1 u) its l → PySem.W.EachIs (fun v b => ∃ as, Reads s.heap v (enc b) as) its l
  | [], _, _, h => by cases h; exact .nil
  | q :: l, _, hd, h => by
    cases h with
    | cons r t => exact .cons (Dp.reads I _ _ _ (hd q List.mem_cons_self) r) (each_readsK I l _ (fun q hq => hd q (List.mem_cons_of_mem _ hq)) t)
/-- what is wanted -/
def rSoS (T : KindP κ) (K : PySem.W.Frag) (EV : Hp → V → κ → Prop) : V → Hp → VK → Prop := fun x H Q => ∃ (l : Addr) (bs : List (V × κ)), x = .ref l ∧ (SqL K H l (bs.map (·.1)) ∨ SqT K H l (bs.map (·.1))) ∧ bs.length < 64 ∧ (∀ b ∈ bs, EV H b.1 b.2) ∧ (∀ b ∈ bs, Dp K H b.1 (pd (T.toP b.2))) ∧ canSort (bs.map fun b => T.toP b.2) = true ∧
  ∀ p (out : List (V × κ)), H p = none → (∀ o ∈ out, o ∈ bs) → (out.map fun o => T.toP o.2) = isort leP ((ddp (bs.map (·.2))).map T.toP) → Q (.ref p) (upd H p (.lst (out.map (·.1))))
theorem canSort_use {ps : List P} (h : canSort ps = true) : (∀ p ∈ ps, ∀ q ∈ ps, PySem.W.alike (pd p) (pd q) = true) ∧ ((∀ p ∈ ps, isTupCons (pd p) = true) ∨ ∀ p ∈ ps, isSortAtom (pd p) = true) ∧ ∀ p ∈ ps, shp p = true := by
  unfold canSort at h
  simp only [Bool.and_eq_true, Bool.or_eq_true, List.all_eq_true] at h
  exact ⟨h.1.1, h.1.2, h.2⟩
theorem sorted_setL (M : SLaw X.prog X.w κ) (T : KindP κ) {pins : List (Addr × Obj)} {σ : L2.St} {H : Hp} {s : Shared} {S : Addr} {L : List (Value × κ)} {bs : List (V × κ)} {Q : VK} (hc : X.calm = true) (hu : X.A.units + 100 < cLine) (I : Inv X pins σ H s) (sx : M.Sx s.heap S L) (few : bs.length < 64) (hLl : L.length ≤ bs.length)
    (hL : ∀ p ∈ L, ∃ v, (v, p.2) ∈ bs ∧ RelV v p.1) (cov : ∀ k, k ∈ L.map (·.2) ↔ k ∈ bs.map (·.2)) (hd : ∀ b ∈ bs, Dp X.K H b.1 (pd (T.toP b.2))) (cs : canSort (bs.map fun b => T.toP b.2) = true)
    (q : ∀ p (out : List (V × κ)), H p = none → (∀ o ∈ out, o ∈ bs) → (out.map fun o => T.toP o.2) = isort leP ((ddp (bs.map (·.2))).map T.toP) → Q (.ref p) (upd H p (.lst (out.map (·.1))))) :
    wpAny (model X.prog X.w) X.A (call (.builtin "sorted") [.ref S]) (EP X pins σ Q) X.xe s := by
  obtain ⟨es, ep, t, sat, fit, sb, ris, led, em⟩ := M.raw sx
  refine Calls.call_function_entry kind_sorted plain_sorted entry_sorted (args_sorted1 _) ?_
  unfold Builtin.«sorted»
  refine wpAny_bind (m := checkCount "sorted" 1 1 _) (wpAny_pure (wpAny_bind (collect_set (A := X.A.in1) (I.ok.hd hc) sat fit sb ris led fun s1 vs k1 hz g1 o1 pm => ?_)))
  rw [em] at pm
  obtain ⟨L', pL, eL⟩ := perm_lift pm
  subst eL
  obtain ⟨out, ea, eo, sub⟩ := each_of L' fun p hp => hL p (pL.mem_iff.mp hp)
  have len : (L'.map (·.1)).length < 64 := by rw [List.length_map, pL.length_eq]; omega
  obtain ⟨h1, gg, d1, t1, os1⟩ := s1
  obtain rfl : gg = s.gens := g1
  obtain rfl : os1 = s.os := o1
  have I1 : Inv X pins σ H ⟨h1, s.gens, d1, t1, s.os⟩ := I.call (ch := []) (Un.kept k1) (I.hok.kept k1) I.bare (fun _ z => nomatch z)
  refine wpAny_bind (wpAny_newList ?_ (by rw [sizeLine_eq]; omega))
  have here : (h1.push (seqObj "list" (L'.map (·.1)).toArray 0)).get? h1.objs.size = some (seqObj "list" (L'.map (·.1)).toArray 0) := Heap.get?_push_size _ rfl
  have rd := each_readsK I1 (enc := fun b => pd (T.toP b.2)) out _ (fun b hb => hd b (sub b hb)) ea
  have rd2 : PySem.W.EachIs (fun v (b : V × κ) => ∃ as, Reads (h1.push (seqObj "list" (L'.map (·.1)).toArray 0)) v (pd (T.toP b.2)) as ∧ h1.objs.size ∉ as) (L'.map (·.1)) out := rd.mono fun v b ⟨as, r⟩ => ⟨as, PyProof.Rows.Reads.keeps (fun _ _ e => Heap.get?_push_of_some _ e) r, fun m => by
    obtain ⟨o, e⟩ := PyProof.On.reads_mem_get r _ m
    exact Nat.lt_irrefl _ (Heap.lt_size e)⟩
  have csu := canSort_use cs
  have inb : ∀ d ∈ out.map (fun b => pd (T.toP b.2)), ∃ b ∈ bs.map (fun b => T.toP b.2), d = pd b := fun d hd' => by
    obtain ⟨b, hb, rfl⟩ := List.mem_map.mp hd'
    exact ⟨_, List.mem_map.mpr ⟨b, sub b hb, rfl⟩, rfl⟩
  refine wpAny_bind (wpAny_holding (PySem.W.list_sort_data (s := ⟨h1.push (seqObj "list" (L'.map (·.1)).toArray 0), s.gens, d1, t1, s.os⟩) (R := fun u (b : V × κ) => RelV b.1 u) (bs := out) (enc := fun b => pd (T.toP b.2)) here ea rd2 (fun d hd1 d' hd2 => ?_) ?_ (by rw [← ea.length, sizeLine_eq]; omega) (fun b hb => ?_) fun o2 ho he => ?_))
  · obtain ⟨b, hb, rfl⟩ := inb d hd1
    obtain ⟨b', hb', rfl⟩ := inb d' hd2
    exact csu.1 b hb b' hb'
  · rcases csu.2.1 with z | z
    · left
      intro d hd1
      obtain ⟨b, hb, rfl⟩ := inb d hd1
      have z := z b hb
      cases e : pd b with
      | tuple xs =>
        cases xs with
        | nil => rw [e] at z; cases z
        | cons x r => exact ⟨x, r, rfl⟩
      | _ => rw [e] at z; cases z
    · right
      intro d hd1
      obtain ⟨b, hb, rfl⟩ := inb d hd1
      have z := z b hb
      exact ⟨fun e => (by rw [e] at z; cases z), fun xs e => (by rw [e] at z; cases z)⟩
  · have z := SeqAt.depth_of_shaped (csu.2.2 _ (List.mem_map.mpr ⟨b, sub b hb, rfl⟩))
    have : X.A.in1.units + 1 + (pd (T.toP b.2)).depth < cLine := by
      show X.A.units + 1 + 1 + _ < _
      omega
    exact this
  · obtain ⟨c, hcc⟩ := sortedHeap_at (vs := L'.map (·.1)) (out := o2.toArray) here
    have kept : ∀ b u, s.heap.get? b = some u → (sortedHeap (h1.push (seqObj "list" (L'.map (·.1)).toArray 0)) h1.objs.size (L'.map (·.1)) o2.toArray).get? b = some u := fun b u e => by
      have lt := Heap.lt_size (k1 b u e)
      rw [sortedHeap_old (Nat.ne_of_lt lt) (by rw [size_push']; exact Nat.lt_succ_of_lt lt)]
      exact Heap.get?_push_of_some _ (k1 b u e)
    have fresh : H h1.objs.size = none := I.hok.fresh hz
    have em2 : out.mergeSort (PySem.W.dataLe false fun b => pd (T.toP b.2)) = isort (fun a b => leP (T.toP a.2) (T.toP b.2)) out := (isort_merge (PySem.W.sortLe_total (PyProof.Rows.listOrd PyProof.Rows.itemOrd) false fun q : V × κ => PySem.W.keyToks (pd (T.toP q.2))) out).symm
    rw [em2] at he
    have pm2 := isort_perm (le := fun a b : V × κ => leP (T.toP a.2) (T.toP b.2)) out
    have hl2 : ((isort (fun a b : V × κ => leP (T.toP a.2) (T.toP b.2)) out).map (·.1)).length ≤ sizeLine := by
      rw [List.length_map, pm2.length_eq, ← ea.length, sizeLine_eq]
      omega
    have J : Inv X pins σ (upd H h1.objs.size (.lst ((isort (fun a b : V × κ => leP (T.toP a.2) (T.toP b.2)) out).map (·.1)))) ⟨sortedHeap (h1.push (seqObj "list" (L'.map (·.1)).toArray 0)) h1.objs.size (L'.map (·.1)) o2.toArray, s.gens, d1, t1, s.os⟩ :=
      I.call (ch := []) (Un.laid kept hz fresh) (I.hok.laid kept hz ⟨hl2, o2, c, vals_eachK he, hcc⟩) I.bare (fun _ z => nomatch z)
    refine wpAny_pure ⟨_, rfl, .ref h1.objs.size, _, J, rfl, q _ _ fresh (fun o ho2 => sub o (pm2.mem_iff.mp ho2)) ?_⟩
    rw [isort_map (s := leP) (fun o : V × κ => T.toP o.2) (fun _ _ => rfl)]
    have e3 : (out.map fun o => T.toP o.2) = (L'.map (·.2)).map T.toP := by rw [← eo, List.map_map]; rfl
    rw [e3]
    refine isort_perm_eq T ((pL.map (·.2)).trans (ddp_perm (M.nd sx) fun k => cov k))
end
end Dn

/-! Dn32: sorted(set(xs)) as an expression. -/
namespace Dn
open PySem PySem.Spec PyProof.Rows L2
section
variable {X : Cx} {κ : Type} [DecidableEq κ]
theorem pe_sos (M : SLaw X.prog X.w κ) (T : KindP κ) (EV : Hp → V → κ → Prop) (hEl : ∀ pins σ H s v k u, Inv X pins σ H s → EV H v k → RelV v u → M.El s.heap k u) {e : Expr} {te : TE} {p p2 q pos : Pos} (hc : X.calm = true) (hu : X.A.units + 100 < cLine) (hg : Gl X "sorted") (hm : X.mg "sorted" = none) (hg2 : Gl X "set") (hm2 : X.mg "set" = none)
    (ha : PE X e te) (na : starEach [e] X.env = (false, eval e X.env) :: starEach [] X.env) : PE X (.Call (.Name "sorted" p) [.Call (.Name "set" p2) [e] [] q] [] pos) (fun σ H Q => te σ H fun x H1 => rSoS T X.K EV x H1 Q) := by
  refine ⟨fun pins s σ H Q I h => Call_ (ld_blt I hg hm PyProof.Rows.boot_sorted (PyProof.Rows.callWith_builtin1 (PyProof.Rows.args_cons (Call_ (ld_blt I hg2 hm2 PyProof.Rows.boot_set ?_)) rfl) rfl rfl))⟩
  refine PyProof.Rows.callWith_type1 (PyProof.Rows.args_cons (thn (ha.run pins s σ H _ I h) fun v s1 ⟨x, H1, I1, r1, q1⟩ => PyProof.Rows.args_nil ?_) na) na rfl
  obtain ⟨l, bs, rfl, hq, few, ev, dp, cs, q1⟩ := q1
  cases r1
  have fin : ∀ (its : List Value) (ks : List (Value × κ)), ks.map (·.1) = its → ks.map (·.2) = bs.map (·.2) → (∀ p ∈ ks, ∃ v, (v, p.2) ∈ bs ∧ RelV v p.1) → ∀ (h' : Heap) (tk : Nat) L, M.Sx h' s1.heap.objs.size L → GotK ks ks.length L → (∀ b o, s1.heap.get? b = some o → h'.get? b = some o) →
      wpAny (model X.prog X.w) X.A (call (.builtin "sorted") [.ref s1.heap.objs.size]) (EP X pins σ Q) X.xe { s1 with heap := h', toks := tk } := by
    intro its ks e1 e2 e3 h' tk L sx g kp
    have lk : ks.length = bs.length := by have z := congrArg List.length e2; simpa using z
    have tf : ks.take ks.length = ks := List.take_length
    refine sorted_setL M T hc hu (I1.kept kp) sx few (by have := g.len; omega) (fun p hp => e3 p (by rw [← tf]; exact g.sub p hp)) (fun k => ?_) dp cs q1
    rw [← e2]
    constructor
    · intro hk
      obtain ⟨p, hp, rfl⟩ := List.mem_map.mp hk
      exact List.mem_map.mpr ⟨p, by rw [← tf]; exact g.sub p hp, rfl⟩
    · intro hk
      obtain ⟨p, hp, rfl⟩ := List.mem_map.mp hk
      exact g.all p (by rw [tf]; exact hp)
  have hu3 : X.A.units + 3 < cLine := by omega
  have lks : ∀ ks : List (Value × κ), ks.map (·.2) = bs.map (·.2) → ks.length < 64 := fun ks e => by
    have z := congrArg List.length e
    rw [List.length_map, List.length_map] at z
    omega
  rcases hq with hq | hq
  · obtain ⟨its, r, pl, hz⟩ := I1.list hq
    obtain ⟨ks, e1, e2, e3⟩ := vals_zip r
    exact call_setList M ks (I1.ok.hd hc) pl.isList (by rw [e1]) (fun p hp => by obtain ⟨v, h1, h2⟩ := e3 p hp; exact hEl _ _ _ _ _ _ _ I1 (ev _ h1) h2) (lks ks e2) hu3 fun h' tk L sx g kp => PyProof.Rows.args_nil (fin its ks e1 e2 e3 h' tk L sx g kp)
  · obtain ⟨its, r, pl, hz⟩ := I1.tuple hq
    obtain ⟨ks, e1, e2, e3⟩ := vals_zip r
    exact call_setTuple M ks (I1.ok.hd hc) pl (by rw [e1]) (fun p hp => by obtain ⟨v, h1, h2⟩ := e3 p hp; exact hEl _ _ _ _ _ _ _ I1 (ev _ h1) h2) (lks ks e2) hu3 fun h' tk L sx g kp => PyProof.Rows.args_nil (fin its ks e1 e2 e3 h' tk L sx g kp)
end
/-! ### the two kinds -/
section
variable {X : Cx}
theorem elS (pins : List (Addr × Obj)) (σ : L2.St) (H : Hp) (s : Shared) (v : V) (k : Str) (u : Value) (I : Inv X pins σ H s) (h : v = .str k) (r : RelV v u) : (lawS X.prog X.w).El s.heap k u := by
  subst h
  obtain ⟨t, rfl⟩ := r
  exact ⟨t, rfl⟩
theorem elT (pins : List (Addr × Obj)) (σ : L2.St) (H : Hp) (s : Shared) (v : V) (k : List Key) (u : Value) (I : Inv X pins σ H s) (h : ∃ a, v = .ref a ∧ H a = some (.tup (k.map kV))) (r : RelV v u) : (lawT X.prog X.w).El s.heap k u := by
  obtain ⟨a, rfl, ha⟩ := h
  cases r
  exact ⟨a, rfl, key_of I.hok ha⟩
end
section
variable {g : GI} {N : List Str} {lev : Nat} {sc : Scope} {p q r pos : Pos} {f : Ev → IH → R (D × IH)} {e : Expr} {H : Hp} {B : Addr → Prop}
/-- key tuples -/
def keysP : List P → Option (List (List Key))
  | [] => some []
  | .tup xs :: ps => (match toKs xs, keysP ps with
    | some k, some ks => some (k :: ks)
    | _, _ => none)
  | _ :: _ => none
/-- sorted(set(xs)) -/
def sosP (ps : List P) : Option (List P) := if decide (ps.length < 64) && canSort ps then (match strsP ps with
    | some ys => some (isort leP ((ddp ys).map P.str))
    | none => (match keysP ps with
      | some ks => some (isort leP ((ddp ks).map tupK))
      | none => none)) else none
def dSoS (f : Ev → IH → R (D × IH)) : Ev → IH → R (D × IH) := fun env ih => (f env ih).bind fun r => match r.1 with
  | .pu p => (match lotP p with
    | some ps => (match sosP ps with
      | some qs => .ok (.pu (.lst qs), r.2)
      | none => .stuck)
    | none => .stuck)
  | _ => .stuck
theorem strsP_eq : ∀ {ps : List P} {ys : List Str}, strsP ps = some ys → ps = ys.map P.str
  | [], ys, e => by cases e; rfl
  | .str s :: ps, ys, e => by
    obtain ⟨zs, e1, rfl⟩ := Option.map_eq_some_iff.mp e
    rw [strsP_eq e1]; rfl
  | .non :: _, _, e => by cases e
  | .bl _ :: _, _, e => by cases e
  | .int _ :: _, _, e => by cases e
  | .tup _ :: _, _, e => by cases e
  | .lst _ :: _, _, e => by cases e
  | .dic _ :: _, _, e => by cases e
  | .dit _ :: _, _, e => by cases e
theorem toK_eq {x : P} {k : Key} (e : toK x = some k) : x = kP k := by
  cases x <;> first | (cases e; rfl) | cases e
theorem toKs_eq : ∀ {xs : List P} {k : List Key}, toKs xs = some k → xs = k.map kP
  | [], k, e => by cases e; rfl
  | x :: xs, k, e => by
    unfold toKs at e
    split at e
    · rename_i a b e1 e2
      cases e
      rw [toK_eq e1, toKs_eq e2]; rfl
    · cases e
theorem keysP_eq : ∀ {ps : List P} {ks : List (List Key)}, keysP ps = some ks → ps = ks.map tupK
  | [], ks, e => by cases e; rfl
  | .tup xs :: ps, ks, e => by
    unfold keysP at e
    split at e
    · rename_i a b e1 e2
      cases e
      rw [toKs_eq e1, keysP_eq e2]; rfl
    · cases e
  | .str _ :: _, _, e => by cases e
  | .non :: _, _, e => by cases e
  | .bl _ :: _, _, e => by cases e
  | .int _ :: _, _, e => by cases e
  | .lst _ :: _, _, e => by cases e
  | .dic _ :: _, _, e => by cases e
  | .dit _ :: _, _, e => by cases e
/-- values beside elements -/
theorem zipK {κ : Type} {toP : κ → P} : ∀ {ks : List κ} {vs : List V}, RPs H B (ks.map toP) vs → ∃ bs : List (V × κ), bs.map (·.1) = vs ∧ bs.map (·.2) = ks ∧ ∀ b ∈ bs, RP H B (toP b.2) b.1
  | [], _, h => ⟨[], by rw [show _ = [] from h]; rfl, rfl, fun b hb => by cases hb⟩
  | k :: ks, _, h => by
    obtain ⟨v, rest, rfl, h1, h2⟩ := h
    obtain ⟨bs, e1, e2, e3⟩ := zipK h2
    refine ⟨(v, k) :: bs, by simp [e1], by simp [e2], fun b hb => ?_⟩
    rcases List.mem_cons.mp hb with z | hb
    · rw [z]; exact h1
    · exact e3 b hb
theorem kPs_vs : ∀ {k : List Key} {vs : List V}, RPs H B (k.map kP) vs → vs = k.map kV
  | [], _, h => h
  | x :: k, _, h => by
    obtain ⟨v, rest, rfl, h1, h2⟩ := h
    rw [kPs_vs h2]
    cases x <;> (cases h1; rfl)
theorem tupK_at {k : List Key} {v : V} (h : RP H B (tupK k) v) : ∃ a, v = .ref a ∧ H a = some (.tup (k.map kV)) := by
  obtain ⟨a, vs, rfl, h1, h2⟩ := h
  exact ⟨a, rfl, by rw [h1, kPs_vs h2]⟩
theorem lotP_sq {K : PySem.W.Frag} {p : P} {ps : List P} {x : V} (e : lotP p = some ps) (rx : RP H B p x) : ∃ l vs, x = .ref l ∧ (SqL K H l vs ∨ SqT K H l vs) ∧ RPs H B ps vs := by
  cases p with
  | lst xs => cases e; obtain ⟨a, vs, rfl, h1, _, h2⟩ := rx; exact ⟨a, vs, rfl, .inl (.of h1), h2⟩
  | tup xs => cases e; obtain ⟨a, vs, rfl, h1, h2⟩ := rx; exact ⟨a, vs, rfl, .inr (.of h1), h2⟩
  | _ => cases e
theorem e_sos (h1 : g.mg "sorted" = none) (h2 : g.mg "set" = none) (hg : (glB sc "sorted" && glB sc "set") = true) (ha : SE g N lev sc f e) (hs : nst e = true) : SE g N lev sc (dSoS f) (.Call (.Name "sorted" p) [.Call (.Name "set" q) [e] [] r] [] pos) := fun W X G => by
  obtain ⟨hg1, hg2⟩ := Bool.and_eq_true_iff.mp hg
  have un : X.A.units + 100 < cLine := by have := G.room.un; omega
  have st : starEach [e] X.env = (false, eval e X.env) :: starEach [] X.env := star_plain (nst_ok hs)
  have S := pe_sos (lawS X.prog X.w) kindS (fun _ v k => v = .str k) (fun pins σ H s v k u I h r => elS pins σ H s v k u I h r) (p := p) (p2 := q) (q := r) (pos := pos) G.calm un (G.scp.gl (glB_ok hg1).1) (by rw [G.mg]; exact h1) (G.scp.gl (glB_ok hg2).1) (by rw [G.mg]; exact h2) (ha W X G) st
  have Tt := pe_sos (lawT X.prog X.w) kindT (fun H v k => ∃ a, v = .ref a ∧ H a = some (.tup (k.map kV))) (fun pins σ H s v k u I h r => elT pins σ H s v k u I h r) (p := p) (p2 := q) (q := r) (pos := pos) G.calm un (G.scp.gl (glB_ok hg1).1) (by rw [G.mg]; exact h1) (G.scp.gl (glB_ok hg2).1) (by rw [G.mg]; exact h2) (ha W X G) st
  refine ⟨fun pins s σ H Q I hq => ?_⟩
  obtain ⟨F, m, ih, env, hr, er, hq⟩ := hq
  unfold dSoS at hq
  cases e0 : f env ih with
  | exc c fs i =>
    rw [e0] at hq
    exact S.run pins s σ H Q I ⟨F, m, ih, env, hr, er, by rw [e0]; exact hq⟩
  | stuck => rw [e0] at hq; exact hq.elim
  | ok rr =>
    obtain ⟨d, ih1⟩ := rr
    rw [e0] at hq
    simp only [R.bind] at hq
    split at hq
    · rename_i p0
      split at hq
      · rename_i ps ep
        split at hq
        · rename_i qs es
          unfold sosP at es
          split at es
          · rename_i cond
            obtain ⟨c1, c2⟩ := Bool.and_eq_true_iff.mp cond
            have c1 := of_decide_eq_true c1
            split at es
            · rename_i ys ey
              cases es
              have eps := strsP_eq ey
              refine S.run pins s σ H Q I ⟨F, m, ih, env, hr, er, ?_⟩
              rw [e0]
              intro m1 H1 x p1 rx
              obtain ⟨l, vs, rfl, sq, rps⟩ := lotP_sq (K := X.K) ep rx
              rw [eps] at rps
              obtain ⟨bs, b1, b2, b3⟩ := zipK rps
              have em : (bs.map fun b => kindS.toP b.2) = ps := by rw [eps, ← b2, List.map_map]; rfl
              have sh := (canSort_use c2).2.2
              refine ⟨l, bs, rfl, by rw [b1]; exact sq, by have z := congrArg List.length em; rw [List.length_map] at z; omega, fun b hb => b3 b hb, fun b hb => dp_of _ _ (b3 b hb) (SeqAt.canLay_of_shaped (sh _ (by rw [← em]; exact List.mem_map.mpr ⟨b, hb, rfl⟩))), by rw [em]; exact c2, fun a2 out hn sub eo => ?_⟩
              rw [b2] at eo
              have fl := fin_lst (vs := out.map (·.1)) p1.hr (Fin.rebase hr p1 hq) (by
                rw [← show (out.map fun o => kindS.toP o.2) = isort leP ((ddp ys).map P.str) from eo]
                exact (show ∀ (l : List (V × Str)), (∀ o ∈ l, o ∈ bs) → RPs H1 (Bd F m1 ih1) (l.map fun o => kindS.toP o.2) (l.map (·.1)) from fun l => by
                  induction l with
                  | nil => exact fun _ => rfl
                  | cons o l ihl => exact fun h => ⟨o.1, _, rfl, b3 o (h o List.mem_cons_self), ihl fun x hx => h x (List.mem_cons_of_mem _ hx)⟩) out sub) a2 hn
              exact fl
            · split at es
              · rename_i ks ek
                cases es
                have eps := keysP_eq ek
                refine Tt.run pins s σ H Q I ⟨F, m, ih, env, hr, er, ?_⟩
                rw [e0]
                intro m1 H1 x p1 rx
                obtain ⟨l, vs, rfl, sq, rps⟩ := lotP_sq (K := X.K) ep rx
                rw [eps] at rps
                obtain ⟨bs, b1, b2, b3⟩ := zipK rps
                have em : (bs.map fun b => kindT.toP b.2) = ps := by rw [eps, ← b2, List.map_map]; rfl
                have sh := (canSort_use c2).2.2
                refine ⟨l, bs, rfl, by rw [b1]; exact sq, by have z := congrArg List.length em; rw [List.length_map] at z; omega, fun b hb => tupK_at (b3 b hb), fun b hb => dp_of _ _ (b3 b hb) (SeqAt.canLay_of_shaped (sh _ (by rw [← em]; exact List.mem_map.mpr ⟨b, hb, rfl⟩))), by rw [em]; exact c2, fun a2 out hn sub eo => ?_⟩
                rw [b2] at eo
                have fl := fin_lst (vs := out.map (·.1)) p1.hr (Fin.rebase hr p1 hq) (by
                  rw [← show (out.map fun o => kindT.toP o.2) = isort leP ((ddp ks).map tupK) from eo]
                  exact (show ∀ (l : List (V × List Key)), (∀ o ∈ l, o ∈ bs) → RPs H1 (Bd F m1 ih1) (l.map fun o => kindT.toP o.2) (l.map (·.1)) from fun l => by
                    induction l with
                    | nil => exact fun _ => rfl
                    | cons o l ihl => exact fun h => ⟨o.1, _, rfl, b3 o (h o List.mem_cons_self), ihl fun x hx => h x (List.mem_cons_of_mem _ hx)⟩) out sub) a2 hn
                exact fl
              · cases es
          · cases es
        · exact hq.elim
      · exact hq.elim
    · exact hq.elim
end
end Dn

/-! Dn33: {k: v, **m}. -/
namespace Dn
open PySem PySem.Spec PyProof.Rows L2
section
variable {P : Program} {w : World} {K : Type} [DecidableEq K] {knd : PySem.KeyKind P w K} {A : Around} {E : Value → Shared → Prop} {s : Shared}
theorem put_pairs {d : Addr} {kvs : List (K × Value)} {k : K} {key v : Value} {Q : Unit → Shared → Prop} (hkey : knd.is k key = true) (hm : s.heap.DictOf knd d kvs) (hsz : kvs.length ≤ sizeLine)
    (hQ : ∀ h', h'.DictOf knd d (stored kvs k v) → Heap.SameBut d s.heap h' → Q () { s with heap := h' }) : wpAny (model P w) A (dictPut d (knd.hash k) key v) Q E s := by
  obtain ⟨o, es, ep, ho, hc, hd, hk, hp, hn⟩ := hm
  have sz : es.size ≤ sizeLine := by have e1 := hp.length; rw [Array.length_toList] at e1; omega
  unfold dictPut
  refine wpAny_bind (wpAny_dictFind_of hkey ho hd hk ?_)
  have ix : (es.findIdx? fun e => knd.is k e.key) = kvs.findIdx? fun kv => decide (kv.1 = k) := by rw [← hp.findIdx k]; obtain ⟨l⟩ := es; simp
  cases hi : es.findIdx? fun e => knd.is k e.key with
  | some i =>
    have any := any_of_findIdx_some (ix ▸ hi)
    refine wpAny_updateDict ho hd (hQ _ ⟨_, _, ep, Heap.get?_update_self _ ho (Obj.isFreed_of_dict (Obj.data_mapDict hd _)), hc.mapDict _, Obj.data_mapDict hd _, hk.modify _ _, ?_, ?_⟩ (Heap.SameBut.update ..))
    · rw [stored, if_pos any]
      have z := hp.modify hn (show (es.toList.findIdx? fun e => knd.is k e.key) = some i by rw [← hi]; obtain ⟨l⟩ := es; simp) v
      obtain ⟨l⟩ := es
      simpa using z
    · rw [stored, if_pos any, keys_map_store]; exact hn
  | none =>
    have out : k ∉ kvs.map (·.1) := not_mem_of_findIdx_none (ix ▸ hi)
    have any : ¬ (kvs.any fun kv => decide (kv.1 = k)) = true := fun z => by
      obtain ⟨kv, m1, m2⟩ := List.any_eq_true.mp z
      exact out (List.mem_map.mpr ⟨kv, m1, of_decide_eq_true m2⟩)
    refine wpAny_updateDictKeys (hz := sz) ho hd (hQ _ ⟨_, _, ep + 1, Heap.get?_update_self _ ho (Obj.isFreed_of_dict (Obj.data_mapDictKeys hd _)), hc.mapDictKeys _, Obj.data_mapDictKeys hd _, hk.push hkey _, ?_, ?_⟩ (Heap.SameBut.update ..))
    · rw [stored, if_neg any]
      have z := hp.append hkey (knd.hash k) v
      obtain ⟨l⟩ := es
      simpa using z
    · rw [stored, if_neg any, List.map_append]
      exact List.nodup_append.mpr ⟨hn, by simp, fun a ha b hb e => by
        have z : b = k := by simpa using hb
        rw [e, z] at ha
        exact out ha⟩
theorem merge_map {d o : Addr} {kvs more : List (K × Value)} {Q : Unit → Shared → Prop} (hdo : d ≠ o) (hoS : (o == sysModules) = false) (h0 : kvs ≠ []) (hd : s.heap.DictOf knd d kvs) (ho : s.heap.DictOf knd o more) (hsz : kvs.length + more.length ≤ sizeLine)
    (hQ : ∀ h', h'.DictOf knd d (merged kvs more) → Heap.SameBut d s.heap h' → Q () { s with heap := h' }) : wpAny (model P w) A (mergeMapping d (.ref o) false) Q E s := by
  obtain ⟨od, esd, epd, god, gcd, gdd, gkd, gpd, gnd⟩ := id hd
  obtain ⟨oo, eso, epo, goo, gco, gdo, gko, gpo, gno⟩ := id ho
  have len : more.length = eso.size := by rw [← gpo.length]; simp
  have ne : esd.isEmpty = false := by
    have e1 := gpd.length
    cases hq : esd.isEmpty with
    | false => rfl
    | true =>
      rw [Array.isEmpty_iff.mp hq] at e1
      exact absurd (List.length_eq_zero_iff.mp (by simpa using e1.symm)) h0
  unfold mergeMapping
  refine wpAny_bind (wpAny_isInstance ho.typeIs isSubtype_dict_dict ?_)
  dsimp only
  refine wp_if_pos rfl (wpAny_bind (wpAny_specialOf ho.typeIs F.slot_dict_iter.lookup ?_))
  have tt : (some (Value.builtin "dict.__iter__") == some (Value.builtin "dict.__iter__")) = true := by decide
  try dsimp only
  rw [tt]
  try dsimp only
  refine wp_if_neg (by rw [hoS]; exact Bool.false_ne_true) ?_
  refine wpAny_bind (wpAny_dictEntries god gdd ?_)
  refine wp_if_neg (by rw [ne]; exact Bool.false_ne_true) ?_
  refine wpAny_bind (wpAny_dictEntries goo gdo (wpAny_bind (wpAny_dictEpoch goo gdo ?_)))
  try dsimp only
  refine wpAny_bind (wpAny_forIn_list _ (fun rest _ s' => ∃ h' i, s' = { s with heap := h' } ∧ rest = (List.range eso.size).drop i ∧ i ≤ eso.size ∧ h'.DictOf knd d (merged kvs (more.take i)) ∧ h'.get? o = some oo ∧ Heap.SameBut d s.heap h') _ ?_ ?_ _ _ ⟨s.heap, 0, rfl, rfl, Nat.zero_le _, by simpa [merged] using hd, goo, Heap.SameBut.refl _ _⟩)
  · rintro x rest b s' ⟨h', i, rfl, hr, hi, hd', hoo', hs'⟩
    have lt : i < eso.size := by
      rcases Nat.lt_or_ge i eso.size with z | z
      · exact z
      · rw [List.drop_eq_nil_of_le (by simpa using z)] at hr; cases hr
    rw [List.drop_eq_getElem_cons (by simpa using lt)] at hr
    injection hr with e1 e2
    rw [List.getElem_range] at e1
    subst e1
    refine wpAny_bind (wpAny_dictEntries hoo' gdo ?_)
    rw [Array.getElem?_eq_getElem lt]
    obtain ⟨⟨k, v⟩, hkv⟩ : ∃ kv, more[x]? = some kv := ⟨more[x]'(by rw [len]; exact lt), List.getElem?_eq_getElem _⟩
    obtain ⟨hkey, hval⟩ := gpo.get? (e := eso[x]) (by simp [lt]) hkv
    obtain ⟨k', hkey', hash⟩ := gko eso[x] (Array.getElem_mem lt)
    obtain rfl : k' = k := knd.inj _ _ _ hkey' hkey
    dsimp only
    have ml := merged_length_le kvs (more.take x)
    have tl : (more.take x).length ≤ more.length := by rw [List.length_take]; omega
    refine wpAny_bind (wpAny_holding (wp_if_neg Bool.false_ne_true ?_))
    rw [hash, hval]
    refine put_pairs hkey hd' (by omega) fun h2 d2 s2 => ?_
    have oo2 : h2.get? o = some oo := (s2.2 o (Ne.symm hdo)).trans hoo'
    refine wpAny_bind (wpAny_dictEpoch oo2 gdo ?_)
    refine wp_if_neg (by simp) (wpAny_pure ⟨h2, x + 1, rfl, e2, lt, by rw [merged_take_succ kvs more x (k', v) hkv]; exact d2, oo2, hs'.trans s2⟩)
  · rintro b s' ⟨h', i, rfl, hr, hi, hd', hoo', hs'⟩
    have hin : i = eso.size := by
      rcases Nat.lt_or_ge i eso.size with z | z
      · rw [List.drop_eq_getElem_cons (by simpa using z)] at hr; cases hr
      · exact Nat.le_antisymm hi z
    refine wpAny_pure (hQ h' ?_ hs')
    rw [hin, ← len, List.take_length] at hd'
    exact hd'
end
end Dn

/-! Dn34: {k: v, **m} as an expression: a new cell. -/
namespace Dn
open PySem PySem.Spec PyProof.Rows L2
theorem dict_star (k v m : Expr) (pos : Pos) (env : Env) : eval (.Dict [some k, none] [v, m] pos) env = (do
    standAt pos
    let d ← subDict [(eval k env, (do let x ← eval v env; standAt pos; pure x))]
    let mv ← holding [.ref d] (do let x ← eval m env; standAt pos; pure x)
    (((holding [.ref d, mv] (mergeMapping d mv false)).onRaise fun x => do let _ ← holding [.ref d, mv, x] (runValue (.builtin "proto.let_go" {}))).tryCatch fun e => do
        if ← isInstance e (.type "AttributeError") then
          rule "dict.display.not-a-mapping"; raiseError "TypeError" s!"'{← typeNameOf mv}' object is not a mapping"
        throw e).onRaise fun x => do let _ ← holding [.ref d, x] (runValue (.builtin "proto.let_go" {}))
    pure (.ref d)) := by
  rw [arm_eval_Dict]
  unfold dictDisplay
  have z : ((0 + 1 : Nat) == 17) = false := rfl
  simp only [evalEachOpt, evalEach, evalOpt, List.map, List.zip, List.zipWith, List.forIn_cons, List.forIn_nil, List.isEmpty, List.nil_append, List.length, z, Bool.false_eq_true, if_false, if_true, bind_assoc, pure_bind]
section
variable {X : Cx}
theorem pe_dstar {k v m : Expr} {pos : Pos} {tk tv tm : TE} (hk : PE X k tk) (hv : PE X v tv) (hm : PE X m tm) : PE X (.Dict [some k, none] [v, m] pos) (fun σ H Q => ∀ p, H p = none → tPairs [(tk, tv)] σ (upd H p (.dK [])) fun ps H2 => H2 p = some (.dK []) ∧ ∃ kk y, ps = [(kV kk, y)] ∧
    tm σ (upd H2 p (.dK [(kk, y)])) fun x H3 => ∃ b more, x = .ref b ∧ p ≠ b ∧ Rd H3 b (.dK more) ∧ H3 p = some (.dK [(kk, y)]) ∧ 1 + more.length ≤ sizeLine ∧ Q (.ref p) (upd H3 p (.dK (mergeK [(kk, y)] more)))) := by
  refine ⟨fun pins s σ H Q I q => ?_⟩
  have hn := I.hok.fresh (Nat.le_refl s.heap.objs.size)
  have I1 := I.laid (a := s.heap.objs.size) (o := .dK []) (h' := s.heap.push { cls := .type "dict", data := .dict #[] }) (t' := s.toks) (fun _ _ q => Heap.get?_push_of_some _ q) (Nat.le_refl _) (dk_empty s.heap I.big)
  have PP : PPs X pos [some k] [v] [(tk, tv)] := pps_cons hk hv pps_nil
  rw [dict_star]
  refine wpAny_bind (wpAny_standAt (wpAny_bind (wpAny_subDict (knd := mixKind X.prog X.w) (show 1 ≤ 15 by decide) (thn (PP.run pins _ σ _ _ I1 (q _ hn)) fun ws s2 ⟨ps, H2, I2, rel, e, kk, y, ep, q2⟩ => ?_))))
  obtain ⟨rs, c, rk⟩ := carries_of (P := X.prog) (w := X.w) (kvs := [(kk, y)]) (by rw [ep] at rel; exact rel)
  obtain ⟨z, hd, vs0, r0, dd⟩ := dk_of I2.hok e
  cases r0
  refine ⟨rs, c, dd, fun h' dd' hs => ?_⟩
  have km : KV (mergeK [] [(kk, y)]) (merged [] rs) := KV.merge rk .nil
  have I3 : Inv X pins σ (upd H2 s.heap.objs.size (.dK [(kk, y)])) { s2 with heap := h', toks := s2.toks + ws.length } := d_write I2 (by rw [e]; exact True.intro) hs (by obtain ⟨o, eo, _⟩ := Heap.dictOf_iff.mp dd'; exact ⟨o, eo⟩) (dk_new (by show 1 ≤ sizeLine; rw [sizeLine_eq]; decide) hd km dd')
  refine wpAny_bind (wpAny_holding (wpAny_bind (thn (hm.run pins _ σ _ _ I3 q2) fun u s4 ⟨x, H4, I4, rx, b, more, ex, hpb, hb, hp4, hl, q4⟩ => wpAny_bind (wpAny_standAt (wpAny_pure ?_)))))
  subst ex
  cases rx
  obtain ⟨z1, d1, w1, k1, o1⟩ := dk_of I4.hok hp4
  obtain ⟨z2, d2, w2, k2, o2⟩ := dk_rd I4.hok hb
  refine wpAny_bind (wpAny_onRaise (wpAny_tryCatch (wpAny_onRaise (wpAny_holding (merge_map hpb d2 (by intro e0; subst e0; have z := k1.length; simp at z) o1 o2 (by rw [← k1.length, ← k2.length]; exact hl) fun h5 dd5 hs5 => wpAny_pure ?_)))))
  have ml := length_mergeK more [(kk, y)]
  exact ⟨.ref s.heap.objs.size, _, d_write I4 (by rw [hp4]; exact True.intro) hs5 (by obtain ⟨o, eo, _⟩ := Heap.dictOf_iff.mp dd5; exact ⟨o, eo⟩) (dk_new (by have : ([(kk, y)] : List (Key × V)).length = 1 := rfl; omega) d1 (KV.merge k2 k1) dd5), rfl, q4⟩
end
end Dn

/-! Dn35: {k: v, **m} read. -/
namespace Dn
open PySem PySem.Spec PyProof.Rows L2
section
variable {g : GI} {N : List Str} {lev : Nat} {sc : Scope} {pos : Pos}
def dStar (fk fv fm : Ev → IH → R (D × IH)) : Ev → IH → R (D × IH) := fun env ih => match okR (dPr [(fk, fv)] env ih) with
  | some (rs, ih1) => (match okR (noX (fm env ih1)) with
    | some (d, ih2) => (match dkOf d ih2 with
      | some more => if 1 + more.length ≤ SL then .ok (.ref ih2.length, ih2 ++ [.dic (mergeP more rs)]) else .stuck
      | none => .stuck)
    | none => .stuck)
  | none => .stuck
theorem okR_eq {α : Type} {r : R α} {a : α} (h : okR r = some a) : r = .ok a := by
  cases r with
  | ok b => cases h; rfl
  | exc _ _ _ => cases h
  | stuck => cases h
theorem dPr_one {fk fv : Ev → IH → R (D × IH)} {env : Ev} {ih ihF : IH} {rs : List (Key × D)} (e : dPr [(fk, fv)] env ih = .ok (rs, ihF)) : rs.length = 1 := by
  rw [dPr] at e
  cases e1 : noX (fk env ih) with
  | exc _ _ _ => rw [e1] at e; cases e
  | stuck => rw [e1] at e; cases e
  | ok kk =>
    rw [e1] at e
    simp only [R.bind] at e
    split at e
    · cases e3 : noX (fv env kk.2) with
      | exc _ _ _ => rw [e3] at e; cases e
      | stuck => rw [e3] at e; cases e
      | ok vv => rw [e3] at e; cases e; rfl
    · cases e
theorem e_star {k v m : Expr} {fk fv fm : Ev → IH → R (D × IH)} (hk : SE g N lev sc fk k) (hv : SE g N lev sc fv v) (hm : SE g N lev sc fm m) : SE g N lev sc (dStar fk fv fm) (.Dict [some k, none] [v, m] pos) := fun W X G => by
  refine PE.con (pe_dstar (hk W X G) (hv W X G) (hm W X G)) fun σ H Q q => ?_
  obtain ⟨F, m0, ih, env, hr, er, q⟩ := q
  unfold dStar at q
  split at q
  · rename_i rs ih1 e1
    have e1 := okR_eq e1
    split at q
    · rename_i d ih2 e2
      have e2 := okR_eq e2
      split at q
      · rename_i more e3
        split at q
        · rename_i hl
          intro p hD
          have fl : Fl g F m0 ih H p (.dK []) m0 ih (upd H p (.dK [])) (.dK []) := Fl.start hr hD
          refine tPairs_of [(fk, fv)] fl.hr (fl.evr hr hD er) e1 fun m1 H1 kvs p1 rk => ?_
          have fl1 := fl.step hr hD rfl p1
          have l1 : kvs.length = 1 := by rw [RDk.length rk]; exact dPr_one e1
          match kvs, l1, rk with
          | [(kk, y)], _, rk =>
            have fl2 := fl1.put (o' := .dK [(kk, y)]) rfl
            have kp2 := fl1.kput (o' := .dK [(kk, y)]) rfl
            have rk2 : RDk g.K (upd H1 p (.dK [(kk, y)])) (Bd (F1 F p) m1 ih1) m1 rs [(kk, y)] := RDk.mono kp2 (fun _ _ e => e) rk
            refine ⟨fl1.at_, kk, y, rfl, tE_ofW fl2.hr (fl2.evr hr hD er) e2 fun m2 H3 x p3 rx => ?_⟩
            have fl3 := fl2.step hr hD rfl p3
            have rk3 := p3.rdk fl2.hr rk2
            obtain ⟨b, mv, rfl, hb, rm⟩ := dkOf_rd fl3.hr rx e3
            have hpb : p ≠ b := by
              intro z
              subst z
              cases d with
              | ref n =>
                obtain ⟨b', e', hn⟩ := rx
                cases e'
                unfold dkOf at e3
                simp only at e3
                split at e3
                · rename_i hc
                  exact fl3.hr.nf p ⟨n, _, hn, hc, by intro z; cases z⟩ (.inr rfl)
                · cases e3
              | pu pp =>
                cases pp with
                | dic kq =>
                  obtain ⟨_, o2, _, e', g1, _⟩ := rx
                  cases e'
                  have z := fl3.at_
                  rw [g1] at z
                  cases z
                | _ => cases e3
              | scr _ => cases e3
              | ke => cases e3
              | tz _ => cases e3
            have lm : mv.length = more.length := RDk.length rm
            have fl4 := fl3.put (o' := .dK (mergeK [(kk, y)] mv)) rfl
            have kp4 := fl3.kput (o' := .dK (mergeK [(kk, y)] mv)) rfl
            refine ⟨b, mv, rfl, hpb, hb, fl3.at_, by rw [SL_eq]; omega, ?_⟩
            have rc : RDk g.K (upd H3 p (.dK (mergeK [(kk, y)] mv))) (Bd (F1 F p) m2 ih2) m2 (mergeP more rs) (mergeK [(kk, y)] mv) := RDk.merge more (RDk.mono kp4 (fun _ _ e => e) rm) (RDk.mono kp4 (fun _ _ e => e) rk3)
            have pc := post_cell (c := .dic (mergeP more rs)) hr hD fl4.po fl4.hr fl4.at_ rc (by intro z; cases z)
            refine q _ _ _ pc ⟨p, rfl, ?_⟩
            rw [← fl4.hr.len]
            simp
        · exact q.elim
      · exact q.elim
    · exact q.elim
  · exact q.elim
end
end Dn

/-! Dn36: a, b = folded constants: the stores are not swapped. -/
namespace Dn
open PySem PySem.Spec PyProof.Rows L2
section
variable {g : GI} {N : List Str} {lev : Nat} {sc : Scope} {pos : Pos} {f : Ev → IH → R (D × IH)}
theorem unswappedK {env : Env} {ts vs : List Expr} {kt k2 : Nat} {pt pt2 : Pos} (h : vs.all (foldedForSure 8) = true) : swappedStores [.Tuple ts kt pt] (.Tuple vs k2 pt2) env = pure none := by
  unfold swappedStores
  dsimp only
  split
  · rfl
  · split
    · rfl
    · split
      · rfl
      · first
        | exact if_pos h
        | rfl
        | (split <;> first | rfl | (rename_i z; exact absurd h z))
theorem s_asgK {hh : P → Ev → Option Ev} {sl : List Nat} {ts vs : List Expr} {kt k2 : Nat} {pt pt2 : Pos} (hg : SG g N lev sc hh sl (.Tuple ts kt pt)) (he : SE g N lev sc f (.Tuple vs k2 pt2)) (hb : vs.all (foldedForSure 8) = true) : SS g N lev sc (dAsg hh f) (.Assign [.Tuple ts kt pt] (.Tuple vs k2 pt2) pos) := fun W X G => by
  refine PS.con (ps_asg (he W X G) (hg W X G) rfl (unswappedK hb) rfl) fun D' σ H q => ?_
  obtain ⟨F, m, ih, env, hr, er, q⟩ := q
  refine tD_S (k := fun d ih1 => match d with | .pu p => (match hh p env with | some env' => .nx env' ih1 | none => .stuck) | _ => .stuck) hr er q fun m1 H1 y d ih1 hr1 p1 rx q1 => ?_
  split at q1
  · split at q1
    · rename_i env' e1
      exact ⟨F, m1, ih1, env, _, hr1, er.post hr p1, rx, env', e1, fun σ' er' _ => q1 m1 H1 σ' (Post.refl hr1) er'⟩
    · exact q1.elim
  · exact q1.elim
end
end Dn

/-! Dn37: the head's look with one check more: a default () is an empty tuple of the module. -/
namespace Dn
open PySem PySem.Spec PyProof.Rows L2
def empB (f : Str × Option Str) (i : Nat) (K : PySem.W.Frag) : Bool := match K.lookup (He.dflAt f i K) with
  | some o => (match o.cls, o.data with
    | .type t, .seq its _ => t == "tuple" && its.toList.isEmpty
    | _, _ => false)
  | none => false
theorem empB_ok {f : Str × Option Str} {i : Nat} {K : PySem.W.Frag} (h : empB f i K = true) (H : Hp) : SqT K H (He.dflAt f i K) [] := by
  unfold empB at h
  split at h
  · rename_i o e1
    split at h
    · rename_i t its n e2 e3
      obtain ⟨h1, h2⟩ := (Bool.and_eq_true _ _).mp h
      have h1' : t = "tuple" := eq_of_beq h1
      have h2' : its.toList = [] := List.isEmpty_iff.mp h2
      subst h1'
      refine .inr ⟨o, its, n, e1, e2, e3, ?_, by rw [h2']; exact .nil⟩
      have : its.size = 0 := by rw [← Array.length_toList, h2']; rfl
      rw [this]; exact Nat.zero_le _
    · cases h
  · cases h
/-- the head's look and the checks ex -/
def obsEG (n : Nat) (fa : List He.Fa) (fn : List He.DefD) (ex : List ((Str × Option Str) × Nat)) (g : Addr → Option Obj) : He.AlD × Bool := (He.obsDG n fa fn g, ex.all fun q => empB q.1 q.2 (He.frG g (He.asD g n)))
def hookE (n : Nat) (fa : List He.Fa) (fn : List He.DefD) (ex : List ((Str × Option Str) × Nat)) : PySem.W.Hook where
  α := He.AlD × Bool
  obs := fun s => obsEG n fa fn ex s.heap.get?
  val := fun _ => (He.valD fn, true)
  says := fun _ h => ∃ K : PySem.W.Frag, K.In h ∧ He.SaysD fa fn K ∧ (ex.all fun q => empB q.1 q.2 K) = true
  of := fun _ _ e => ⟨_, He.frG_in, congrArg Prod.fst e, congrArg Prod.snd e⟩
  keeps := fun _ _ _ ⟨K, hK, c, d⟩ k => ⟨K, PySem.W.Frag.In.keeps hK k, c, d⟩
theorem obsEG_eq {n : Nat} {fa : List He.Fa} {fn : List He.DefD} {ex : List ((Str × Option Str) × Nat)} {g : Addr → Option Obj} {s : Shared} (h : ∀ a, g a = s.heap.get? a) : obsEG n fa fn ex g = (hookE n fa fn ex).obs s := by
  have e := funext h
  subst e
  rfl
end Dn

/-! Dn38: the feed of a law's script and what is drawn from it. -/
namespace Dn
open PySem PySem.Spec PyProof.Rows L2

theorem lay_ints (ns : List Int) : PyData.canLayAll0 (pds (ns.map .int)) = true := by
  induction ns with
  | nil => rfl
  | cons n ns e =>
    show (true && PyData.canLayAll0 (pds (ns.map .int))) = true
    rw [e]; rfl
theorem depth_ints (ns : List Int) : PyData.depthAll (pds (ns.map .int)) = 0 := by
  induction ns with
  | nil => rfl
  | cons n ns e =>
    show max 0 (PyData.depthAll (pds (ns.map .int))) = 0
    rw [e]; rfl
theorem shp_ints (ns : List Int) : shp (.lst (ns.map .int)) = true := by
  show (PyData.canLayAll0 (pds (ns.map .int)) && decide (PyData.depthAll (pds (ns.map .int)) + 1 ≤ 64)) = true
  rw [lay_ints, depth_ints]; rfl
theorem eq_nilP (n : Int) (ns : List Int) : eqP (.lst ((n :: ns).map .int)) (.lst []) = false := by
  show PyData.eqv (.list (pd (.int n) :: pds (ns.map .int))) (.list []) = false
  unfold PyData.eqv PyData.eqvAll
  rfl
/-- the feed: its cells, its place, what is left of a great number, the turns -/
def fdC (ns : List Int) (spot rest turn : Int) : Cl := .dic [(.inr "cells", .pu (.lst (ns.map .int))), (.inr "spot", .pu (.int spot)), (.inr "rest", .pu (.int rest)), (.inr "turn", .pu (.int turn))]
theorem fd_cells {ih : IH} {a : Nat} {ns : List Int} {x y z : Int} (h : ih[a]? = some (fdC ns x y z)) : ixD (.ref a) (.pu (.str "cells")) ih = .ok (.pu (.lst (ns.map .int)), ih) := by
  simp only [ixD, h, fdC, ixK, dlook]; rfl
theorem fd_spot {ih : IH} {a : Nat} {ns : List Int} {x y z : Int} (h : ih[a]? = some (fdC ns x y z)) : ixD (.ref a) (.pu (.str "spot")) ih = .ok (.pu (.int x), ih) := by
  simp only [ixD, h, fdC, ixK, dlook]; rfl
theorem fd_rest {ih : IH} {a : Nat} {ns : List Int} {x y z : Int} (h : ih[a]? = some (fdC ns x y z)) : ixD (.ref a) (.pu (.str "rest")) ih = .ok (.pu (.int y), ih) := by
  simp only [ixD, h, fdC, ixK, dlook]; rfl
theorem fd_turn {ih : IH} {a : Nat} {ns : List Int} {x y z : Int} (h : ih[a]? = some (fdC ns x y z)) : ixD (.ref a) (.pu (.str "turn")) ih = .ok (.pu (.int z), ih) := by
  simp only [ixD, h, fdC, ixK, dlook]; rfl
theorem fd_putT {ih : IH} {a : Nat} {ns : List Int} {x y z w : Int} (h : ih[a]? = some (fdC ns x y z)) : putC (.ref a) (.pu (.str "turn")) (.pu (.int w)) ih = some (ih.set a (fdC ns x y w)) := by
  simp only [putC, h, fdC, toK]; rfl
theorem fd_putS {ih : IH} {a : Nat} {ns : List Int} {x y z w : Int} (h : ih[a]? = some (fdC ns x y z)) : putC (.ref a) (.pu (.str "spot")) (.pu (.int w)) ih = some (ih.set a (fdC ns w y z)) := by
  simp only [putC, h, fdC, toK]; rfl
theorem fd_putR {ih : IH} {a : Nat} {ns : List Int} {x y z w : Int} (h : ih[a]? = some (fdC ns x y z)) : putC (.ref a) (.pu (.str "rest")) (.pu (.int w)) ih = some (ih.set a (fdC ns x w z)) := by
  simp only [putC, h, fdC, toK]; rfl
theorem fd_at {ih : IH} {a : Nat} {c : Cl} (d : Cl) (h : ih[a]? = some c) : (ih.set a d)[a]? = some d := by
  have : a < ih.length := by
    rw [List.getElem?_eq_some_iff] at h; exact h.1
  rw [List.getElem?_set]; simp [this]
theorem set_again (ih : IH) (a : Nat) (c d : Cl) : (ih.set a c).set a d = ih.set a d := List.set_set ..
/-- the end of the draw's body; c1..c10 its numbers -/
def drawT (c1 c2 c3 c4 c5 c6 c7 c8 c9 c10 : Int) : Ev → IH → RS :=
    (dSeq (dIfS (dAnd (dOp geD (dVar 2) (dOp powD (dC (.int 10)) (dC (.int 18)))) (dOp ltD (dVar 6) (dCall lenD [(dVar 5)])))
    (dSeq (dPut (dVar 0) (dC (.str "rest")) (dOp fdivD (dVar 2) (dVar 1)))
    (dSeq (dRet (dOp modD (dCall intD [(dVar 2)]) (dVar 1)))
    dNx))
    dNx)
    (dSeq (dSet 3 (dOp modD (dCall intD [(dOp addD (dOp addD (dOp modD (dCall intD [(dVar 2)]) (dC (.int c1))) (dOp mulD (dC (.int c2)) (dOp ixD (dVar 0) (dC (.str "turn"))))) (dC (.int c3)))]) (dC (.int c4))))
    (dSeq (dSet 3 (dOp modD (dCall intD [(dOp addD (dOp addD (dOp mulD (dVar 3) (dVar 3)) (dOp mulD (dC (.int c5)) (dOp ixD (dVar 0) (dC (.str "turn"))))) (dC (.int c6)))]) (dC (.int c7))))
    (dSeq (dRet (dOp modD (dCall intD [(dOp fdivD (dOp modD (dCall intD [(dOp addD (dOp mulD (dVar 3) (dVar 3)) (dOp mulD (dC (.int c8)) (dVar 3)))]) (dC (.int c9))) (dC (.int c10)))]) (dVar 1)))
    dNx))))
/-- the draw's body -/
def drawB (c0 c1 c2 c3 c4 c5 c6 c7 c8 c9 c10 : Int) : Ev → IH → RS :=
    (dSeq (dPut (dVar 0) (dC (.str "turn")) (dOp addD (dOp ixD (dVar 0) (dC (.str "turn"))) (dC (.int 1))))
    (dSeq (dIfS (dOp gtD (dOp ixD (dVar 0) (dC (.str "rest"))) (dC (.int 0)))
    (dSeq (dSet 4 (dOp modD (dCall intD [(dOp ixD (dVar 0) (dC (.str "rest")))]) (dVar 1)))
    (dSeq (dPut (dVar 0) (dC (.str "rest")) (dOp fdivD (dOp ixD (dVar 0) (dC (.str "rest"))) (dVar 1)))
    (dSeq (dRet (dVar 4))
    dNx)))
    dNx)
    (dSeq (dPar 5 6 (dOp ixD (dVar 0) (dC (.str "cells"))) (dOp ixD (dVar 0) (dC (.str "spot"))))
    (dSeq (dPut (dVar 0) (dC (.str "spot")) (dOp addD (dVar 6) (dC (.int 1))))
    (dSeq (dSet 2 (dIf (dOp neD (dVar 5) (dLst [])) (dOp ixD (dVar 5) (dOp modD (dCall intD [(dVar 6)]) (dCall lenD [(dVar 5)]))) (dC (.int c0))))
    (drawT c1 c2 c3 c4 c5 c6 c7 c8 c9 c10))))))
theorem cell_at (n : Int) (ns : List Int) (x : Int) : ∃ c : Int, ixL (.pu (.lst ((n :: ns).map .int))) (.pu (.int (x % ((n :: ns).length : Int)))) = fun ih => .ok (.pu (.int c), ih) := by
  have h0 : (0 : Int) < ((n :: ns).length : Int) := by simp only [List.length_cons]; omega
  have h1 := Int.emod_nonneg x (b := ((n :: ns).length : Int)) (by omega)
  have h2 := Int.emod_lt_of_pos x h0
  have h3 : (x % ((n :: ns).length : Int)).toNat < (n :: ns).length := by omega
  refine ⟨(n :: ns)[(x % ((n :: ns).length : Int)).toNat]'h3, ?_⟩
  funext ih
  have e : atI ((n :: ns).map P.int) (x % ((n :: ns).length : Int)) = some (.int ((n :: ns)[(x % ((n :: ns).length : Int)).toNat]'h3)) := by
    unfold atI ixN
    rw [List.length_map, if_pos h1, if_pos h2]
    show ((n :: ns).map P.int)[_]? = _
    rw [List.getElem?_map, List.getElem?_eq_getElem h3]; rfl
  show (match atI ((n :: ns).map P.int) (x % ((n :: ns).length : Int)) with | some p => R.ok (D.pu p, ih) | none => .stuck) = _
  rw [e]
theorem small_mod (x c : Int) (h0 : 0 < c) (h1 : c < 18446744073709551616) : small64 (x % c) = true := by
  have a := Int.emod_nonneg x (b := c) (by omega)
  have b := Int.emod_lt_of_pos x h0
  unfold small64
  simp only [Bool.and_eq_true, decide_eq_true_eq]
  omega
section
variable {env env' : Ev} {ih ih' : IH} {f h : Ev → IH → R (D × IH)} {od : D → D → IH → R (D × IH)} {cd : List D → IH → R (D × IH)} {d d1 d2 : D} {r : R (D × IH)}
theorem dOp_at (e1 : f env ih = .ok (d1, ih)) (e2 : h env ih = .ok (d2, ih)) (e3 : od d1 d2 ih = r) : dOp od f h env ih = r := by
  unfold dOp; rw [e1]; show (h env ih).bind _ = _; rw [e2]; exact e3
theorem dCall_at (e1 : f env ih = .ok (d, ih)) (e2 : cd [d] ih = r) : dCall cd [f] env ih = r := by
  have e : dArgs [f] env ih = .ok ([d], ih) := by unfold dArgs; rw [e1]; rfl
  unfold dCall; rw [e]; exact e2
theorem dPut_at {fo fk fv : Ev → IH → R (D × IH)} {o k v : D} (e1 : fv env ih = .ok (v, ih)) (e2 : fo env ih = .ok (o, ih)) (e3 : fk env ih = .ok (k, ih)) (e4 : putC o k v ih = some ih') : dPut fo fk fv env ih = .nx env ih' := by
  unfold dPut; rw [e1]; show bindS env (fo env ih) _ = _; rw [e2]; show bindS env (fk env ih) _ = _; rw [e3]; show (match putC o k v ih with | some ih' => RS.nx env ih' | none => .stuck) = _; rw [e4]
theorem dSet_at {i : Nat} (e1 : f env ih = .ok (d, ih')) : dSet i f env ih = .nx (env.set i (some d)) ih' := by
  unfold dSet; rw [e1]; rfl
theorem dRet_at (e1 : f env ih = .ok (d, ih')) : dRet f env ih = .rt d ih' := by
  unfold dRet; rw [e1]; rfl
theorem dSeq_at {f h : Ev → IH → RS} (e : f env ih = .nx env' ih') : dSeq f h env ih = h env' ih' := by
  unfold dSeq; rw [e]
theorem dSeq_rt {f h : Ev → IH → RS} (e : f env ih = .rt d ih') : dSeq f h env ih = .rt d ih' := by
  unfold dSeq; rw [e]
theorem dIfS_at {t u : Ev → IH → RS} {b : Bool} (e : f env ih = .ok (.pu (.bl b), ih)) : dIfS f t u env ih = if b then t env ih else u env ih := by
  unfold dIfS; rw [e]; cases b <;> rfl
theorem dIf_at {t u : Ev → IH → R (D × IH)} {b : Bool} (e : f env ih = .ok (.pu (.bl b), ih)) : dIf f t u env ih = if b then t env ih else u env ih := by
  unfold dIf; rw [e]; cases b <;> rfl
theorem dAnd_at {b : Bool} (e : f env ih = .ok (.pu (.bl b), ih)) : dAnd f h env ih = if b then h env ih else .ok (.pu (.bl false), ih) := by
  unfold dAnd; rw [e]; cases b <;> rfl
theorem dPar_at {i j : Nat} (e1 : f env ih = .ok (d1, ih)) (e2 : h env ih = .ok (d2, ih)) : dPar i j f h env ih = .nx ((env.set i (some d1)).set j (some d2)) ih := by
  have e : dArgs [f, h] env ih = .ok ([d1, d2], ih) := by unfold dArgs; rw [e1]; show (dArgs [h] env ih).bind _ = _; unfold dArgs; rw [e2]; rfl
  unfold dPar; rw [e]; rfl
theorem mod_i {i j : Int} (h : 0 < j) : modD (.pu (.int i)) (.pu (.int j)) ih = .ok (.pu (.int (i % j)), ih) := by
  show (if decide (0 < j) = true then _ else _) = _; rw [if_pos (decide_eq_true h)]
theorem fdiv_i {i j : Int} (h : 0 < j) (h2 : j < 1073741824) : fdivD (.pu (.int i)) (.pu (.int j)) ih = .ok (.pu (.int (i / j)), ih) := by
  show (if (decide (0 < j) && decide (j < 1073741824)) = true then _ else _) = _; rw [if_pos (by rw [decide_eq_true h, decide_eq_true h2]; rfl)]
theorem mul_i {i j : Int} (h : small64 i = true) : mulD (.pu (.int i)) (.pu (.int j)) ih = .ok (.pu (.int (i * j)), ih) := by
  show (if (small64 i || small64 j) = true then _ else _) = _; rw [if_pos (by rw [h]; rfl)]
theorem gt_i {i j : Int} : gtD (.pu (.int i)) (.pu (.int j)) ih = .ok (.pu (.bl (decide (j < i))), ih) := rfl
end
/-- the numbers of a draw are of the right size -/
def drawC (c1 c2 c4 c5 c7 c8 c9 c10 : Int) : Bool := small64 c2 && (small64 c5 && (small64 c8 && (decide (0 < c1) && (decide (0 < c4) && (decide (c4 < 18446744073709551616) && (decide (0 < c7) && (decide (c7 < 18446744073709551616) && (decide (0 < c9) && (decide (0 < c10) && decide (c10 < 1073741824))))))))))
section
variable {c0 c1 c2 c3 c4 c5 c6 c7 c8 c9 c10 : Int} {ih : IH} {a : Nat} {ns : List Int} {x y z s : Int}
theorem drawT_ok (hc : drawC c1 c2 c4 c5 c7 c8 c9 c10 = true) (h : ih[a]? = some (fdC ns (x + 1) y z)) (h0 : 0 < s) (h1 : s < 1073741824) (c : Int) :
    ∃ d x' y' z' : Int, (0 ≤ d ∧ d < s) ∧ drawT c1 c2 c3 c4 c5 c6 c7 c8 c9 c10 [some (.ref a), some (.pu (.int s)), some (.pu (.int c)), none, none, some (.pu (.lst (ns.map .int))), some (.pu (.int x))] ih = .rt (.pu (.int d)) (ih.set a (fdC ns x' y' z')) := by
  simp only [drawC, Bool.and_eq_true, decide_eq_true_eq] at hc
  obtain ⟨k2, k5, k8, k1, k4, k4', k7, k7', k9, k10, k10'⟩ := hc
  have bd : ∀ q : Int, 0 ≤ q % s ∧ q % s < s := fun q => ⟨Int.emod_nonneg q (by omega), Int.emod_lt_of_pos q h0⟩
  have self : ih.set a (fdC ns (x + 1) y z) = ih := by
    obtain ⟨hl, e⟩ := List.getElem?_eq_some_iff.mp h
    rw [← e]; exact List.set_getElem_self ..
  let E : Ev := [some (.ref a), some (.pu (.int s)), some (.pu (.int c)), none, none, some (.pu (.lst (ns.map .int))), some (.pu (.int x))]
  have et : dAnd (dOp geD (dVar 2) (dOp powD (dC (.int 10)) (dC (.int 18)))) (dOp ltD (dVar 6) (dCall lenD [(dVar 5)])) E ih = .ok (.pu (.bl (decide ((1000000000000000000 : Int) ≤ c) && decide (x < (ns.length : Int)))), ih) := by
    rw [dAnd_at (b := decide ((1000000000000000000 : Int) ≤ c)) rfl]
    have e : dOp ltD (dVar 6) (dCall lenD [(dVar 5)]) E ih = .ok (.pu (.bl (decide (x < ((ns.map P.int).length : Int)))), ih) := rfl
    rw [e, List.length_map]
    cases decide ((1000000000000000000 : Int) ≤ c) <;> rfl
  unfold drawT
  cases hg : decide ((1000000000000000000 : Int) ≤ c) && decide (x < (ns.length : Int)) with
  | true =>
    rw [hg] at et
    refine ⟨c % s, x + 1, c / s, z, bd c, dSeq_rt ?_⟩
    rw [dIfS_at et]
    show dSeq _ _ E ih = _
    refine (dSeq_at (dPut_at (dOp_at rfl rfl (fdiv_i h0 h1)) rfl rfl (fd_putR h))).trans ?_
    exact dSeq_rt (dRet_at (dOp_at rfl rfl (mod_i h0)))
  | false =>
    rw [hg] at et
    have m1 := small_mod (c % c1 + c2 * z + c3) c4 k4 k4'
    have m2 := small_mod ((c % c1 + c2 * z + c3) % c4 * ((c % c1 + c2 * z + c3) % c4) + c5 * z + c6) c7 k7 k7'
    generalize hu : (c % c1 + c2 * z + c3) % c4 = u at m1 m2
    generalize hv : (u * u + c5 * z + c6) % c7 = v at m2
    refine ⟨_, x + 1, y, z, bd ((v * v + c8 * v) % c9 / c10), ?_⟩
    rw [self]
    refine (dSeq_at ((dIfS_at et).trans rfl)).trans ?_
    have f1 : dOp modD (dCall intD [(dOp addD (dOp addD (dOp modD (dCall intD [(dVar 2)]) (dC (.int c1))) (dOp mulD (dC (.int c2)) (dOp ixD (dVar 0) (dC (.str "turn"))))) (dC (.int c3)))]) (dC (.int c4)) E ih = .ok (.pu (.int u), ih) := by
      rw [← hu]
      exact dOp_at (dCall_at (dOp_at (dOp_at (dOp_at rfl rfl (mod_i k1)) (dOp_at rfl (dOp_at rfl rfl (fd_turn h)) (mul_i k2)) rfl) rfl rfl) rfl) rfl (mod_i k4)
    refine (dSeq_at (dSet_at f1)).trans ?_
    have f2 : dOp modD (dCall intD [(dOp addD (dOp addD (dOp mulD (dVar 3) (dVar 3)) (dOp mulD (dC (.int c5)) (dOp ixD (dVar 0) (dC (.str "turn"))))) (dC (.int c6)))]) (dC (.int c7)) (E.set 3 (some (.pu (.int u)))) ih = .ok (.pu (.int v), ih) := by
      rw [← hv]
      exact dOp_at (dCall_at (dOp_at (dOp_at (dOp_at rfl rfl (mul_i m1)) (dOp_at rfl (dOp_at rfl rfl (fd_turn h)) (mul_i k5)) rfl) rfl rfl) rfl) rfl (mod_i k7)
    refine (dSeq_at (dSet_at f2)).trans ?_
    exact dSeq_rt (dRet_at (dOp_at (dCall_at (dOp_at (dOp_at (dCall_at (dOp_at (dOp_at rfl rfl (mul_i m2)) (dOp_at rfl rfl (mul_i k8)) rfl) rfl) rfl (mod_i k9)) rfl (fdiv_i k10 k10')) rfl) rfl (mod_i h0)))
theorem draw_ok (hc : drawC c1 c2 c4 c5 c7 c8 c9 c10 = true) (h : ih[a]? = some (fdC ns x y z)) (h0 : 0 < s) (h1 : s < 1073741824) :
    ∃ d x' y' z' : Int, (0 ≤ d ∧ d < s) ∧ dFn 7 (drawB c0 c1 c2 c3 c4 c5 c6 c7 c8 c9 c10) [.ref a, .pu (.int s)] ih = .ok (.pu (.int d), ih.set a (fdC ns x' y' z')) := by
  have g1 := fd_at (fdC ns x y (z + 1)) h
  have bd : ∀ q : Int, 0 ≤ q % s ∧ q % s < s := fun q => ⟨Int.emod_nonneg q (by omega), Int.emod_lt_of_pos q h0⟩
  have fin : ∀ (d : Int) (i : IH), drawB c0 c1 c2 c3 c4 c5 c6 c7 c8 c9 c10 [some (.ref a), some (.pu (.int s)), none, none, none, none, none] ih = .rt (.pu (.int d)) i → dFn 7 (drawB c0 c1 c2 c3 c4 c5 c6 c7 c8 c9 c10) [.ref a, .pu (.int s)] ih = .ok (.pu (.int d), i) := fun d i e => by
    show (match drawB c0 c1 c2 c3 c4 c5 c6 c7 c8 c9 c10 [some (.ref a), some (.pu (.int s)), none, none, none, none, none] ih with
      | .rt d ih' => R.ok (d, ih')
      | .nx _ ih' => .ok (.pu .non, ih')
      | _ => .stuck) = _
    rw [e]
  have s1 : (dPut (dVar 0) (dC (.str "turn")) (dOp addD (dOp ixD (dVar 0) (dC (.str "turn"))) (dC (.int 1)))) [some (.ref a), some (.pu (.int s)), none, none, none, none, none] ih = .nx [some (.ref a), some (.pu (.int s)), none, none, none, none, none] (ih.set a (fdC ns x y (z + 1))) :=
    dPut_at (dOp_at (dOp_at rfl rfl (fd_turn h)) rfl rfl) rfl rfl (fd_putT h)
  have t1 : dOp gtD (dOp ixD (dVar 0) (dC (.str "rest"))) (dC (.int 0)) [some (.ref a), some (.pu (.int s)), none, none, none, none, none] (ih.set a (fdC ns x y (z + 1))) = .ok (.pu (.bl (decide (0 < y))), (ih.set a (fdC ns x y (z + 1)))) := dOp_at (dOp_at rfl rfl (fd_rest g1)) rfl gt_i
  cases hy : decide (0 < y) with
  | true =>
    rw [hy] at t1
    refine ⟨y % s, x, y / s, z + 1, bd y, fin _ _ ?_⟩
    refine (dSeq_at s1).trans (dSeq_rt ?_)
    rw [dIfS_at t1]
    show dSeq _ _ [some (.ref a), some (.pu (.int s)), none, none, none, none, none] _ = _
    refine (dSeq_at (dSet_at (dOp_at (dCall_at (dOp_at rfl rfl (fd_rest g1)) rfl) rfl (mod_i h0)))).trans ?_
    refine (dSeq_at (dPut_at (dOp_at (dOp_at rfl rfl (fd_rest g1)) rfl (fdiv_i h0 h1)) rfl rfl (fd_putR g1))).trans ?_
    rw [set_again]
    exact dSeq_rt (dRet_at rfl)
  | false =>
    rw [hy] at t1
    have g2 := fd_at (fdC ns (x + 1) y (z + 1)) h
    have go : ∀ c : Int, (dIf (dOp neD (dVar 5) (dLst [])) (dOp ixD (dVar 5) (dOp modD (dCall intD [(dVar 6)]) (dCall lenD [(dVar 5)]))) (dC (.int c0))) [some (.ref a), some (.pu (.int s)), none, none, none, some (.pu (.lst (ns.map .int))), some (.pu (.int x))] (ih.set a (fdC ns (x + 1) y (z + 1))) = .ok (.pu (.int c), ih.set a (fdC ns (x + 1) y (z + 1))) →
        ∃ d x' y' z' : Int, (0 ≤ d ∧ d < s) ∧ dFn 7 (drawB c0 c1 c2 c3 c4 c5 c6 c7 c8 c9 c10) [.ref a, .pu (.int s)] ih = .ok (.pu (.int d), ih.set a (fdC ns x' y' z')) := by
      intro c e
      obtain ⟨d, x', y', z', hd, e2⟩ := drawT_ok (c3 := c3) (c6 := c6) hc g2 h0 h1 c
      refine ⟨d, x', y', z', hd, fin _ _ ?_⟩
      refine (dSeq_at s1).trans ?_
      refine (dSeq_at ((dIfS_at t1).trans rfl)).trans ?_
      refine (dSeq_at (dPar_at (dOp_at rfl rfl (fd_cells g1)) (dOp_at rfl rfl (fd_spot g1)))).trans ?_
      refine (dSeq_at (dPut_at (dOp_at rfl rfl rfl) rfl rfl (fd_putS g1))).trans ?_
      rw [set_again]
      refine (dSeq_at (dSet_at e)).trans ?_
      rw [set_again] at e2
      exact e2
    cases ns with
    | nil =>
      refine go c0 ?_
      rw [dIf_at (b := false) rfl]
      rfl
    | cons n ns =>
      obtain ⟨c, ec⟩ := cell_at n ns x
      refine go c ?_
      have hl : (0 : Int) < (((n :: ns).map P.int).length : Int) := by rw [List.length_map]; simp only [List.length_cons]; omega
      have e1 : dOp neD (dVar 5) (dLst []) [some (.ref a), some (.pu (.int s)), none, none, none, some (.pu (.lst ((n :: ns).map .int))), some (.pu (.int x))] (ih.set a (fdC (n :: ns) (x + 1) y (z + 1))) = .ok (.pu (.bl true), ih.set a (fdC (n :: ns) (x + 1) y (z + 1))) := by
        refine dOp_at rfl rfl ?_
        show (if (shp (.lst ((n :: ns).map .int)) && shp (.lst [])) = true then R.ok (D.pu (.bl (!(eqP (.lst ((n :: ns).map .int)) (.lst [])))), _) else .stuck) = _
        rw [shp_ints, eq_nilP]; rfl
      rw [dIf_at e1]
      show dOp _ _ _ _ _ = _
      refine dOp_at rfl (dOp_at rfl rfl (mod_i hl)) ?_
      rw [List.length_map]
      exact congrFun ec _
end
/-! ### the feed -/
def feedB : Ev → IH → RS :=
    (dSeq (dRet (dDict [((dC (.str "cells")), (dLc false (gN 1) (iAny (dSl (dVar 0) none (some (dC (.int 63))))) none (dCall intD [(dVar 1)]) [1])), ((dC (.str "spot")), (dC (.int 0))), ((dC (.str "rest")), (dC (.int 0))), ((dC (.str "turn")), (dC (.int 0)))]))
    dNx)
theorem cut63 (ns : List Int) (h : ns.length ≤ 63) : cutP ns none (some 63) = ns := by
  have e : HT.sIx ns.length ns.length (some 63) = ns.length := by
    show min 63 ns.length = _
    omega
  unfold cutP
  rw [e]
  show ((ns.drop 0).take (ns.length - 0)) = ns
  simp
theorem lc_ints (d : Option D) (ih : IH) : ∀ ns : List Int, dLcL (gN 1) none (dCall intD [(dVar 1)]) [d, none] (ns.map .int) ih = .ok (ns.map fun n => .pu (.int n), ih)
  | [] => rfl
  | n :: ns => by
    show ((dLcL (gN 1) none (dCall intD [(dVar 1)]) [d, none] (ns.map .int) ih).bind fun r => R.ok (D.pu (.int n) :: r.1, r.2)) = _
    rw [lc_ints d ih ns]; rfl
theorem allPu_ints : ∀ ns : List Int, allPu (ns.map fun n => .pu (.int n)) = some (ns.map .int)
  | [] => rfl
  | n :: ns => by
    show (allPu (ns.map fun n => .pu (.int n))).map (P.int n :: ·) = _
    rw [allPu_ints ns]; rfl
theorem feed_ok (ns : List Int) (h : ns.length ≤ 63) : dFn 2 feedB [.scr ns] [] = .ok (.ref 0, [fdC ns 0 0 0]) := by
  have hl : (ns.map P.int).length ≤ SL := by rw [List.length_map]; unfold SL; omega
  have e0 : iAny (dSl (dVar 0) none (some (dC (.int 63)))) [some (.scr ns), none] [] = .ok (ns.map .int, []) := by
    show R.ok (List.map P.int (cutP ns none (some 63)), []) = _
    rw [cut63 ns h]
  have e1 : dLc false (gN 1) (iAny (dSl (dVar 0) none (some (dC (.int 63))))) none (dCall intD [(dVar 1)]) [1] [some (.scr ns), none] [] = .ok (.pu (.lst (ns.map .int)), []) := by
    unfold dLc; rw [e0]
    show (if (ns.map P.int).length ≤ SL then (match okR (dLcL (gN 1) none (dCall intD [(dVar 1)]) [some (.scr ns), none] (ns.map .int) []) with | some y => lcEnd false y.1 y.2 | none => R.stuck) else .stuck) = _
    rw [if_pos hl, lc_ints]
    show (match allPu (ns.map fun n => .pu (.int n)) with | some ps => R.ok (D.pu (.lst ps), []) | none => .stuck) = _
    rw [allPu_ints]
  have e2 : dPr [((dC (.str "cells")), (dLc false (gN 1) (iAny (dSl (dVar 0) none (some (dC (.int 63))))) none (dCall intD [(dVar 1)]) [1])), ((dC (.str "spot")), (dC (.int 0))), ((dC (.str "rest")), (dC (.int 0))), ((dC (.str "turn")), (dC (.int 0)))] [some (.scr ns), none] [] = .ok ([(.inr "cells", .pu (.lst (ns.map .int))), (.inr "spot", .pu (.int 0)), (.inr "rest", .pu (.int 0)), (.inr "turn", .pu (.int 0))], []) := by
    show (noX (dLc false (gN 1) (iAny (dSl (dVar 0) none (some (dC (.int 63))))) none (dCall intD [(dVar 1)]) [1] [some (.scr ns), none] [])).bind _ = _
    rw [e1]; rfl
  have e3 : feedB [some (.scr ns), none] [] = .rt (.ref 0) [fdC ns 0 0 0] := by
    refine dSeq_rt (dRet_at ?_)
    unfold dDict; rw [e2]; rfl
  show (match feedB [some (.scr ns), none] [] with
      | .rt d ih' => R.ok (d, ih')
      | .nx _ ih' => .ok (.pu .non, ih')
      | _ => .stuck) = _
  rw [e3]
end Dn

/-! Dn39: x, y, .. = e1, e2, ..: names of any kind, any number, values that may be cells. -/
namespace Dn
open PySem PySem.Spec PyProof.Rows L2
section
variable {g : GI} {N : List Str} {lev k : Nat} {sc : Scope} {W : WX} {F : Addr → Prop} {m m' : List Addr} {ih ih' : IH} {H H' : Hp} {σ : L2.St} {env : Ev} {B : Addr → Prop} {p pos p2 : Pos} {fs : List (Ev → IH → R (D × IH))}
def setN : List Nat → List D → Ev → Ev
  | i :: is, d :: ds, env => setN is ds (env.set i (some d))
  | _, _, env => env
def dParN (is : List Nat) (fs : List (Ev → IH → R (D × IH))) : Ev → IH → RS := fun env ih => bindS env (dArgs fs env ih) fun r => if decide (r.1.length = is.length) && decide (r.1.length ≤ SL) then .nx (setN is r.1 env) r.2 else .stuck
/-- the targets are names, at these slots -/
def nmB (N : List Str) (sc : Scope) : List Nat → List Expr → Bool
  | [], [] => true
  | i :: is, .Name x _ :: es => (match N[i]? with
    | some y => decide (y = x)
    | none => false) && ((match sc.names.lookup x with
    | some .local => true
    | some .cell => true
    | _ => false) && nmB N sc is es)
  | _, _ => false
def tNs : List Nat → TGs
  | [] => gNil
  | i :: is => gCons (gName i) (tNs is)
theorem nm_pgs {X : Cx} (G : Gd g N lev sc W X) : ∀ {is : List Nat} {es : List Expr}, nmB N sc is es = true → PGs X es (tNs is) ∧ (assignEach es X.env).length = is.length ∧ (assignEach es X.env).findIdx? (·.1) = none
  | [], [], _ => ⟨pgs_nil, rfl, rfl⟩
  | i :: is, .Name x q :: es, h => by
    simp only [nmB, Bool.and_eq_true] at h
    obtain ⟨h1, h2, h3⟩ := h
    obtain ⟨r1, r2, r3⟩ := nm_pgs G h3
    have hi : N[i]? = some x := by
      split at h1
      · rename_i y e; rw [e, of_decide_eq_true h1]
      · cases h1
    have hl : Loc sc x := by
      split at h2
      · rename_i e; exact .inl e
      · rename_i e; exact .inr e
      · cases h2
    have e0 : assignEach (.Name x q :: es) X.env = (false, assign (.Name x q) X.env) :: assignEach es X.env := rfl
    refine ⟨pgs_cons (pg_name (i := i) (by rw [G.nm]; exact G.nd) (by rw [G.nm]; exact hi) (G.scp.loc hl) ?_) r1, ?_, ?_⟩
    · rcases hl with h | h
      · exact .inr (G.scp.lo h)
      · exact .inl (G.fn x h)
    · rw [e0, List.length_cons, r2, List.length_cons]
    · rw [e0, List.findIdx?_cons, r3]; rfl
  | [], _ :: _, h => by simp [nmB] at h
  | _ :: _, [], h => by simp [nmB] at h
theorem tNs_ok : ∀ {is : List Nat} {ds : List D} {vs : List V} {env : Ev} {σ : L2.St} {Q : L2.St → Hp → Prop}, ds.length = is.length → RDs g.K H B m ds vs → EvR g.K H B m env σ → (∀ σ', EvR g.K H B m (setN is ds env) σ' → Q σ' H) → tNs is vs σ H Q
  | [], [], _, _, σ, _, _, r, e, q => ⟨r, q σ e⟩
  | i :: is, d :: ds, _, env, σ, Q, l, r, e, q => by
    obtain ⟨v, rr, rfl, r1, r2⟩ := r
    exact ⟨v, rr, rfl, tNs_ok (by simpa using l) r2 (e.set r1) q⟩
  | [], _ :: _, _, _, _, _, l, _, _, _ => by simp at l
  | _ :: _, [], _, _, _, _, l, _, _, _ => by simp at l
/-- the stores are not swapped: a target that is no local, or not two or three of them -/
def offB (sc : Scope) (ts : List Expr) : Bool := ts.any (offT sc) || !(ts.length == 2 || ts.length == 3)
theorem unswappedB {X : Cx} (G : Gd g N lev sc W X) {ts vs : List Expr} {kt k2 : Nat} {pt pt2 : Pos} (h : offB sc ts = true) : swappedStores [.Tuple ts kt pt] (.Tuple vs k2 pt2) X.env = pure none := by
  rcases (Bool.or_eq_true _ _).mp h with h | h
  · exact unswapped G h
  · unfold swappedStores
    dsimp only
    rw [if_pos]
    rw [h]; rfl
theorem s_parN {is : List Nat} {ts vs : List Expr} {kt k2 : Nat} {pt pt2 : Pos} (ha : SA g N lev sc fs vs) (hn : nmB N sc is ts = true) (hb : offB sc ts = true) : SS g N lev sc (dParN is fs) (.Assign [.Tuple ts kt pt] (.Tuple vs k2 pt2) pos) := fun W X G => by
  obtain ⟨r1, r2, r3⟩ := nm_pgs G hn
  refine PS.con (ps_asg (pe_tup (pa_of G ha)) (pg_tup G.calm r1 r2 r3) rfl (unswappedB G hb) rfl) fun D' σ H q => ?_
  obtain ⟨F, m, ih, env, hr, er, q⟩ := q
  refine tA_S (k := fun ds ih1 => if decide (ds.length = is.length) && decide (ds.length ≤ SL) then .nx (setN is ds env) ih1 else .stuck) hr er q fun m1 H1 xs ds ih1 hr1 p1 rx q1 => ?_
  split at q1
  · rename_i z
    obtain ⟨z1, z2⟩ := Bool.and_eq_true_iff.mp z
    have z1 := of_decide_eq_true z1
    have z2 := of_decide_eq_true z2
    refine ⟨by rw [SL_eq, rx.length]; exact z2, fun q hq => ?_⟩
    have po : Post g.K F m1 ih1 H1 m1 ih1 (upd H1 q (.tup xs)) := Post.fresh hr1 hq
    exact ⟨q, xs, rfl, .of upd_same, by rw [rx.length]; exact z1, tNs_ok z1 (po.rds hr1 rx) ((er.post hr p1).post hr1 po) fun σ' er' => q1 m1 _ σ' po er'⟩
  · exact q1.elim
end
end Dn

/-! Dn40: f(k = v, ..): a call by keywords alone; x, y, z = e1, e2, e3 of plain locals; o[i] op= e. -/
namespace Dn
open PySem PySem.Spec PyProof.Rows L2
section
variable {g : GI} {N : List Str} {lev k : Nat} {sc : Scope} {W : WX} {F : Addr → Prop} {m m' : List Addr} {ih ih' : IH} {H H' : Hp} {σ : L2.St} {env : Ev} {B : Addr → Prop} {p pos p2 : Pos} {fs : List (Ev → IH → R (D × IH))} {f : Addr} {fd : FuncData} {ps ks : List Str}
/-! ### keywords -/
/-- the values by the parameters' order -/
def pick {α : Type} (pm : List Nat) (xs : List α) : List α := pm.filterMap fun i => xs[i]?
theorem RDs.pick {K : PySem.W.Frag} {ds : List D} {vs : List V} (pm : List Nat) (r : RDs K H B m ds vs) : RDs K H B m (pick pm ds) (pick pm vs) := by
  induction pm with
  | nil => rfl
  | cons i pm e =>
    unfold Dn.pick at e ⊢
    rw [List.filterMap_cons, List.filterMap_cons]
    cases h : ds[i]? with
    | none =>
      have : vs[i]? = none := by
        rw [List.getElem?_eq_none_iff] at h ⊢
        rw [r.length]; exact h
      rw [this]; exact e
    | some d =>
      obtain ⟨v, e1, rd⟩ := r.get h
      rw [e1]; exact ⟨v, _, rfl, rd, e⟩
theorem vals_pick {vs : List V} {us : List Value} (pm : List Nat) (r : Vals vs us) : Vals (pick pm vs) (pick pm us) := by
  have at_ : ∀ (i : Nat), (vs[i]? = none ∧ us[i]? = none) ∨ ∃ v u, vs[i]? = some v ∧ us[i]? = some u ∧ Vals [v] [u] := by
    induction r with
    | nil => exact fun i => .inl ⟨by simp, by simp⟩
    | cons h1 h2 e =>
      intro i
      cases i with
      | zero => exact .inr ⟨_, _, rfl, rfl, .cons h1 .nil⟩
      | succ i => simpa using e i
  induction pm with
  | nil => exact .nil
  | cons i pm e =>
    unfold Dn.pick at e ⊢
    rw [List.filterMap_cons, List.filterMap_cons]
    rcases at_ i with ⟨a, b⟩ | ⟨v, u, a, b, c⟩
    · rw [a, b]; exact e
    · rw [a, b]
      cases c with
      | cons h1 _ => exact .cons h1 e
inductive SK (g : GI) (N : List Str) (lev : Nat) (sc : Scope) : List (Ev → IH → R (D × IH)) → List Str → List Keyword → Prop
  | nil : SK g N lev sc [] [] []
  | cons {f : Ev → IH → R (D × IH)} {fs : List (Ev → IH → R (D × IH))} {x : Str} {ks : List Str} {e : Expr} {q : Pos} {kws : List Keyword} : SE g N lev sc f e → SK g N lev sc fs ks kws → SK g N lev sc (f :: fs) (x :: ks) (⟨some x, e, q⟩ :: kws)
theorem pk_of {X : Cx} (G : Gd g N lev sc W X) : ∀ {fs : List (Ev → IH → R (D × IH))} {ks : List Str} {kws : List Keyword}, SK g N lev sc fs ks kws → PK X kws (tA g W fs)
  | _, _, _, .nil => ⟨fun pos pins s σ H Q I h => pk_nil.run pos pins s σ H Q I (by
      obtain ⟨F, m, ih, env, hr, er, h⟩ := h
      exact h m H [] (Post.refl hr) rfl)⟩
  | _, _, _, .cons (f := f) (fs := fs) h1 h3 => ⟨fun pos pins s σ H Q I h => (pk_cons (h1 W X G) (pk_of G h3)).run pos pins s σ H Q I (by
      obtain ⟨F, m, ih, env, hr, er, h⟩ := h
      refine ⟨F, m, ih, env, hr, er, ?_⟩
      rw [dArgs] at h
      cases e : f env ih with
      | ok r =>
        rw [e] at h
        simp only [R.bind] at h
        intro m1 H1 v p1 r1
        refine ⟨F, m1, r.2, env, p1.hr, er.post hr p1, ?_⟩
        cases e2 : dArgs fs env r.2 with
        | ok rs =>
          rw [e2] at h
          intro m2 H2 vs p2 r2
          exact h m2 H2 (v :: vs) (p1.trans hr p2) ⟨v, vs, rfl, p2.rd p1.hr r1, r2⟩
        | exc c fs ih2 => rw [e2] at h; exact fun m2 H2 cls dd p2 r2 => h m2 H2 cls dd (p1.trans hr p2) r2
        | stuck => rw [e2] at h; exact h.elim
      | exc c fs ih2 => rw [e] at h; exact h
      | stuck => rw [e] at h; exact h)⟩
theorem SK.facts {env : Env} {q : Pos} : ∀ {fs : List (Ev → IH → R (D × IH))} {ks : List Str} {kws : List Keyword}, SK g N lev sc fs ks kws → (backToKw q (keywordEach kws env)).all (·.1.isSome) = true ∧ (backToKw q (keywordEach kws env)).filterMap (·.1) = ks ∧ (backToKw q (keywordEach kws env)).any (·.1.isNone) = false ∧ fs.length = ks.length
  | _, _, _, .nil => ⟨rfl, rfl, rfl, rfl⟩
  | _, _, _, .cons (x := x) h1 h3 => by
    obtain ⟨a, b, c, d⟩ := SK.facts (env := env) (q := q) h3
    refine ⟨?_, ?_, ?_, by simp [d]⟩
    · exact (Bool.and_eq_true _ _).mpr ⟨rfl, a⟩
    · show x :: _ = _
      exact congrArg _ b
    · exact (Bool.or_eq_false_iff).mpr ⟨rfl, c⟩
theorem dArgs_len : ∀ {fs : List (Ev → IH → R (D × IH))} {env : Ev} {ih : IH} {r : List D × IH}, dArgs fs env ih = .ok r → r.1.length = fs.length
  | [], _, _, _, e => by cases e; rfl
  | f :: fs, env, ih, r, e => by
    rw [dArgs] at e
    cases e1 : f env ih with
    | ok r1 =>
      rw [e1] at e
      simp only [R.bind] at e
      cases e2 : dArgs fs env r1.2 with
      | ok r2 =>
        rw [e2] at e
        cases e
        simp [dArgs_len e2]
      | exc _ _ _ => rw [e2] at e; cases e
      | stuck => rw [e2] at e; cases e
    | exc _ _ _ => rw [e1] at e; cases e
    | stuck => rw [e1] at e; cases e
/-- what the caller must know to call x by these keywords -/
structure CalK (g : GI) (k : Nat) (x : Str) (ps ks : List Str) (pm : List Nat) (φ : List D → IH → R (D × IH)) : Prop where
  ex : ∃ (f : Addr) (fd : FuncData), FnG g k f fd ps φ ∧ g.mg x = some (.ref f) ∧ PySem.W.keepIn g.K (.ref f) = true ∧ ∀ (s : Shared) (us : List Value), us.length = ks.length → BindsTo s fd ⟨[], ks.zip us⟩ (ps.zip (pick pm us))
theorem kwA {K : PySem.W.Frag} {x qual : Str} {params : Arguments} {body : List Stmt} {scope : Scope} {kws : List (Str × V)} {pm : List Nat} (F : FunD K x qual params body scope [] kws f fd)
    (h : ∀ (kV doc pm' : Value) (an : Option Addr) (cdv ct : Value) (us : List Value), us.length = ks.length → bindArgs (PySem.W.fnOf x qual params body scope .none kV doc pm' an cdv ct) ⟨[], ks.zip us⟩ = pure (ps.zip (pick pm us))) (s : Shared) (us : List Value) (hl : us.length = ks.length) : BindsTo s fd ⟨[], ks.zip us⟩ (ps.zip (pick pm us)) := by
  obtain ⟨oc, od, dV, kV, doc, pm', an, cdv, ct, osl, rfl, lk, hcd, hD, hK⟩ := F.ex
  rcases hD with ⟨_, rfl⟩ | ⟨e, _⟩
  · exact .of_eq (h kV doc pm' an cdv ct us hl)
  · exact absurd rfl e
theorem runK {X : Cx} {W : WX} {φ : List D → IH → R (D × IH)} {pins : List (Addr × Obj)} {σ : L2.St} {H : Hp} {s : Shared} {Q : VK} {us : List Value} {vs : List V} {pm : List Nat} (G : Gd g N lev sc W X) (Fn : FnG g k f fd ps φ) (hk : k ≤ lev) (hb : BindsTo s fd ⟨[], ks.zip us⟩ (ps.zip (pick pm us))) (I : Inv X pins σ H s) (r : Vals vs us)
    (hl : (pick pm vs).length = ps.length) (h : ∃ F m ih xs, HR g.K F m ih H ∧ RDs g.K H (Bd F m ih) m xs (pick pm vs) ∧ Fin g WNo F m ih H [] Q (φ xs ih)) : wpAny (model X.prog X.w) X.A (call (.ref f) [] (ks.zip us)) (EP X pins σ Q) X.xe s := by
  have e0 : Env0 g.P g.w g.K g.mg g.base X.A X.stack s H := by rw [← G.prog, ← G.w, ← G.K, ← G.mg, ← G.base]; exact I.env0
  have rr := Fn.run X.A X.stack s H ⟨[], ks.zip us⟩ (pick pm us) (pick pm vs) Q (G.room.mono hk) G.gd e0 hb (vals_pick pm r) hl h
  rw [← G.prog, ← G.w] at rr
  refine wpAny_call (codeAny_mono rr fun res s' hq => ?_)
  cases res with
  | error e => exact False.elim hq
  | ok fl =>
    cases fl with
    | ret u => exact I.after hq
    | next => exact hq.elim
    | brk => exact hq.elim
    | cont => exact hq.elim
theorem pe_callKw {X : Cx} {W : WX} {x : Str} {p pos : Pos} {kws : List Keyword} {φ : List D → IH → R (D × IH)} {pm : List Nat} (G : Gd g N lev sc W X) (C : CalK g k x ps ks pm φ) (hk : k ≤ lev) (hg : sc.names.lookup x = some .globalImplicit) (hs : SK g N lev sc fs ks kws) (hdb : (x == ("__debug__" : Str)) = false) :
    PE X (.Call (.Name x p) [] kws pos) (fun σ H Q => tA g W fs σ H fun vs H1 => vs.length = ks.length ∧ (pick pm vs).length = ps.length ∧ ∃ F m ih xs, HR g.K F m ih H1 ∧ RDs g.K H1 (Bd F m ih) m xs (pick pm vs) ∧ Fin g WNo F m ih H1 [] Q (φ xs ih)) := by
  obtain ⟨f, fd, Fn, hm, kp, hb⟩ := C.ex
  refine ⟨fun pins s σ H Q I h => ?_⟩
  obtain ⟨a, b, c, d⟩ := SK.facts (env := X.env) (q := pos) hs
  refine wpAny_Call_Name_kw (ld_glob I (G.scp.gl hg) (by rw [G.mg]; exact hm) ?_ hdb)
  refine PySem.W.callWith_KW0 (h₀ := X.base) I.ok.mod.kin (by rw [G.K]; exact kp) a (thn ((pk_of G hs).run pos pins s σ H _ I h) fun us s1 ⟨vs, H1, I1, r, q0, q1, q2⟩ => ⟨I1.kIn, ?_⟩) (by rw [c]; rfl)
  rw [b]
  exact runK G Fn hk (hb s1 us (by rw [← r.length]; exact q0)) I1 r q1 q2
def dCallKF (n : Nat) (pm : List Nat) (φ : List D → IH → R (D × IH)) (fs : List (Ev → IH → R (D × IH))) : Ev → IH → R (D × IH) := fun env ih => (dArgs fs env ih).bind fun r =>
  if (pick pm r.1).length = n then noX (φ (pick pm r.1) r.2) else .stuck
def dCallKP (n : Nat) (pm : List Nat) (φ : List D → IH → R (D × IH)) (fs : List (Ev → IH → R (D × IH))) : Ev → IH → R (D × IH) := fun env ih => (dArgs fs env ih).bind fun r =>
  if apB (pick pm r.1) && decide ((pick pm r.1).length = n) then (match pf φ (pick pm r.1) with
    | some p => .ok (.pu p, r.2)
    | none => .stuck) else .stuck
theorem tA_len {fs : List (Ev → IH → R (D × IH))} {k : List D → IH → R (D × IH)} {Q : VK} {T : List V → Hp → Prop} {F : Addr → Prop} {m : List Addr} {ih : IH} {H : Hp} {σ : L2.St} {env : Ev} (hr : HR g.K F m ih H) (er : EvR g.K H (Bd F m ih) m env σ) (h : Fin g W F m ih H σ Q ((dArgs fs env ih).bind fun r => k r.1 r.2))
    (hT : ∀ m1 H1 xs ds ih1, ds.length = fs.length → HR g.K F m1 ih1 H1 → Post g.K F m ih H m1 ih1 H1 → RDs g.K H1 (Bd F m1 ih1) m1 ds xs → Fin g W F m1 ih1 H1 σ Q (k ds ih1) → T xs H1) : tA g W fs σ H T := by
  refine ⟨F, m, ih, env, hr, er, ?_⟩
  cases e : dArgs fs env ih with
  | ok r =>
    rw [e] at h
    intro m1 H1 v p1 r1
    exact hT m1 H1 v r.1 r.2 (dArgs_len e) p1.hr p1 r1 (Fin.rebase hr p1 h)
  | exc c fs ih2 => rw [e] at h; exact h
  | stuck => rw [e] at h; exact h
theorem e_callKF {x : Str} {kws : List Keyword} {φ : List D → IH → R (D × IH)} {pm : List Nat} (C : CalK g k x ps ks pm φ) (hk : k ≤ lev) (hg : glB sc x = true) (hs : SK g N lev sc fs ks kws) : SE g N lev sc (dCallKF ps.length pm φ fs) (.Call (.Name x p) [] kws pos) := fun W X G => by
  refine PE.con (pe_callKw G C hk (glB_ok hg).1 hs (glB_ok hg).2) fun σ H Q q => ?_
  obtain ⟨F, m, ih, env, hr, er, q⟩ := q
  refine tA_len (k := fun xs ih1 => if (pick pm xs).length = ps.length then noX (φ (pick pm xs) ih1) else .stuck) hr er q fun m1 H1 vs xs ih1 l0 hr1 p1 rx q1 => ?_
  have ll := (SK.facts (env := X.env) (q := pos) hs).2.2.2
  split at q1
  · rename_i hl
    have rr := rx.pick pm
    refine ⟨by rw [rx.length, l0, ll], by rw [rr.length]; exact hl, F, m1, ih1, _, hr1, rr, ?_⟩
    cases e1 : φ (pick pm xs) ih1 with
    | ok r => rw [e1] at q1; exact q1
    | exc _ _ _ => rw [e1] at q1; exact q1.elim
    | stuck => rw [e1] at q1; exact q1.elim
  · exact q1.elim
theorem e_callKP {x : Str} {kws : List Keyword} {φ : List D → IH → R (D × IH)} {pm : List Nat} (C : CalK g k x ps ks pm φ) (hk : k ≤ lev) (hg : glB sc x = true) (hs : SK g N lev sc fs ks kws) : SE g N lev sc (dCallKP ps.length pm φ fs) (.Call (.Name x p) [] kws pos) := fun W X G => by
  refine PE.con (PE.gh (pe_callKw G C hk (glB_ok hg).1 hs (glB_ok hg).2)) fun σ H Q q => ?_
  obtain ⟨F, m, ih, env, hr, er, q⟩ := q
  refine tA_len (k := fun xs ih1 => if apB (pick pm xs) && decide ((pick pm xs).length = ps.length) then (match pf φ (pick pm xs) with | some p => .ok (.pu p, ih1) | none => .stuck) else .stuck) hr er q fun m1 H1 vs xs ih1 l0 hr1 p1 rx q1 => ?_
  have ll := (SK.facts (env := X.env) (q := pos) hs).2.2.2
  split at q1
  · rename_i hl
    obtain ⟨ha, hl⟩ := Bool.and_eq_true_iff.mp hl
    have hl := of_decide_eq_true hl
    split at q1
    · rename_i p0 ep
      have rr : RDs g.K H1 (Bd (Bd F m1 ih1) [] []) [] (pick pm xs) (pick pm vs) := RDs.apart ha (rx.pick pm)
      refine ⟨by rw [rx.length, l0, ll], by rw [rr.length]; exact hl, Bd F m1 ih1, [], [], _, hr1.apart, rr, ?_⟩
      unfold pf at ep
      cases e1 : φ (pick pm xs) [] with
      | exc _ _ _ => rw [e1] at ep; cases ep
      | stuck => rw [e1] at ep; cases ep
      | ok r =>
        obtain ⟨d, ih2⟩ := r
        rw [e1] at ep
        obtain ⟨⟨p', ih3⟩, e2, e3⟩ := Option.map_eq_some_iff.mp ep
        cases e3
        intro m' H' v po rd
        refine (frz_ok 8 _ _ m' H' ih2 ih3 d p' v e2 po.hr rd).bind fun H2 ⟨po2, rp2⟩ => .done ?_
        have pt := po.trans hr1.apart po2
        have keep : ∀ a o, H1 a = some o → H2 a = some o := fun a o e => pt.frame a o e noLv
        exact q1 m1 H2 v (Post.kept hr1 keep) (RP.mono (Kp.less fun a z => .inl z) _ _ rp2)
    · exact q1.elim
  · exact q1.elim
end
end Dn

/-! Dn41: x, y, z = e1, e2, e3 of three plain locals; o[i] += e of a dict or a list. -/
namespace Dn
open PySem PySem.Spec PyProof.Rows L2
section
variable {g : GI} {N : List Str} {lev k : Nat} {sc : Scope} {W : WX} {F : Addr → Prop} {m m' : List Addr} {ih ih' : IH} {H H' : Hp} {σ : L2.St} {env : Ev} {B : Addr → Prop} {p pos p2 : Pos} {f h f3 : Ev → IH → R (D × IH)} {a b c : Expr}
def swapOk3 (a b c : Expr) : Bool := !isStar a && (!isStar b && (!isStar c && (!(foldedForSure 8 a && (foldedForSure 8 b && foldedForSure 8 c)) && !(constantsAlone 8 a && (constantsAlone 8 b && constantsAlone 8 c)))))
theorem swap3 {x y z : Str} {px py pz pt pt2 : Pos} {kt k2 : Nat} {env : Env} (hk : env.scope.kind = .function) (hx : env.scope.names.lookup x = some .local) (hy : env.scope.names.lookup y = some .local) (hz : env.scope.names.lookup z = some .local) (hxy : x ≠ y) (hxz : x ≠ z) (hyz : y ≠ z) (hl : py.line = px.line) (hl2 : pz.line = px.line) (h : swapOk3 a b c = true) :
    swappedStores [.Tuple [.Name x px, .Name y py, .Name z pz] kt pt] (.Tuple [a, b, c] k2 pt2) env = pure (some [x, y, z]) := by
  have hb : env.blockKind = .function := by unfold Env.blockKind; rw [hk]; rfl
  have hx' : env.kindOf x = some .local := hx
  have hy' : env.kindOf y = some .local := hy
  have hz' : env.kindOf z = some .local := hz
  unfold swapOk3 at h
  simp only [Bool.and_eq_true, Bool.not_eq_true'] at h
  obtain ⟨h1, h2, h0, h3, h4⟩ := h
  have n1 : (y == x) = false := beq_eq_false_iff_ne.mpr (Ne.symm hxy)
  have n2 : (x == y) = false := beq_eq_false_iff_ne.mpr hxy
  have n3 : (z == x) = false := beq_eq_false_iff_ne.mpr (Ne.symm hxz)
  have n4 : (x == z) = false := beq_eq_false_iff_ne.mpr hxz
  have n5 : (z == y) = false := beq_eq_false_iff_ne.mpr (Ne.symm hyz)
  have n6 : (y == z) = false := beq_eq_false_iff_ne.mpr hyz
  have s1 : ([a, b, c].any fun | .Starred .. => true | _ => false) = false := by
    rw [List.any_cons, List.any_cons, List.any_cons, List.any_nil]
    show (isStar a || (isStar b || (isStar c || false))) = false
    rw [h1, h2, h0]; rfl
  have s2 : [a, b, c].all (foldedForSure 8) = false := by
    rw [List.all_cons, List.all_cons, List.all_cons, List.all_nil, Bool.and_true]; exact h3
  have s3 : [a, b, c].all (constantsAlone 8) = false := by
    rw [List.all_cons, List.all_cons, List.all_cons, List.all_nil, Bool.and_true]; exact h4
  have ed : ([x, y, z] : List Str).eraseDups = [x, y, z] := by
    simp [List.eraseDups, List.eraseDupsBy, List.eraseDupsBy.loop, n1, n2, n3, n4, n5, n6]
  unfold swappedStores
  simp only [hb, s1, s2, s3, List.filterMap_cons, List.filterMap_nil, hx', hy', hz', hl, hl2, List.head?_cons, Option.map_some, Option.getD_some, Expr.pos, beq_self_eq_true, Bool.and_true, if_true, ite_true, ed, List.length_cons, List.length_nil, pure_bind]
  refine (if_neg (by decide)).trans ((if_neg fun z => ?_).trans ?_)
  · have z' : ([a, b, c].any fun | .Starred .. => true | _ => false) = true := z
    rw [s1] at z'
    cases z'
  · rfl
theorem s_par3 {i j l : Nat} {x y z : Str} {px py pz pt pt2 : Pos} {kt k2 : Nat} (ha : SA g N lev sc [f, h, f3] [a, b, c]) (hB : (atN N i x && (atN N j y && (atN N l z && (!(i == j) && (!(i == l) && (!(j == l) && (lcB sc x && (lcB sc y && (lcB sc z && ((py.line == px.line) && ((pz.line == px.line) && (swapOk3 a b c && fnK sc)))))))))))) = true) :
    SS g N lev sc (dParN [i, j, l] [f, h, f3]) (.Assign [.Tuple [.Name x px, .Name y py, .Name z pz] kt pt] (.Tuple [a, b, c] k2 pt2) pos) := fun W X G => by
  simp only [Bool.and_eq_true, Bool.not_eq_true', beq_iff_eq, beq_eq_false_iff_ne] at hB
  obtain ⟨b1, b2, b3, b4, b5, b6, b7, b8, b9, b10, b11, b12, b13⟩ := hB
  have hi := atN_ok b1
  have hj := atN_ok b2
  have hl := atN_ok b3
  have hxy : x ≠ y := fun e => by subst e; exact b4 (nodup_ix G.nd hi hj)
  have hxz : x ≠ z := fun e => by subst e; exact b5 (nodup_ix G.nd hi hl)
  have hyz : y ≠ z := fun e => by subst e; exact b6 (nodup_ix G.nd hj hl)
  refine PS.con (ps_par3 G.calm (by rw [G.nm]; exact G.nd) (by rw [G.nm]; exact hi) (by rw [G.nm]; exact hj) (by rw [G.nm]; exact hl) b4 b5 b6 (G.scp.lo (lcB_ok b7)) (G.scp.lo (lcB_ok b8)) (G.scp.lo (lcB_ok b9)) (pa_of G ha) (swap3 (by rw [G.scp.kind]; exact fnK_ok b13) (G.scp.lo (lcB_ok b7)) (G.scp.lo (lcB_ok b8)) (G.scp.lo (lcB_ok b9)) hxy hxz hyz b10 b11 b12) rfl) fun D' σ H q => ?_
  obtain ⟨F, m, ih, env, hr, er, q⟩ := q
  refine tA_S (k := fun ds ih1 => if decide (ds.length = [i, j, l].length) && decide (ds.length ≤ SL) then .nx (setN [i, j, l] ds env) ih1 else .stuck) hr er q fun m1 H1 xs ds ih1 hr1 p1 rx q1 => ?_
  split at q1
  · rename_i zz
    obtain ⟨z1, z2⟩ := Bool.and_eq_true_iff.mp zz
    have z1 := of_decide_eq_true z1
    match ds, z1, rx, q1 with
    | [d1, d2, d3], _, rx, q1 =>
      obtain ⟨v1, r1, rfl, rr1, v2, r2, rfl, rr2, v3, r3, rfl, rr3, re⟩ := rx
      rw [show r3 = [] from re]
      exact ⟨v1, v2, v3, rfl, q1 m1 H1 _ (Post.refl hr1) ((((er.post hr p1).set rr1).set rr2).set rr3)⟩
  · exact q1.elim
end
end Dn

/-! Dn42: a list comprehension over a list that is a cell; nothing is written in its turns. -/
namespace Dn
open PySem PySem.Spec PyProof.Rows L2
/-- nothing is written -/
def RO (f : Ev → IH → R (D × IH)) : Prop := ∀ env ih r, f env ih = .ok r → r.2 = ih
def ROd (od : D → D → IH → R (D × IH)) : Prop := ∀ a b ih r, od a b ih = .ok r → r.2 = ih
def ROt (t : Option (Ev → IH → R (D × IH))) : Prop := match t with
  | none => True
  | some t => RO t
theorem ro_var {i : Nat} : RO (dVar i) := fun env ih r e => by
  unfold dVar at e
  split at e
  · cases e; rfl
  · cases e
theorem ro_c {p : P} : RO (dC p) := fun env ih r e => by cases e; rfl
theorem ro_op {od : D → D → IH → R (D × IH)} {f h : Ev → IH → R (D × IH)} (o : ROd od) (a : RO f) (b : RO h) : RO (dOp od f h) := fun env ih r e => by
  unfold dOp at e
  cases e1 : f env ih with
  | ok r1 =>
    rw [e1] at e
    simp only [R.bind] at e
    cases e2 : h env r1.2 with
    | ok r2 =>
      rw [e2] at e
      simp only at e
      rw [o _ _ _ _ e, b _ _ _ e2, a _ _ _ e1]
    | exc _ _ _ => rw [e2] at e; cases e
    | stuck => rw [e2] at e; cases e
  | exc _ _ _ => rw [e1] at e; cases e
  | stuck => rw [e1] at e; cases e
theorem rod_ix : ROd ixD := fun a b ih r e => by
  unfold ixD ixL ixT ixS ixK at e
  repeat' split at e
  all_goals first | (cases e; rfl) | cases e
theorem rod_eqt {t : Bool → Bool} : ROd (eqDt t) := fun a b ih r e => by
  unfold eqDt eqD0 at e
  repeat' split at e
  all_goals first | (cases e; rfl) | cases e
theorem rod_eq : ROd eqD := rod_eqt
theorem rod_ne : ROd neD := rod_eqt
theorem rod_add : ROd addD := fun a b ih r e => by
  unfold addD at e
  repeat' split at e
  all_goals first | (cases e; rfl) | cases e
theorem ro_and {f h : Ev → IH → R (D × IH)} (a : RO f) (b : RO h) : RO (dAnd f h) := fun env ih r e => by
  unfold dAnd at e
  cases e1 : f env ih with
  | ok r1 =>
    rw [e1] at e
    simp only [R.bind] at e
    have := a _ _ _ e1
    split at e
    · rw [b _ _ _ e, this]
    · cases e; exact this
    · cases e
  | exc _ _ _ => rw [e1] at e; cases e
  | stuck => rw [e1] at e; cases e
theorem ro_or {f h : Ev → IH → R (D × IH)} (a : RO f) (b : RO h) : RO (dOr f h) := fun env ih r e => by
  unfold dOr at e
  cases e1 : f env ih with
  | ok r1 =>
    rw [e1] at e
    simp only [R.bind] at e
    have := a _ _ _ e1
    split at e
    · cases e; exact this
    · rw [b _ _ _ e, this]
    · cases e
  | exc _ _ _ => rw [e1] at e; cases e
  | stuck => rw [e1] at e; cases e
theorem ro_not {f : Ev → IH → R (D × IH)} (a : RO f) : RO (dNot f) := fun env ih r e => by
  unfold dNot at e
  cases e1 : f env ih with
  | ok r1 =>
    rw [e1] at e
    simp only [R.bind] at e
    have := a _ _ _ e1
    split at e
    · cases e; exact this
    · cases e
  | exc _ _ _ => rw [e1] at e; cases e
  | stuck => rw [e1] at e; cases e
def ROa (fs : List (Ev → IH → R (D × IH))) : Prop := ∀ env ih r, dArgs fs env ih = .ok r → r.2 = ih
theorem roa_nil : ROa [] := fun env ih r e => by cases e; rfl
theorem roa_cons {f : Ev → IH → R (D × IH)} {fs : List (Ev → IH → R (D × IH))} (a : RO f) (b : ROa fs) : ROa (f :: fs) := fun env ih r e => by
  rw [dArgs] at e
  cases e1 : f env ih with
  | ok r1 =>
    rw [e1] at e
    simp only [R.bind] at e
    cases e2 : dArgs fs env r1.2 with
    | ok r2 =>
      rw [e2] at e
      cases e
      show r2.2 = ih
      rw [b _ _ _ e2, a _ _ _ e1]
    | exc _ _ _ => rw [e2] at e; cases e
    | stuck => rw [e2] at e; cases e
  | exc _ _ _ => rw [e1] at e; cases e
  | stuck => rw [e1] at e; cases e
theorem ro_callP {n : Nat} {φ : List D → IH → R (D × IH)} {dfl : List D} {fs : List (Ev → IH → R (D × IH))} (a : ROa fs) : RO (dCallP n φ dfl fs) := fun env ih r e => by
  unfold dCallP at e
  cases e1 : dArgs fs env ih with
  | ok r1 =>
    rw [e1] at e
    simp only [R.bind] at e
    split at e
    · split at e
      · cases e; exact a _ _ _ e1
      · cases e
    · cases e
  | exc _ _ _ => rw [e1] at e; cases e
  | stuck => rw [e1] at e; cases e
theorem ro_tup {fs : List (Ev → IH → R (D × IH))} (a : ROa fs) : RO (dTup fs) := fun env ih r e => by
  unfold dTup at e
  cases e1 : dArgs fs env ih with
  | ok r1 =>
    rw [e1] at e
    simp only [R.bind] at e
    split at e
    · split at e
      · cases e; exact a _ _ _ e1
      · cases e
    · cases e
  | exc _ _ _ => rw [e1] at e; cases e
  | stuck => rw [e1] at e; cases e
theorem ro_lst {fs : List (Ev → IH → R (D × IH))} (a : ROa fs) : RO (dLst fs) := fun env ih r e => by
  unfold dLst at e
  cases e1 : dArgs fs env ih with
  | ok r1 =>
    rw [e1] at e
    simp only [R.bind] at e
    split at e
    · split at e
      · cases e; exact a _ _ _ e1
      · cases e
    · cases e
  | exc _ _ _ => rw [e1] at e; cases e
  | stuck => rw [e1] at e; cases e
theorem ROt.at {t : Option (Ev → IH → R (D × IH))} (h : ROt t) {env : Ev} {ih : IH} {r : Bool × IH} (e : dTests t env ih = .ok r) : r.2 = ih := by
  cases t with
  | none => cases e; rfl
  | some t =>
    have e : ((noX (t env ih)).bind fun r => match truD r.1 r.2 with | some b => .ok (b, r.2) | none => .stuck) = .ok r := e
    cases e1 : t env ih with
    | ok r1 =>
      rw [e1] at e
      simp only [noX, R.bind] at e
      have := h _ _ _ e1
      split at e
      · cases e; exact this
      · cases e
    | exc _ _ _ => rw [e1] at e; cases e
    | stuck => rw [e1] at e; cases e
theorem RO.nox {f : Ev → IH → R (D × IH)} (h : RO f) {env : Ev} {ih : IH} {r : D × IH} (e : noX (f env ih) = .ok r) : r.2 = ih := by
  cases e1 : f env ih with
  | ok r1 => rw [e1] at e; cases e; exact h _ _ _ e1
  | exc _ _ _ => rw [e1] at e; cases e
  | stuck => rw [e1] at e; cases e
section
variable {g : GI} {N : List Str} {lev : Nat} {sc : Scope} {W : WX} {F : Addr → Prop} {m m' : List Addr} {ih ih' : IH} {H H' : Hp} {σ : L2.St} {env : Ev} {B : Addr → Prop} {pos p : Pos} {f fe : Ev → IH → R (D × IH)}
/-- the turns over the cell n; the same as of an inline list, but the heap stands -/
theorem lcB_core {h : P → Ev → Option Ev} {sl vs : List Nat} {t : Option (Ev → IH → R (D × IH))} {e : Ev → IH → R (D × IH)} {n : Nat} {a : Addr} {xs : List V} {ps : List P} {Dn : Addr} {dsF : List D} {ihF : IH} {Qd : Hp → Prop} (rt : ROt t) (re : RO e) (hs : ∀ j ∈ sl, j ∈ vs) (hr : HR g.K F m ih H) (er : EvR g.K H (Bd F m ih) m env σ)
    (hm : m[n]? = some a) (hc : ih[n]? = some (.lst (ps.map .pu))) (hD : H Dn = none) (hl : ps.length ≤ SL) (q : dLcL h t e (wipeE vs env) ps ih = .ok (dsF, ihF))
    (fin : ∀ m1 H1 vsF, Fl g F m ih H Dn (.lst []) m1 ihF H1 (.lst vsF) → RDs g.K H1 (Bd (F1 F Dn) m1 ihF) m1 dsF vsF → Qd H1) :
    ∃ Wm : Nat → Nat → Hp → Prop, (∃ k, Wm 0 k (upd H Dn (.lst []))) ∧ ∀ i k H, Wm i k H →
      ((Itl g.K a).stop i H ∧ Qd H) ∨ ((Itl g.K a).go i H ∧ ∃ Nx : Hp → Prop, (∀ H', Nx H' → ∃ k', k' < k ∧ Wm (i + 1) k' H') ∧ ∀ x H', (Itl g.K a).yld i H x H' → tG g h sl x (L2.wipe σ vs) H' fun σ2 H2 => L2.wipe σ2 vs = L2.wipe σ vs ∧ tTs g t σ2 H2 fun b H3 =>
        if b = true then tD g (fun _ _ _ _ => False) e σ2 H3 fun y H4 => ∃ acc, H4 Dn = some (.lst acc) ∧ acc.length < sizeLine ∧ Nx (upd H4 Dn (.lst (acc ++ [y]))) else Nx H3) := by
  let Wm : Nat → Nat → Hp → Prop := fun i k H1 => ∃ m1 ds vs', Fl g F m ih H Dn (.lst []) m1 ih H1 (.lst vs') ∧ RDs g.K H1 (Bd (F1 F Dn) m1 ih) m1 ds vs' ∧ vs'.length ≤ i ∧ i + k = ps.length ∧ ∃ rest, dLcL h t e (wipeE vs env) (ps.drop i) ih = .ok (rest, ihF) ∧ ds ++ rest = dsF
  refine ⟨Wm, ⟨ps.length, m, [], [], Fl.start hr hD, rfl, Nat.le_refl _, by omega, dsF, by simpa using q, rfl⟩, fun i k H1 w => ?_⟩
  obtain ⟨m1, ds, vs', fl, rd, hvl, hk, rest, eq, ea⟩ := w
  have hm1 : m1[n]? = some a := (fl.inl hr hD).1.ix n a hm
  obtain ⟨ob, ho, rc⟩ := fl.hr.cell n a _ hm1 hc (by intro z; cases z)
  cases ob with
  | lst us =>
    have rc : RDs g.K H1 (Bd (F1 F Dn) m1 ih) m1 (ps.map .pu) us := rc
    have lu : us.length = ps.length := by rw [rc.length, List.length_map]
    by_cases hi : i < ps.length
    · right
      have ep : (ps.map D.pu)[i]? = some (.pu ps[i]) := by rw [List.getElem?_map, List.getElem?_eq_getElem hi]; rfl
      obtain ⟨v, ev, rv⟩ := rc.get ep
      rw [List.drop_eq_getElem_cons hi, dLcL] at eq
      refine ⟨⟨us, v, .of ho, ev⟩, Wm (i + 1) (k - 1), fun H' nn => ⟨k - 1, by omega, nn⟩, fun x H' y => ?_⟩
      obtain ⟨rfl, y⟩ := y
      have yx := y us (.of ho)
      rw [ev] at yx
      cases yx
      have er2 : EvR g.K H' (Bd (F1 F Dn) m1 ih) m1 (wipeE vs env) (L2.wipe σ vs) := (fl.evr hr hD er).block vs
      cases e1 : h ps[i] (wipeE vs env) with
      | none => rw [e1] at eq; cases eq
      | some env1 =>
        rw [e1] at eq
        simp only at eq
        refine ⟨F1 F Dn, m1, ih, wipeE vs env, ps[i], fl.hr, er2, rv, env1, e1, fun σ2 er3 sm => ⟨wipe_same sm hs, ?_⟩⟩
        cases e2 : dTests t env1 ih with
        | exc _ _ _ => rw [e2] at eq; cases eq
        | stuck => rw [e2] at eq; cases eq
        | ok bb =>
          have z2 := rt.at e2
          obtain ⟨b, ih2⟩ := bb
          simp only at z2
          subst z2
          rw [e2] at eq
          simp only [R.bind] at eq
          refine tTs_of fl.hr er3 e2 fun m2 H3 p3 => ?_
          have fl3 := fl.step hr hD rfl p3
          have rd3 := p3.rds fl.hr rd
          cases b with
          | false =>
            simp only [Bool.false_eq_true, if_false]
            exact ⟨m2, ds, vs', fl3, rd3, by omega, by omega, rest, eq, ea⟩
          | true =>
            simp only [if_true]
            cases e3 : noX (e env1 ih2) with
            | exc _ _ _ => simp only [e3] at eq; cases eq
            | stuck => simp only [e3] at eq; cases eq
            | ok yy =>
              have z3 := re.nox e3
              obtain ⟨d, ih3⟩ := yy
              simp only at z3
              subst z3
              simp only [e3] at eq
              refine tE_of fl3.hr (er3.post fl.hr p3) e3 fun m3 H4 y4 p4 ry => ?_
              have fl4 := fl3.step hr hD rfl p4
              have rd4 := p4.rds fl3.hr rd3
              cases e4 : dLcL h t e (wipeE vs env) (ps.drop (i + 1)) ih3 with
              | exc _ _ _ => simp only [e4] at eq; cases eq
              | stuck => simp only [e4] at eq; cases eq
              | ok r4 =>
                obtain ⟨rest4, ih4⟩ := r4
                simp only [e4] at eq
                cases eq
                have lt : vs'.length < sizeLine := by rw [SL_eq]; omega
                have kk := fl4.kput (o' := .lst (vs' ++ [y4])) rfl
                exact ⟨vs', fl4.at_, lt, m3, ds ++ [d], vs' ++ [y4], fl4.put rfl, (RDs.mono kk (fun _ _ e => e) rd4).snoc (RD.mono kk (fun _ _ e => e) ry), by simp; omega, by omega, rest4, e4, by rw [← ea]; simp⟩
    · left
      have ei : i = ps.length := by omega
      subst ei
      rw [List.drop_length, dLcL] at eq
      cases eq
      rw [List.append_nil] at ea
      subst ea
      exact ⟨⟨us, .of ho, by rw [lu]; exact Nat.le_refl _⟩, fin m1 H1 vs' fl rd⟩
  | _ => exact rc.elim
/-- what lies in a cell, all of it data -/
def boxP (d : D) (ih : IH) : Option (List P) := match d with
  | .ref n => (match ih[n]? with
    | some (.lst xs) => allPu xs
    | _ => none)
  | _ => none
def dLcB (box : Bool) (h : P → Ev → Option Ev) (f : Ev → IH → R (D × IH)) (t : Option (Ev → IH → R (D × IH))) (e : Ev → IH → R (D × IH)) (vs : List Nat) : Ev → IH → R (D × IH) := fun env ih => (f env ih).bind fun r => match boxP r.1 r.2 with
  | some ps => if ps.length ≤ SL then (match okR (dLcL h t e (wipeE vs env) ps r.2) with
    | some y => lcEnd box y.1 y.2
    | none => .stuck) else .stuck
  | none => .stuck
theorem allPu_map : ∀ {ds : List D} {ps : List P}, allPu ds = some ps → ds = ps.map .pu
  | [], ps, e => by cases e; rfl
  | .pu p :: ds, ps, e => by
    rw [allPu] at e
    cases e1 : allPu ds with
    | none => rw [e1] at e; cases e
    | some qs => rw [e1] at e; cases e; rw [allPu_map e1]; rfl
  | .ref _ :: _, _, e => by cases e
  | .scr _ :: _, _, e => by cases e
  | .ke :: _, _, e => by cases e
  | .tz _ :: _, _, e => by cases e
theorem tLcB_of {box : Bool} {h : P → Ev → Option Ev} {sl vs : List Nat} {t : Option (Ev → IH → R (D × IH))} {e : Ev → IH → R (D × IH)} (rt : ROt t) (re : RO e) (hs : ∀ j ∈ sl, j ∈ vs) (σ : L2.St) (H : Hp) (Q : VK) (q : tD g W (dLcB box h f t e vs) σ H Q) :
    tLc (iList g.K (tD g W f)) (tG g h sl) (tTs g t) (tD g (fun _ _ _ _ => False) e) vs σ H Q := by
  obtain ⟨F, m, ih, env, hr, er, q⟩ := q
  refine ⟨F, m, ih, env, hr, er, ?_⟩
  unfold dLcB at q
  cases e0 : f env ih with
  | exc c fs i => rw [e0] at q; exact q
  | stuck => rw [e0] at q; exact q
  | ok r =>
    obtain ⟨d, ih1⟩ := r
    rw [e0] at q
    simp only [R.bind] at q
    intro m1 H1 v p1 rv
    cases eb : boxP d ih1 with
    | none => rw [eb] at q; exact q.elim
    | some ps =>
      rw [eb] at q
      simp only at q
      unfold boxP at eb
      split at eb
      · split at eb
        · rename_i n xs hc
          obtain ⟨a, rfl, hm⟩ := rv
          have ex := allPu_map eb
          subst ex
          obtain ⟨ob, ho, rc⟩ := p1.hr.cell _ a _ hm hc (by intro z; cases z)
          cases ob with
          | lst us =>
            refine ⟨a, rfl, ⟨us, .of ho⟩, fun Dn hD => ?_⟩
            split at q
            · rename_i hl
              split at q
              · rename_i y ey
                obtain ⟨dsF, ihF⟩ := y
                have eq : dLcL h t e (wipeE vs env) ps ih1 = .ok (dsF, ihF) := by
                  cases ez : dLcL h t e (wipeE vs env) ps ih1 with
                  | ok y => rw [ez] at ey; cases ey; rfl
                  | exc _ _ _ => rw [ez] at ey; cases ey
                  | stuck => rw [ez] at ey; cases ey
                refine lcB_core (xs := us) rt re hs p1.hr (er.post hr p1) hm hc hD hl eq fun m2 H2 vsF fl rd => ?_
                cases box with
                | true =>
                  simp only [lcEnd] at q
                  have pc := post_cell (c := .lst dsF) p1.hr hD fl.po fl.hr fl.at_ rd (by intro z; cases z)
                  refine q _ H2 _ (p1.trans hr pc) ⟨Dn, rfl, ?_⟩
                  rw [← fl.hr.len]
                  simp
                | false =>
                  simp only [lcEnd] at q
                  split at q
                  · rename_i ps' ea
                    obtain ⟨pi, nb⟩ := fl.inl p1.hr hD
                    exact q _ H2 _ (p1.trans hr pi) ⟨Dn, vsF, rfl, fl.at_, nb, RPs.mono (Kp.less bd_less) _ _ (allPu_rp ea rd)⟩
                  · exact q.elim
              · exact q.elim
            · exact q.elim
          | _ => exact rc.elim
        · cases eb
      · cases eb
theorem e_lcB {box : Bool} {hh : P → Ev → Option Ev} {sl : List Nat} (own : List (Str × Nat)) {t : Option (Ev → IH → R (D × IH))} {elt tg iter : Expr} {ifs : List Expr} {scope : Scope}
    (hi : SE g N lev sc f iter) (hg : SG g N lev scope hh sl tg) (ht : STs g N lev scope t ifs) (he : SE g N lev scope fe elt) (rt : ROt t) (re : RO fe) (hB : blkB N sc scope own sl iter = true) : SE g N lev sc (dLcB box hh f t fe (own.map (·.2))) (.ListComp elt [⟨tg, iter, ifs, 0⟩] scope pos) := by
  unfold blkB at hB
  simp only [Bool.and_eq_true] at hB
  intro W X G
  exact PE.con (pe_lc (wi := iList X.K (tD g W f)) (g := tG g hh sl) (tt := tTs g t) (te := tD g (fun _ _ _ _ => False) fe) G.calm (by rw [G.nm]; exact G.nd) (pi_list (hi W X G)) (blkOk_ex G (blkOk_by hB.1)) (fun s H C cl fp => hg _ _ (G.blk s H C cl fp)) (fun s H C cl fp => pts_of (G.blk s H C cl fp) ht) (fun s H C cl fp => he _ _ (G.blk s H C cl fp)) (folded_plain hB.2.2 X.env)) (by rw [G.K]; exact tLcB_of rt re (of_decide_eq_true hB.2.1))
theorem s_setLcB {box : Bool} {i : Nat} {y : Str} {py : Pos} {hh : P → Ev → Option Ev} {sl : List Nat} (own : List (Str × Nat)) {t : Option (Ev → IH → R (D × IH))} {elt tg iter : Expr} {ifs : List Expr} {scope : Scope}
    (hi : SE g N lev sc f iter) (hg : SG g N lev scope hh sl tg) (ht : STs g N lev scope t ifs) (he : SE g N lev scope fe elt) (rt : ROt t) (re : RO fe) (hB : blkB N sc scope own sl iter = true) (hS : setCB N sc scope i y py p = true) : SS g N lev sc (dSet i (dLcB box hh f t fe (own.map (·.2)))) (.Assign [.Name y py] (.ListComp elt [⟨tg, iter, ifs, 0⟩] scope p) pos) := by
  unfold blkB at hB
  unfold setCB at hS
  simp only [Bool.and_eq_true, Bool.not_eq_true'] at hB hS
  intro W X G
  refine PS.con (ps_setLc (wi := iList X.K (tD g W f)) (g := tG g hh sl) (tt := tTs g t) (te := tD g (fun _ _ _ _ => False) fe) G.calm (by rw [G.nm]; exact G.nd) (by rw [G.nm]; exact atN_ok hS.1) (G.scp.lo (lcB_ok hS.2.1)) (sw_true (by rw [G.scp.kind]; exact fnK_ok hS.2.2.1) (G.scp.lo (lcB_ok hS.2.1)) hS.2.2.2.1 hS.2.2.2.2) (pi_list (hi W X G)) (blkOk_ex G (blkOk_by hB.1)) (fun s H C cl fp => hg _ _ (G.blk s H C cl fp)) (fun s H C cl fp => pts_of (G.blk s H C cl fp) ht) (fun s H C cl fp => he _ _ (G.blk s H C cl fp)) (folded_plain hB.2.2 X.env)) fun D' σ H q => ?_
  obtain ⟨F, m, ih, env, hr, er, q⟩ := q
  rw [G.K]
  refine tLcB_of (box := box) rt re (of_decide_eq_true hB.2.1) σ H _ ?_
  exact tD_S (k := fun d ih1 => .nx (env.set i (some d)) ih1) hr er q fun m1 H1 x d ih1 hr1 p1 rx q1 => q1 m1 H1 _ (Post.refl hr1) ((er.post hr p1).set rx)
end
end Dn

/-! Dn43: d[k] += e of a dict's ints; list(d). -/
namespace Dn
open PySem PySem.Spec PyProof.Rows L2
section
variable {g : GI} {N : List Str} {lev : Nat} {sc : Scope} {W : WX} {F : Addr → Prop} {m m' : List Addr} {ih ih' : IH} {H H' : Hp} {σ : L2.St} {env : Ev} {B : Addr → Prop} {pos p : Pos} {e : Expr} {f fe : Ev → IH → R (D × IH)}
def augFin (env : Ev) (o k : D) (i : Int) (v : D) (ih : IH) : RS := match v with
  | .pu (.int j) => (match o with
    | .ref n => (match ih[n]? with
      | some (.dic _) => (match putC o k (.pu (.int (i + j))) ih with
        | some ih' => .nx env ih'
        | none => .stuck)
      | _ => .stuck)
    | _ => .stuck)
  | _ => .stuck
def augGet (fv : Ev → IH → R (D × IH)) (env : Ev) (o k : D) (ih : IH) : RS := match dlook o k ih with
  | some (some (.pu (.int i))) => bindS env (fv env ih) fun v => augFin env o k i v.1 v.2
  | _ => .stuck
def dAugA (fo fk fv : Ev → IH → R (D × IH)) : Ev → IH → RS := fun env ih => bindS env (fo env ih) fun o => bindS env (fk env o.2) fun k => augGet fv env o.1 k.1 k.2
theorem s_augA {o i : Expr} {tpos : Pos} {fo fk : Ev → IH → R (D × IH)} (ho : SE g N lev sc fo o) (hi : SE g N lev sc fk i) (he : SE g N lev sc f e) (hs : ixB i = true) : SS g N lev sc (dAugA fo fk f) (.AugAssign (.Subscript o i tpos) .Add e pos) := fun W X G => by
  refine PS.con (ps_daug (hu_of G.room) (ho W X G) (hi W X G) (he W X G) in_add (fun ov iv new => by cases i <;> first | rfl | cases hs)) fun D' σ H q => ?_
  obtain ⟨F, m, ih, env, hr, er, q⟩ := q
  refine tD_S (k := fun o ih1 => bindS env (fk env ih1) fun k => augGet f env o k.1 k.2) hr er q fun m1 H1 x o ih1 hr1 p1 rx q1 => ?_
  refine tD_S (k := fun k ih2 => augGet f env o k ih2) hr1 (er.post hr p1) q1 fun m2 H2 y k ih2 hr2 p2 ry q2 => ?_
  have rx2 := p2.rd hr1 rx
  have er2 := (er.post hr p1).post hr1 p2
  unfold augGet at q2
  split at q2
  · rename_i iv e1
    obtain ⟨a, r', rfl, dg, od⟩ := dlook_ok hr2 e1 rx2 ry
    cases r' with
    | none => exact od.elim
    | some v =>
      cases (show v = _ from od)
      refine ⟨a, _, rfl, dg, ?_⟩
      refine tD_S (k := fun v ih3 => augFin env o k iv v ih3) hr2 er2 q2 fun m3 H3 z vd ih3 hr3 p3 rz q3 => ?_
      have rx3 := p3.rd hr2 rx2
      have ry3 := p3.rd hr2 ry
      unfold augFin at q3
      split at q3
      · rename_i j
        cases rz
        refine ⟨iv, j, rfl, rfl, ?_⟩
        split at q3
        · rename_i n
          split at q3
          · rename_i ks hc
            obtain ⟨a', ea, hm⟩ := rx3
            cases ea
            obtain ⟨ob, ho', rc⟩ := hr3.cell _ a _ hm hc (by intro z; cases z)
            split at q3
            · rename_i ih' e2
              unfold putC at e2
              simp only [hc] at e2
              split at e2
              · split at e2
                · rename_i kk ek
                  split at e2
                  · rename_i hl
                    cases e2
                    cases ob with
                    | dK kvs =>
                      refine ⟨_, .inl ⟨kvs, kk, ho', toK_rp ek ry3, by rw [SL_eq, RDk.length rc]; exact hl, rfl⟩, ?_⟩
                      have po : Post g.K F m3 ih3 H3 m3 (ih3.set n (.dic (putP ks kk (.pu (.int (iv + j)))))) (upd H3 a (.dK (putK kvs kk (.int (iv + j))))) := Post.write hr3 hm hc (by intro z; cases z) (RDk.put (p := .pu (.int (iv + j))) (v := .int (iv + j)) rfl rc)
                      exact q3 m3 _ σ po ((er2.post hr2 p3).post hr3 po)
                    | _ => exact rc.elim
                  · cases e2
                · cases e2
              · cases e2
            · exact q3.elim
          · exact q3.elim
        · exact q3.elim
      · exact q3.elim
  · exact q2.elim
/-! ### list(d) -/
def listK : List D → IH → R (D × IH)
  | [.pu (.dic ks)], ih => .ok (.pu (.lst (ks.map fun kv => kP kv.1)), ih)
  | _, _ => .stuck
theorem RPk.keys : ∀ {ks : List (Key × P)} {kvs : List (Key × V)}, RPk H B ks kvs → RPs H' B (ks.map fun kv => kP kv.1) (kvs.map fun kv => kV kv.1)
  | [], _, h => by rw [show _ = [] from h]; rfl
  | (k, p) :: ks, _, h => by
    obtain ⟨v, r, rfl, h1, h2⟩ := h
    refine ⟨kV k, _, rfl, ?_, RPk.keys h2⟩
    cases k <;> rfl
theorem listK_ok : CaD g (.type "list") listK := fun N lev sc W X G => by
  refine ⟨_, call_listD G.calm, fun F m ih H σ Q xs ds hr rx h => ?_⟩
  unfold listK at h
  split at h
  · obtain ⟨x, rfl, r1⟩ := rx.one
    obtain ⟨a, o, kvs, rfl, h1, h2⟩ := r1
    exact ⟨a, kvs, rfl, .inr ⟨o, h1⟩, fun l hl => fin_lst hr h h2.keys l hl⟩
  · exact h.elim
def listA : List D → IH → R (D × IH)
  | [.pu (.dic ks)], ih => listK [.pu (.dic ks)] ih
  | ds, ih => listD ds ih
theorem listA_ok : CaD g (.type "list") listA := CaD.or listK_ok listD_ok fun ds ih => by
  unfold listA
  split
  · exact .inl rfl
  · exact .inr rfl
end
end Dn

/-! Dn44: sorted(t) of a tuple. -/
namespace Dn
open PySem PySem.Spec PyProof.Rows L2
section
variable {g : GI}
def rSortT (K : PySem.W.Frag) : List V → Hp → VK → Prop := fun vs H Q => ∃ (a : Addr) (l : List (V × P)), vs = [V.ref a] ∧ SqT K H a (l.map (·.1)) ∧ (∀ q ∈ l, Dp K H q.1 (pd q.2)) ∧ canSort (l.map (·.2)) = true ∧
  ∀ p, H p = none → Q (.ref p) (upd H p (.lst ((isort (fun a b => leP a.2 b.2) l).map (·.1))))
theorem cr_sortT {X : Cx} (hu : X.A.units + 100 < cLine) : CallR X (.builtin "sorted") (rSortT X.K) := by
  intro pins s σ H vs us Q I r h
  obtain ⟨a, l, rfl, hs, hd, hc, q⟩ := h
  obtain ⟨its, rv, ⟨o, ho, hcl, n, hdat⟩, hz⟩ := I.tuple hs
  rw [Vals.ref1 r]
  have csu := canSort_use hc
  have lsz : its.length ≤ sizeLine := by rw [← rv.length]; exact hz
  refine Calls.call_function_entry kind_sorted plain_sorted entry_sorted (args_sorted1 _) ?_
  unfold Builtin.«sorted»
  refine wpAny_bind (m := checkCount "sorted" 1 1 _) (wpAny_pure (wpAny_bind (wpAny_collect_seq (A := X.A.in1) a (.inr rfl) ho hcl hdat (fun h1 k1 => ?_) (by simpa using lsz))))
  show wpAny _ _ (newList its >>= _) _ _ { s with heap := h1 }
  have I1 : Inv X pins σ H { s with heap := h1 } := I.call (ch := []) (Un.kept k1) (I.hok.kept k1) I.bare (fun _ z => nomatch z)
  refine wpAny_bind (wpAny_newList ?_ lsz)
  have here : (h1.push (seqObj "list" its.toArray 0)).get? h1.objs.size = some (seqObj "list" its.toArray 0) := Heap.get?_push_size _ rfl
  have ea := each_vals rv
  have rd := each_reads I1 l its hd ea
  have rd2 : PySem.W.EachIs (fun v (b : V × P) => ∃ as, Reads (h1.push (seqObj "list" its.toArray 0)) v (pd b.2) as ∧ h1.objs.size ∉ as) its l := rd.mono fun v b ⟨as, r⟩ => ⟨as, PyProof.Rows.Reads.keeps (fun _ _ e => Heap.get?_push_of_some _ e) r, fun m => by
    obtain ⟨o, e⟩ := PyProof.On.reads_mem_get r _ m
    exact Nat.lt_irrefl _ (Heap.lt_size e)⟩
  have inb : ∀ d ∈ l.map (fun b => pd b.2), ∃ b ∈ l.map (·.2), d = pd b := fun d hd' => by
    obtain ⟨b, hb, rfl⟩ := List.mem_map.mp hd'
    exact ⟨_, List.mem_map.mpr ⟨b, hb, rfl⟩, rfl⟩
  refine wpAny_bind (wpAny_holding (PySem.W.list_sort_data (s := { s with heap := h1.push (seqObj "list" its.toArray 0) }) (R := fun u (b : V × P) => RelV b.1 u) (bs := l) (enc := fun b => pd b.2) here ea rd2 (fun d hd1 d' hd2 => ?_) ?_ (by rw [← ea.length]; exact lsz) (fun b hb => ?_) fun o2 ho2 he => ?_))
  · obtain ⟨b, hb, rfl⟩ := inb d hd1
    obtain ⟨b', hb', rfl⟩ := inb d' hd2
    exact csu.1 b hb b' hb'
  · rcases csu.2.1 with z | z
    · left
      intro d hd1
      obtain ⟨b, hb, rfl⟩ := inb d hd1
      have z := z b hb
      cases e : pd b with
      | tuple xs =>
        cases xs with
        | nil => rw [e] at z; cases z
        | cons x r => exact ⟨x, r, rfl⟩
      | _ => rw [e] at z; cases z
    · right
      intro d hd1
      obtain ⟨b, hb, rfl⟩ := inb d hd1
      have z := z b hb
      exact ⟨fun e => (by rw [e] at z; cases z), fun xs e => (by rw [e] at z; cases z)⟩
  · have z := SeqAt.depth_of_shaped (csu.2.2 _ (List.mem_map.mpr ⟨b, hb, rfl⟩))
    have : X.A.in1.units + 1 + (pd b.2).depth < cLine := by
      show X.A.units + 1 + 1 + _ < _
      omega
    exact this
  · obtain ⟨c, hcc⟩ := sortedHeap_at (vs := its) (out := o2.toArray) here
    have kept : ∀ b u, h1.get? b = some u → (sortedHeap (h1.push (seqObj "list" its.toArray 0)) h1.objs.size its o2.toArray).get? b = some u := fun b u e => by
      have lt := Heap.lt_size e
      rw [sortedHeap_old (Nat.ne_of_lt lt) (by rw [size_push']; exact Nat.lt_succ_of_lt lt)]
      exact Heap.get?_push_of_some _ e
    have fresh : H h1.objs.size = none := I1.hok.fresh (Nat.le_refl _)
    have em2 : l.mergeSort (PySem.W.dataLe false fun b => pd b.2) = isort (fun a b => leP a.2 b.2) l := (isort_merge (PySem.W.sortLe_total (PyProof.Rows.listOrd PyProof.Rows.itemOrd) false fun q : V × P => PySem.W.keyToks (pd q.2)) l).symm
    rw [em2] at he
    have pm2 := isort_perm (le := fun a b : V × P => leP a.2 b.2) l
    have hl2 : ((isort (fun a b : V × P => leP a.2 b.2) l).map (·.1)).length ≤ sizeLine := by
      rw [List.length_map, pm2.length_eq, ← ea.length]; exact lsz
    have J : Inv X pins σ (upd H h1.objs.size (.lst ((isort (fun a b : V × P => leP a.2 b.2) l).map (·.1)))) { s with heap := sortedHeap (h1.push (seqObj "list" its.toArray 0)) h1.objs.size its o2.toArray } :=
      Inv.call (s := { s with heap := h1 }) (ch := []) I1 (Un.laid kept (Nat.le_refl _) fresh) (I1.hok.laid kept (Nat.le_refl _) ⟨hl2, o2, c, vals_each he, hcc⟩) I1.bare (fun _ z => nomatch z)
    exact wpAny_pure ⟨_, rfl, .ref h1.objs.size, _, J, rfl, q _ fresh⟩
def srtT : List D → IH → R (D × IH)
  | [.pu (.tup ps)], ih => if canSort ps then .ok (.pu (.lst (isort leP ps)), ih) else .stuck
  | _, _ => .stuck
theorem srtT_ok : CaD g (.builtin "sorted") srtT := fun N lev sc W X G => by
  refine ⟨_, cr_sortT (by have := G.room.un; omega), fun F m ih H σ Q xs ds hr rx h => ?_⟩
  unfold srtT at h
  split at h
  · obtain ⟨x, rfl, r1⟩ := rx.one
    split at h
    · rename_i ps c
      obtain ⟨a, vs, rfl, h1, h2⟩ := r1
      obtain ⟨l, e1, e2, e3⟩ := zip_rps h2
      have cs : canSort (l.map (·.2)) = true := by rw [e2]; exact c
      refine ⟨a, l, rfl, by rw [e1]; exact .of h1, fun q hq => ?_, cs, fun p hp => ?_⟩
      · have z := List.all_eq_true.mp (Bool.and_eq_true_iff.mp cs).2 q.2 (List.mem_map_of_mem hq)
        exact dp_of _ _ (e3 q hq) (SeqAt.canLay_of_shaped z)
      · refine fin_lst hr h ?_ p hp
        rw [← e2, ← isort_map (le := fun (a b : V × P) => leP a.2 b.2) (s := leP) (·.2) (fun _ _ => rfl)]
        exact rps_of fun q hq => e3 q ((isort_perm l).mem_iff.mp hq)
    · exact h.elim
  · exact h.elim
def srtA : List D → IH → R (D × IH)
  | [.pu (.tup ps)], ih => srtT [.pu (.tup ps)] ih
  | ds, ih => srtD ds ih
theorem srtA_ok : CaD g (.builtin "sorted") srtA := CaD.or srtT_ok srtD_ok fun ds ih => by
  unfold srtA
  split
  · exact .inl rfl
  · exact .inr rfl
end
end Dn

/-! Dn45: t * 1 of a tuple: the tuple itself. -/
namespace Dn
open PySem PySem.Spec PyProof.Rows L2
theorem tuple_mul1 (l : Addr) (items : Array Value) (n : Nat) (dd : Option Addr) (sl : Array (Option Value)) (u : Tok) :
    Meets (Builtin.«tuple.__mul__» ⟨[.ref l, .int 1 u], []⟩) (fun _ R s => s.heap.get? l = some { cls := .type "tuple", dict := dd, data := .seq items n, slots := sl } ∧ R (.ok (.ret (Value.ref l))) s) :=
  .of_wp fun prog w A R s h => by
    obtain ⟨hp, g, d, tk, os⟩ := s
    obtain ⟨hl, h⟩ := h
    have f1 := AutoSeq1.idx_int
    have c0 : (decide ((1 : Int) < -(2 ^ 63)) || decide ((1 : Int) ≥ 2 ^ 63)) = false := by decide
    have c1 : (items.isEmpty || (1 : Int) == 1) = true := by simp
    wp_walk using wpAny_loadPart' hl
    repeat (first
      | (refine wpAny_ite_false (decide_eq_false (by rw [c0]; exact Bool.false_ne_true)) ?_; wp_walk using wpAny_loadPart' hl)
      | (refine wpAny_ite_true (decide_eq_true c1) ?_; wp_walk using wpAny_loadPart' hl))
    exact ⟨_, rfl, h⟩
def rRep1 (K : PySem.W.Frag) : R2 := fun x y H Q => ∃ l xs, x = .ref l ∧ y = .int 1 ∧ SqT K H l xs ∧ Q (.ref l) H
theorem op_rep1 {X : Cx} : OpR X (binaryOp .Mult) (rRep1 X.K) := by
  intro pins s σ H x y v u Q I rx ry h
  obtain ⟨l, xs, rfl, rfl, hT, q⟩ := h
  cases rx
  obtain ⟨t, rfl⟩ := ry
  obtain ⟨its, r, ⟨⟨cls, dd, data, sl⟩, ho, hc, n, hd⟩, hs⟩ := I.tuple hT
  simp only at hc hd
  subst hc hd
  refine wpAny_binaryOp_repeat_ref (T := "tuple") (U := "int") (by decide) ⟨_, ho, rfl⟩ (fun s' => typeIs_int s' 1 t) noFill_tuple_mul F.fills_int_mul F.slot_int_rmul repeat_tuple F.slot_int_index.lookup
    (call_meets F.slot_int_rmul (typeIs_int s 1 t) F.entry_int_rmul (F.args_int_rmul_2 _ _) (int_rmul_tuple 1 t l its.toArray n dd sl)
      ⟨ho, rfl, ⟨_, ho, rfl⟩, call_meets F.slot_tuple_mul ⟨_, ho, rfl⟩ F.entry_tuple_mul (F.args_tuple_mul_2 _ _) (tuple_mul1 l its.toArray n dd sl t) ⟨ho, ?_⟩⟩)
  exact ⟨.ref l, H, I, rfl, q⟩
def mul1 : D → D → IH → R (D × IH)
  | .pu (.tup x), .pu (.int k), ih => if k = 1 then .ok (.pu (.tup x), ih) else .stuck
  | _, _, _ => .stuck
theorem mul1_ok {g : GI} : OpD g (binaryOp .Mult) mul1 := fun N lev sc W X G => by
  refine ⟨_, op_rep1, fun F m ih H σ Q x y d1 d2 hr rx ry h => ?_⟩
  unfold mul1 at h
  split at h
  · obtain ⟨a, vs, rfl, ha, ra⟩ := rx
    cases ry
    split at h
    · rename_i z
      subst z
      exact ⟨_, _, rfl, rfl, .of ha, fin_pu hr h ⟨a, vs, rfl, ha, ra⟩⟩
    · exact h.elim
  · exact h.elim
def mulA : D → D → IH → R (D × IH)
  | .pu (.tup x), .pu (.int k), ih => if k = 1 then mul1 (.pu (.tup x)) (.pu (.int k)) ih else mulD (.pu (.tup x)) (.pu (.int k)) ih
  | a, b, ih => mulD a b ih
theorem mulA_ok {g : GI} : OpD g (binaryOp .Mult) mulA := OpD.or mul1_ok mulD_ok fun a b ih => by
  unfold mulA
  split
  · split
    · exact .inl rfl
    · exact .inr rfl
  · exact .inr rfl
end Dn

/-! Dn46: denotations at known values: calls, comprehensions, tables. -/
namespace Dn
open PySem PySem.Spec PyProof.Rows L2
section
variable {env env' : Ev} {ih ih' : IH} {f f1 f2 f3 h : Ev → IH → R (D × IH)} {fs : List (Ev → IH → R (D × IH))} {φ : List D → IH → R (D × IH)} {p q p1 p2 p3 : P} {d d1 d2 d3 : D}
theorem pf_at {ds : List D} (e : φ ds [] = .ok (.pu p, ih)) : pf φ ds = some p := by
  unfold pf; rw [e]; rfl
theorem dFn_rt {n : Nat} {b : Ev → IH → RS} {ds : List D} (e : b (ent n ds) ih = .rt d ih') : dFn n b ds ih = .ok (d, ih') := by
  unfold dFn; rw [e]
theorem dFn_nx {n : Nat} {b : Ev → IH → RS} {ds : List D} (e : b (ent n ds) ih = .nx env' ih') : dFn n b ds ih = .ok (.pu .non, ih') := by
  unfold dFn; rw [e]
theorem dArgs1 (e : f env ih = .ok (d, ih')) : dArgs [f] env ih = .ok ([d], ih') := by
  unfold dArgs; rw [e]; rfl
theorem dArgs2 {ih1 : IH} (e : f env ih = .ok (d, ih1)) (e2 : h env ih1 = .ok (d2, ih')) : dArgs [f, h] env ih = .ok ([d, d2], ih') := by
  unfold dArgs; rw [e]; show (dArgs [h] env ih1).bind _ = _; rw [dArgs1 e2]; rfl
theorem dArgs3 {ih1 ih2 : IH} (e : f1 env ih = .ok (d1, ih1)) (e2 : f2 env ih1 = .ok (d2, ih2)) (e3 : f3 env ih2 = .ok (d3, ih')) : dArgs [f1, f2, f3] env ih = .ok ([d1, d2, d3], ih') := by
  unfold dArgs; rw [e]; show (dArgs [f2, f3] env ih1).bind _ = _; rw [dArgs2 e2 e3]; rfl
theorem dCallP1 (e : f env ih = .ok (.pu p, ih)) (e2 : pf φ [.pu p] = some q) : dCallP 1 φ [] [f] env ih = .ok (.pu q, ih) := by
  unfold dCallP; rw [dArgs1 e]
  show (match pf φ [.pu p] with | some p => R.ok (D.pu p, ih) | none => .stuck) = _
  rw [e2]
theorem dCallP2 (e : f1 env ih = .ok (.pu p1, ih)) (e2 : f2 env ih = .ok (.pu p2, ih)) (e3 : pf φ [.pu p1, .pu p2] = some q) : dCallP 2 φ [] [f1, f2] env ih = .ok (.pu q, ih) := by
  unfold dCallP; rw [dArgs2 e e2]
  show (match pf φ [.pu p1, .pu p2] with | some p => R.ok (D.pu p, ih) | none => .stuck) = _
  rw [e3]
theorem dCallP3 (e : f1 env ih = .ok (.pu p1, ih)) (e2 : f2 env ih = .ok (.pu p2, ih)) (e3 : f3 env ih = .ok (.pu p3, ih)) (e4 : pf φ [.pu p1, .pu p2, .pu p3] = some q) : dCallP 3 φ [] [f1, f2, f3] env ih = .ok (.pu q, ih) := by
  unfold dCallP; rw [dArgs3 e e2 e3]
  show (match pf φ [.pu p1, .pu p2, .pu p3] with | some p => R.ok (D.pu p, ih) | none => .stuck) = _
  rw [e4]
theorem dNot_at {b : Bool} (e : f env ih = .ok (.pu (.bl b), ih)) : dNot f env ih = .ok (.pu (.bl (!b)), ih) := by
  unfold dNot; rw [e]; rfl
theorem dOr_at {b : Bool} (e : f env ih = .ok (.pu (.bl b), ih)) : dOr f h env ih = if b then .ok (.pu (.bl true), ih) else h env ih := by
  unfold dOr; rw [e]; cases b <;> rfl
theorem dExpr_at (e : f env ih = .ok (d, ih')) : dExpr f env ih = .nx env ih' := by
  unfold dExpr; rw [e]; rfl
/-! ### comprehensions that write nothing -/
theorem lcL_at {α : Type} {hh : P → Ev → Option Ev} {t : Option (Ev → IH → R (D × IH))} {e : Ev → IH → R (D × IH)} (c : α → P) (E : α → Ev) (b : α → Bool) (v : α → P) : ∀ (l : List α), (∀ a ∈ l, hh (c a) env = some (E a)) → (∀ a ∈ l, dTests t (E a) ih = .ok (b a, ih)) → (∀ a ∈ l, b a = true → e (E a) ih = .ok (.pu (v a), ih)) →
    dLcL hh t e env (l.map c) ih = .ok (((l.filter b).map v).map .pu, ih)
  | [], _, _, _ => rfl
  | a :: l, h1, h2, h3 => by
    have r := lcL_at c E b v l (fun x hx => h1 x (.tail _ hx)) (fun x hx => h2 x (.tail _ hx)) (fun x hx => h3 x (.tail _ hx))
    rw [List.map_cons, dLcL, h1 a (.head _)]
    simp only [h2 a (.head _), R.bind]
    cases hb : b a with
    | false => simp only [List.filter_cons, hb]; exact r
    | true =>
      simp only [h3 a (.head _) hb, noX, r, List.filter_cons, hb, if_true]
      rfl
theorem allPu_pus : ∀ ps : List P, allPu (ps.map .pu) = some ps
  | [] => rfl
  | p :: ps => by
    show (allPu (ps.map .pu)).map (p :: ·) = _
    rw [allPu_pus ps]; rfl
theorem lc_at {α : Type} {hh : P → Ev → Option Ev} {src : Ev → IH → R (List P × IH)} {t : Option (Ev → IH → R (D × IH))} {e : Ev → IH → R (D × IH)} {vs : List Nat} {c : α → P} {l : List α} (E : α → Ev) (b : α → Bool) (v : α → P) (hs : src env ih = .ok (l.map c, ih)) (hl : l.length ≤ SL) (h1 : ∀ a ∈ l, hh (c a) (wipeE vs env) = some (E a)) (h2 : ∀ a ∈ l, dTests t (E a) ih = .ok (b a, ih)) (h3 : ∀ a ∈ l, b a = true → e (E a) ih = .ok (.pu (v a), ih)) :
    dLc false hh src t e vs env ih = .ok (.pu (.lst ((l.filter b).map v)), ih) := by
  unfold dLc; rw [hs]
  show (if (l.map c).length ≤ SL then (match okR (dLcL hh t e (wipeE vs env) (l.map c) ih) with | some y => lcEnd false y.1 y.2 | none => R.stuck) else .stuck) = _
  rw [List.length_map, if_pos hl, lcL_at c E b v l h1 h2 h3]
  show (match allPu (((l.filter b).map v).map .pu) with | some ps => R.ok (D.pu (.lst ps), ih) | none => .stuck) = _
  rw [allPu_pus]
/-- without a test -/
theorem lc_all {α : Type} {hh : P → Ev → Option Ev} {src : Ev → IH → R (List P × IH)} {e : Ev → IH → R (D × IH)} {vs : List Nat} {c : α → P} {l : List α} (E : α → Ev) (v : α → P) (hs : src env ih = .ok (l.map c, ih)) (hl : l.length ≤ SL) (h1 : ∀ a ∈ l, hh (c a) (wipeE vs env) = some (E a)) (h3 : ∀ a ∈ l, e (E a) ih = .ok (.pu (v a), ih)) :
    dLc false hh src none e vs env ih = .ok (.pu (.lst (l.map v)), ih) := by
  have r := lc_at (t := none) E (fun _ => true) v hs hl h1 (fun _ _ => rfl) (fun a ha _ => h3 a ha)
  rw [r, List.filter_eq_self.mpr (fun _ _ => rfl)]
theorem tests_at {t : Ev → IH → R (D × IH)} {b : Bool} (e : t env ih = .ok (.pu (.bl b), ih)) : dTests (some t) env ih = .ok (b, ih) := by
  show ((noX (t env ih)).bind fun r => match truD r.1 r.2 with | some b => .ok (b, r.2) | none => .stuck) = _
  rw [e]; rfl
/-! ### tables by names -/
theorem lk_map {α β : Type} {k : α → Key} {v : α → β} : ∀ {l : List α}, (l.map k).Nodup → ∀ {a : α}, a ∈ l → lk (l.map fun a => (k a, v a)) (k a) = some (v a)
  | [], _, a, h => by cases h
  | x :: l, nd, a, h => by
    rw [List.map_cons, lk_cons]
    rw [List.map_cons, List.nodup_cons] at nd
    rcases List.mem_cons.mp h with e | h
    · rw [e, if_pos rfl]
    · have : k x ≠ k a := fun z => nd.1 (by rw [z]; exact List.mem_map_of_mem h)
      rw [if_neg this]; exact lk_map nd.2 h
theorem lk_none {α β : Type} {k : α → Key} {v : α → β} {x : Key} : ∀ {l : List α}, x ∉ l.map k → lk (l.map fun a => (k a, v a)) x = none
  | [], _ => rfl
  | a :: l, h => by
    rw [List.map_cons, List.mem_cons, not_or] at h
    rw [List.map_cons, lk_cons, if_neg (Ne.symm h.1)]; exact lk_none h.2
theorem putP_new {κ α : Type} [DecidableEq κ] {kvs : List (κ × α)} {k : κ} {v : α} (h : k ∉ kvs.map (·.1)) : putP kvs k v = kvs ++ [(k, v)] := by
  unfold putP
  rw [if_neg]
  intro z
  obtain ⟨x, hx, e⟩ := List.any_eq_true.mp z
  exact h (by rw [← of_decide_eq_true e]; exact List.mem_map_of_mem hx)
theorem lk_put {κ α : Type} [DecidableEq κ] {kvs : List (κ × α)} {k x : κ} {v : α} : lk (putP kvs k v) x = if k = x then some v else lk kvs x := by
  unfold putP
  split
  · rename_i z
    obtain ⟨y, hy, e⟩ := List.any_eq_true.mp z
    have e := of_decide_eq_true e
    clear z
    induction kvs with
    | nil => cases hy
    | cons a kvs ihk =>
      rw [List.map_cons, lk_cons (r := kvs)]
      by_cases ha : a.1 = k
      · rw [if_pos ha, show (a.1, v) = (a.1, v) from rfl, lk_cons, ha]
        by_cases hx : k = x
        · rw [if_pos hx, if_pos hx]
        · rw [if_neg hx, if_neg hx, if_neg hx]
          clear hy e
          have : ∀ l : List (κ × α), lk (l.map fun kv => if kv.1 = k then (kv.1, v) else kv) x = lk l x := fun l => by
            induction l with
            | nil => rfl
            | cons b l e =>
              rw [List.map_cons]
              by_cases hb : b.1 = k
              · rw [if_pos hb, lk_cons, lk_cons (r := l), if_neg (by rw [hb]; exact hx), if_neg (by rw [hb]; exact hx), e]
              · rw [if_neg hb, lk_cons (r := l), show b = (b.1, b.2) from rfl, lk_cons, e]
          exact this kvs
      · have hy' : y ∈ kvs := by
          rcases List.mem_cons.mp hy with z | z
          · rw [z] at e; exact absurd e ha
          · exact z
        rw [if_neg ha, show a = (a.1, a.2) from rfl, lk_cons, ihk hy']
        by_cases hx : a.1 = x
        · rw [if_pos hx, if_pos hx, if_neg (fun z => ha (hx.trans z.symm))]
        · rw [if_neg hx, if_neg hx]
  · rename_i z
    have hk : ∀ a ∈ kvs, a.1 ≠ k := fun a ha e => z (List.any_eq_true.mpr ⟨a, ha, decide_eq_true e⟩)
    clear z
    induction kvs with
    | nil => rw [List.nil_append, lk_cons]
    | cons a kvs ihk =>
      rw [List.cons_append, lk_cons (r := kvs ++ _), lk_cons (r := kvs), ihk fun b hb => hk b (.tail _ hb)]
      by_cases hx : a.1 = x
      · rw [if_pos hx, if_pos hx, if_neg (fun z => hk a (.head _) (hx.trans z.symm))]
      · rw [if_neg hx, if_neg hx]
/-- a dict comprehension whose keys are unlike -/
theorem dcL_at {α : Type} {hh : P → Ev → Option Ev} {fk fv : Ev → IH → R (D × IH)} (c : α → P) (E : α → Ev) (k : α → P) (kk : α → Key) (v : α → P) : ∀ (l : List α) (acc : List (Key × D)), (∀ a ∈ l, hh (c a) env = some (E a)) → (∀ a ∈ l, fk (E a) ih = .ok (.pu (k a), ih)) → (∀ a ∈ l, toK (k a) = some (kk a)) → (∀ a ∈ l, fv (E a) ih = .ok (.pu (v a), ih)) → (l.map kk).Nodup → (∀ a ∈ l, kk a ∉ acc.map (·.1)) →
    dDcL hh none fk fv env (l.map c) acc ih = .ok (acc ++ l.map (fun a => (kk a, D.pu (v a))), ih)
  | [], acc, _, _, _, _, _, _ => by simp [dDcL]
  | a :: l, acc, h1, h2, h3, h4, nd, h5 => by
    rw [List.map_cons, List.nodup_cons] at nd
    rw [List.map_cons, dDcL, h1 a (.head _)]
    simp only [dTests, R.bind, h2 a (.head _), noX, keyD, h3 a (.head _), h4 a (.head _)]
    rw [putP_new (h5 a (.head _)), dcL_at c E k kk v l _ (fun x hx => h1 x (.tail _ hx)) (fun x hx => h2 x (.tail _ hx)) (fun x hx => h3 x (.tail _ hx)) (fun x hx => h4 x (.tail _ hx)) nd.2 fun x hx => ?_]
    · simp
    · rw [List.map_append, List.mem_append, not_or]
      refine ⟨h5 x (.tail _ hx), ?_⟩
      simp only [List.map_cons, List.map_nil, List.mem_singleton]
      exact fun z => nd.1 (by rw [← z]; exact List.mem_map_of_mem hx)
theorem frzK_pus : ∀ (k : Nat) (ih : IH) (l : List (Key × P)), frzK (frz k) ih (l.map fun a => (a.1, D.pu a.2)) = some (l, ih)
  | _, _, [] => rfl
  | k, ih, a :: l => by
    have e : frz k ih (.pu a.2) = some (a.2, ih) := by cases k <;> rfl
    rw [List.map_cons, frzK, e]
    simp only [frzK_pus k ih l]
    rfl
theorem frzL_pus : ∀ (k : Nat) (ih : IH) (l : List P), frzL (frz k) ih (l.map .pu) = some (l, ih)
  | _, _, [] => rfl
  | k, ih, a :: l => by
    have e : frz k ih (.pu a) = some (a, ih) := by cases k <;> rfl
    rw [List.map_cons, frzL, e]
    simp only [frzL_pus k ih l]
    rfl
theorem frz_dic {n : Nat} {l : List (Key × P)} (h : ih[n]? = some (.dic (l.map fun a => (a.1, D.pu a.2)))) : frz 8 ih (.ref n) = some (.dic l, ih.set n .dead) := by
  unfold frz; simp only [h]
  show (frzK (frz 7) (ih.set n .dead) _).map (fun r => (P.dic r.1, r.2)) = _
  rw [frzK_pus]; rfl
theorem frz_lst {n : Nat} {l : List P} (h : ih[n]? = some (.lst (l.map .pu))) : frz 8 ih (.ref n) = some (.lst l, ih.set n .dead) := by
  unfold frz; simp only [h]
  show (frzL (frz 7) (ih.set n .dead) _).map (fun r => (P.lst r.1, r.2)) = _
  rw [frzL_pus]; rfl
/-- a dict comprehension, frozen -/
theorem dcF_at {α : Type} {hh : P → Ev → Option Ev} {src : Ev → IH → R (List P × IH)} {fk fv : Ev → IH → R (D × IH)} {vs : List Nat} {c : α → P} {l : List α} (E : α → Ev) (k : α → P) (kk : α → Key) (v : α → P) (hs : src env ih = .ok (l.map c, ih)) (hl : l.length ≤ SL) (h1 : ∀ a ∈ l, hh (c a) (wipeE vs env) = some (E a)) (h2 : ∀ a ∈ l, fk (E a) ih = .ok (.pu (k a), ih)) (h3 : ∀ a ∈ l, toK (k a) = some (kk a)) (h4 : ∀ a ∈ l, fv (E a) ih = .ok (.pu (v a), ih)) (nd : (l.map kk).Nodup) :
    dFz (dDc hh src none fk fv vs) env ih = .ok (.pu (.dic (l.map fun a => (kk a, v a))), ih ++ [.dead]) := by
  have e : dDc hh src none fk fv vs env ih = .ok (.ref ih.length, ih ++ [.dic (l.map fun a => (kk a, D.pu (v a)))]) := by
    unfold dDc; rw [hs]
    show (if (l.map c).length ≤ SL then (match okR (dDcL hh none fk fv (wipeE vs env) (l.map c) [] ih) with | some y => R.ok (D.ref y.2.length, y.2 ++ [Cl.dic y.1]) | none => .stuck) else .stuck) = _
    rw [List.length_map, if_pos hl, dcL_at c E k kk v l [] h1 h2 h3 h4 nd (fun a _ z => by cases z)]
    rfl
  unfold dFz; rw [e]
  show (match frz 8 (ih ++ [Cl.dic (l.map fun a => (kk a, D.pu (v a)))]) (.ref ih.length) with | some (p, ih') => R.ok (D.pu p, ih') | none => .stuck) = _
  have e2 : (ih ++ [Cl.dic (l.map fun a => (kk a, D.pu (v a)))])[ih.length]? = some (.dic ((l.map fun a => (kk a, v a)).map fun a => (a.1, D.pu a.2))) := by simp [List.map_map, Function.comp_def]
  rw [frz_dic e2]
  simp
end
end Dn

set_option maxHeartbeats 0
namespace LawP
open PySem PySem.Spec PyProof.Rows L2 Dn
def top (i : Nat) : Stmt := PySem.Challenge.pw_roomrings_k22_whole_ends.main.body.getD i (.Pass ⟨0, 0, 0, 0⟩)
def d_0 : He.DefD := ⟨("names_in", none), "names_in", "names_in", defArgs (top 1), defBody (top 1), defScope (top 1), [], []⟩
def d_1 : He.DefD := ⟨("parents_by", none), "parents_by", "parents_by", defArgs (top 2), defBody (top 2), defScope (top 2), [], []⟩
def d_2 : He.DefD := ⟨("rooms_by", none), "rooms_by", "rooms_by", defArgs (top 3), defBody (top 3), defScope (top 3), [], []⟩
def d_3 : He.DefD := ⟨("ways_by", none), "ways_by", "ways_by", defArgs (top 4), defBody (top 4), defScope (top 4), [], []⟩
def d_4 : He.DefD := ⟨("counts_by", none), "counts_by", "counts_by", defArgs (top 5), defBody (top 5), defScope (top 5), [], []⟩
def d_5 : He.DefD := ⟨("uses_by", none), "uses_by", "uses_by", defArgs (top 6), defBody (top 6), defScope (top 6), [], []⟩
def d_6 : He.DefD := ⟨("frees_by", none), "frees_by", "frees_by", defArgs (top 7), defBody (top 7), defScope (top 7), [], []⟩
def d_7 : He.DefD := ⟨("stand_by", none), "stand_by", "stand_by", defArgs (top 9), defBody (top 9), defScope (top 9), [], []⟩
def d_8 : He.DefD := ⟨("is_integer", none), "is_integer", "is_integer", defArgs (top 17), defBody (top 17), defScope (top 17), [], []⟩
def d_9 : He.DefD := ⟨("is_number", none), "is_number", "is_number", defArgs (top 18), defBody (top 18), defScope (top 18), [], []⟩
def d_10 : He.DefD := ⟨("is_name", none), "is_name", "is_name", defArgs (top 19), defBody (top 19), defScope (top 19), [], []⟩
def d_11 : He.DefD := ⟨("is_spot", none), "is_spot", "is_spot", defArgs (top 20), defBody (top 20), defScope (top 20), [], []⟩
def d_12 : He.DefD := ⟨("is_pair", none), "is_pair", "is_pair", defArgs (top 21), defBody (top 21), defScope (top 21), [], []⟩
def d_13 : He.DefD := ⟨("is_triple", none), "is_triple", "is_triple", defArgs (top 22), defBody (top 22), defScope (top 22), [], []⟩
def d_14 : He.DefD := ⟨("is_folder", none), "is_folder", "is_folder", defArgs (top 23), defBody (top 23), defScope (top 23), [], []⟩
def d_15 : He.DefD := ⟨("is_move", none), "is_move", "is_move", defArgs (top 24), defBody (top 24), defScope (top 24), [], []⟩
def d_16 : He.DefD := ⟨("first_ringed", none), "first_ringed", "first_ringed", defArgs (top 26), defBody (top 26), defScope (top 26), [], []⟩
def d_17 : He.DefD := ⟨("first_unparented", none), "first_unparented", "first_unparented", defArgs (top 27), defBody (top 27), defScope (top 27), [], []⟩
def d_18 : He.DefD := ⟨("tree_fault", none), "tree_fault", "tree_fault", defArgs (top 28), defBody (top 28), defScope (top 28), [], []⟩
def d_19 : He.DefD := ⟨("stand_fault", none), "stand_fault", "stand_fault", defArgs (top 29), defBody (top 29), defScope (top 29), [], []⟩
def d_20 : He.DefD := ⟨("is_move_of", none), "is_move_of", "is_move_of", defArgs (top 30), defBody (top 30), defScope (top 30), [], []⟩
def d_21 : He.DefD := ⟨("moves_fault", none), "moves_fault", "moves_fault", defArgs (top 31), defBody (top 31), defScope (top 31), [], []⟩
def d_22 : He.DefD := ⟨("lot_fault", none), "lot_fault", "lot_fault", defArgs (top 32), defBody (top 32), defScope (top 32), [], []⟩
def d_23 : He.DefD := ⟨("want", none), "want", "want", defArgs (top 34), defBody (top 34), defScope (top 34), [.int (-1)], []⟩
def d_24 : He.DefD := ⟨("want_tree", none), "want_tree", "want_tree", defArgs (top 35), defBody (top 35), defScope (top 35), [], []⟩
def d_25 : He.DefD := ⟨("want_stand", none), "want_stand", "want_stand", defArgs (top 36), defBody (top 36), defScope (top 36), [], []⟩
def d_26 : He.DefD := ⟨("want_lot", none), "want_lot", "want_lot", defArgs (top 37), defBody (top 37), defScope (top 37), [], []⟩
def d_27 : He.DefD := ⟨("want_case", none), "want_case", "want_case", defArgs (top 38), defBody (top 38), defScope (top 38), [], []⟩
def d_28 : He.DefD := ⟨("want_lots", none), "want_lots", "want_lots", defArgs (top 39), defBody (top 39), defScope (top 39), [], []⟩
def d_29 : He.DefD := ⟨("counts_at", none), "counts_at", "counts_at", defArgs (top 41), defBody (top 41), defScope (top 41), [], []⟩
def d_30 : He.DefD := ⟨("misfits_at", none), "misfits_at", "misfits_at", defArgs (top 42), defBody (top 42), defScope (top 42), [], []⟩
def d_31 : He.DefD := ⟨("end_counts", none), "end_counts", "end_counts", defArgs (top 44), defBody (top 44), defScope (top 44), [], []⟩
def d_32 : He.DefD := ⟨("misfits", none), "misfits", "misfits", defArgs (top 45), defBody (top 45), defScope (top 45), [], []⟩
def d_33 : He.DefD := ⟨("fits", none), "fits", "fits", defArgs (top 46), defBody (top 46), defScope (top 46), [], []⟩
def d_34 : He.DefD := ⟨("_law_feed", none), "_law_feed", "_law_feed", defArgs (top 48), defBody (top 48), defScope (top 48), [], []⟩
def d_35 : He.DefD := ⟨("_law_draw", none), "_law_draw", "_law_draw", defArgs (top 49), defBody (top 49), defScope (top 49), [], []⟩
def d_36 : He.DefD := ⟨("_law_any", none), "_law_any", "_law_any", defArgs (top 50), defBody (top 50), defScope (top 50), [], []⟩
def d_37 : He.DefD := ⟨("_law_wood", none), "_law_wood", "_law_wood", defArgs (top 51), defBody (top 51), defScope (top 51), [], []⟩
def d_38 : He.DefD := ⟨("_law_around", none), "_law_around", "_law_around", defArgs (top 52), defBody (top 52), defScope (top 52), [], []⟩
def d_39 : He.DefD := ⟨("_law_use", none), "_law_use", "_law_use", defArgs (top 53), defBody (top 53), defScope (top 53), [], []⟩
def d_40 : He.DefD := ⟨("_law_uses", none), "_law_uses", "_law_uses", defArgs (top 54), defBody (top 54), defScope (top 54), [], []⟩
def d_41 : He.DefD := ⟨("_law_case", none), "_law_case", "_law_case", defArgs (top 55), defBody (top 55), defScope (top 55), [], []⟩
def d_42 : He.DefD := ⟨("_law_pack", none), "_law_pack", "_law_pack", defArgs (top 56), defBody (top 56), defScope (top 56), [], []⟩
def d_43 : He.DefD := ⟨("_law_enters", none), "_law_enters", "_law_enters", defArgs (top 57), defBody (top 57), defScope (top 57), [], []⟩
def d_44 : He.DefD := ⟨("_law_leaves", none), "_law_leaves", "_law_leaves", defArgs (top 58), defBody (top 58), defScope (top 58), [], []⟩
def d_45 : He.DefD := ⟨("_law_moved", none), "_law_moved", "_law_moved", defArgs (top 59), defBody (top 59), defScope (top 59), [], []⟩
def d_46 : He.DefD := ⟨("_law_end", none), "_law_end", "_law_end", defArgs (top 60), defBody (top 60), defScope (top 60), [], []⟩
def d_47 : He.DefD := ⟨("_law_same", none), "_law_same", "_law_same", defArgs (top 61), defBody (top 61), defScope (top 61), [], []⟩
def d_48 : He.DefD := ⟨("_law_is_right", none), "_law_is_right", "_law_is_right", defArgs (top 62), defBody (top 62), defScope (top 62), [], []⟩
def d_49 : He.DefD := ⟨("_law_hand_right", none), "_law_hand_right", "_law_hand_right", defArgs (top 63), defBody (top 63), defScope (top 63), [], []⟩
def d_50 : He.DefD := ⟨("law", none), "law", "law", defArgs (top 64), defBody (top 64), defScope (top 64), [], []⟩
def fn0 : List He.DefD := [d_0, d_1, d_2, d_3, d_4, d_5, d_6, d_7, d_8, d_9, d_10, d_11, d_12, d_13, d_14, d_15, d_16, d_17, d_18, d_19, d_20, d_21, d_22, d_23, d_24, d_25, d_26, d_27, d_28, d_29]
def fn1 : List He.DefD := [d_30, d_31, d_32, d_33, d_34, d_35, d_36, d_37, d_38, d_39, d_40, d_41, d_42, d_43, d_44, d_45, d_46, d_47, d_48, d_49, d_50]
def fn : List He.DefD := fn0 ++ fn1
def fa0 : List He.Fa := [.glo "names_in", .glo "parents_by", .glo "rooms_by", .glo "ways_by", .glo "counts_by", .glo "uses_by", .glo "frees_by", .glo "stand_by", .glo "is_integer", .glo "is_number", .glo "is_name", .glo "is_spot", .glo "is_pair", .glo "is_triple", .glo "is_folder", .glo "is_move", .glo "first_ringed", .glo "first_unparented", .glo "tree_fault", .glo "stand_fault", .glo "is_move_of", .glo "moves_fault", .glo "lot_fault", .glo "want", .glo "want_tree", .glo "want_stand", .glo "want_lot", .glo "want_case", .glo "want_lots", .glo "counts_at"]
def fa1 : List He.Fa := [.glo "misfits_at", .glo "end_counts", .glo "misfits", .glo "fits", .glo "_law_feed", .glo "_law_draw", .glo "_law_any", .glo "_law_wood", .glo "_law_around", .glo "_law_use", .glo "_law_uses", .glo "_law_case", .glo "_law_pack", .glo "_law_enters", .glo "_law_leaves", .glo "_law_moved", .glo "_law_end", .glo "_law_same", .glo "_law_is_right", .glo "_law_hand_right", .glo "law", .str "LETTERS" "abcdefghijklmnopqrstuvwxyz", .int "MOST_LETTERS" (8), .free "all", .free "bool", .free "dict", .free "enumerate", .free "int", .free "isinstance", .free "len"]
def fa2 : List He.Fa := [.free "list", .free "range", .free "repr", .free "set", .free "sorted", .free "str", .free "sum", .free "tuple", .free "zip"]
def fa : List He.Fa := fa0 ++ fa1 ++ fa2
def lo0 : List Str := ["names_in", "parents_by", "rooms_by", "ways_by", "counts_by", "uses_by", "frees_by", "stand_by", "is_integer", "is_number", "is_name", "is_spot", "is_pair", "is_triple", "is_folder", "is_move", "first_ringed", "first_unparented", "tree_fault", "stand_fault", "is_move_of", "moves_fault", "lot_fault", "want", "want_tree", "want_stand", "want_lot", "want_case", "want_lots", "counts_at"]
def lo1 : List Str := ["misfits_at", "end_counts", "misfits", "fits", "_law_feed", "_law_draw", "_law_any", "_law_wood", "_law_around", "_law_use", "_law_uses", "_law_case", "_law_pack", "_law_enters", "_law_leaves", "_law_moved", "_law_end", "_law_same", "_law_is_right", "_law_hand_right", "RoomError", "TreeError", "NotUsable", "LETTERS", "MOST_LETTERS"]
def lo : List Str := lo0 ++ lo1
abbrev Rw : PySem.W.OpenRow := PySem.W.OpenLaw.row PySem.Challenge.rw_roomrings_k22_whole_ends
def ex : List ((Str × Option Str) × Nat) := []
abbrev hk : PySem.W.Hook := Dn.hookE 4 fa fn ex
def ob (s : PySem.W.SharedT) : He.AlD × Bool := Dn.obsEG 4 fa fn ex (HandSHeadRun.getT s)
theorem ob_eq (s : PySem.W.SharedT) : ob s = hk.obs s.abs := Dn.obsEG_eq (HandSHeadRun.getT_eq s)
theorem headRun (w : World) : HandSHeadRun.RunEq Rw (PySem.W.view Rw.prog [64]) hk ob 6000 lo w := by intro os; kernel_rfl
structure All (g : GI) : Prop where
  prog : g.P = PySem.Challenge.pw_roomrings_k22_whole_ends
  n_all : g.mg "all" = none
  n_bool : g.mg "bool" = none
  n_dict : g.mg "dict" = none
  n_enumerate : g.mg "enumerate" = none
  n_int : g.mg "int" = none
  n_isinstance : g.mg "isinstance" = none
  n_len : g.mg "len" = none
  n_list : g.mg "list" = none
  n_range : g.mg "range" = none
  n_repr : g.mg "repr" = none
  n_set : g.mg "set" = none
  n_sorted : g.mg "sorted" = none
  n_str : g.mg "str" = none
  n_sum : g.mg "sum" = none
  n_tuple : g.mg "tuple" = none
  n_zip : g.mg "zip" = none
  c_LETTERS : ∃ t, g.mg "LETTERS" = some (.str "abcdefghijklmnopqrstuvwxyz" t)
  c_MOST_LETTERS : ∃ t, g.mg "MOST_LETTERS" = some (.int (8) t)
  d_names_in : ∃ f fd, FunD g.K "names_in" "names_in" (defArgs (top 1)) (defBody (top 1)) (defScope (top 1)) (d_0.dvs g.K) (d_0.kws g.K) f fd ∧ g.mg "names_in" = some (.ref f)
  d_parents_by : ∃ f fd, FunD g.K "parents_by" "parents_by" (defArgs (top 2)) (defBody (top 2)) (defScope (top 2)) (d_1.dvs g.K) (d_1.kws g.K) f fd ∧ g.mg "parents_by" = some (.ref f)
  d_rooms_by : ∃ f fd, FunD g.K "rooms_by" "rooms_by" (defArgs (top 3)) (defBody (top 3)) (defScope (top 3)) (d_2.dvs g.K) (d_2.kws g.K) f fd ∧ g.mg "rooms_by" = some (.ref f)
  d_ways_by : ∃ f fd, FunD g.K "ways_by" "ways_by" (defArgs (top 4)) (defBody (top 4)) (defScope (top 4)) (d_3.dvs g.K) (d_3.kws g.K) f fd ∧ g.mg "ways_by" = some (.ref f)
  d_counts_by : ∃ f fd, FunD g.K "counts_by" "counts_by" (defArgs (top 5)) (defBody (top 5)) (defScope (top 5)) (d_4.dvs g.K) (d_4.kws g.K) f fd ∧ g.mg "counts_by" = some (.ref f)
  d_uses_by : ∃ f fd, FunD g.K "uses_by" "uses_by" (defArgs (top 6)) (defBody (top 6)) (defScope (top 6)) (d_5.dvs g.K) (d_5.kws g.K) f fd ∧ g.mg "uses_by" = some (.ref f)
  d_frees_by : ∃ f fd, FunD g.K "frees_by" "frees_by" (defArgs (top 7)) (defBody (top 7)) (defScope (top 7)) (d_6.dvs g.K) (d_6.kws g.K) f fd ∧ g.mg "frees_by" = some (.ref f)
  d_stand_by : ∃ f fd, FunD g.K "stand_by" "stand_by" (defArgs (top 9)) (defBody (top 9)) (defScope (top 9)) (d_7.dvs g.K) (d_7.kws g.K) f fd ∧ g.mg "stand_by" = some (.ref f)
  d_is_integer : ∃ f fd, FunD g.K "is_integer" "is_integer" (defArgs (top 17)) (defBody (top 17)) (defScope (top 17)) (d_8.dvs g.K) (d_8.kws g.K) f fd ∧ g.mg "is_integer" = some (.ref f)
  d_is_number : ∃ f fd, FunD g.K "is_number" "is_number" (defArgs (top 18)) (defBody (top 18)) (defScope (top 18)) (d_9.dvs g.K) (d_9.kws g.K) f fd ∧ g.mg "is_number" = some (.ref f)
  d_is_name : ∃ f fd, FunD g.K "is_name" "is_name" (defArgs (top 19)) (defBody (top 19)) (defScope (top 19)) (d_10.dvs g.K) (d_10.kws g.K) f fd ∧ g.mg "is_name" = some (.ref f)
  d_is_spot : ∃ f fd, FunD g.K "is_spot" "is_spot" (defArgs (top 20)) (defBody (top 20)) (defScope (top 20)) (d_11.dvs g.K) (d_11.kws g.K) f fd ∧ g.mg "is_spot" = some (.ref f)
  d_is_pair : ∃ f fd, FunD g.K "is_pair" "is_pair" (defArgs (top 21)) (defBody (top 21)) (defScope (top 21)) (d_12.dvs g.K) (d_12.kws g.K) f fd ∧ g.mg "is_pair" = some (.ref f)
  d_is_triple : ∃ f fd, FunD g.K "is_triple" "is_triple" (defArgs (top 22)) (defBody (top 22)) (defScope (top 22)) (d_13.dvs g.K) (d_13.kws g.K) f fd ∧ g.mg "is_triple" = some (.ref f)
  d_is_folder : ∃ f fd, FunD g.K "is_folder" "is_folder" (defArgs (top 23)) (defBody (top 23)) (defScope (top 23)) (d_14.dvs g.K) (d_14.kws g.K) f fd ∧ g.mg "is_folder" = some (.ref f)
  d_is_move : ∃ f fd, FunD g.K "is_move" "is_move" (defArgs (top 24)) (defBody (top 24)) (defScope (top 24)) (d_15.dvs g.K) (d_15.kws g.K) f fd ∧ g.mg "is_move" = some (.ref f)
  d_first_ringed : ∃ f fd, FunD g.K "first_ringed" "first_ringed" (defArgs (top 26)) (defBody (top 26)) (defScope (top 26)) (d_16.dvs g.K) (d_16.kws g.K) f fd ∧ g.mg "first_ringed" = some (.ref f)
  d_first_unparented : ∃ f fd, FunD g.K "first_unparented" "first_unparented" (defArgs (top 27)) (defBody (top 27)) (defScope (top 27)) (d_17.dvs g.K) (d_17.kws g.K) f fd ∧ g.mg "first_unparented" = some (.ref f)
  d_tree_fault : ∃ f fd, FunD g.K "tree_fault" "tree_fault" (defArgs (top 28)) (defBody (top 28)) (defScope (top 28)) (d_18.dvs g.K) (d_18.kws g.K) f fd ∧ g.mg "tree_fault" = some (.ref f)
  d_stand_fault : ∃ f fd, FunD g.K "stand_fault" "stand_fault" (defArgs (top 29)) (defBody (top 29)) (defScope (top 29)) (d_19.dvs g.K) (d_19.kws g.K) f fd ∧ g.mg "stand_fault" = some (.ref f)
  d_is_move_of : ∃ f fd, FunD g.K "is_move_of" "is_move_of" (defArgs (top 30)) (defBody (top 30)) (defScope (top 30)) (d_20.dvs g.K) (d_20.kws g.K) f fd ∧ g.mg "is_move_of" = some (.ref f)
  d_moves_fault : ∃ f fd, FunD g.K "moves_fault" "moves_fault" (defArgs (top 31)) (defBody (top 31)) (defScope (top 31)) (d_21.dvs g.K) (d_21.kws g.K) f fd ∧ g.mg "moves_fault" = some (.ref f)
  d_lot_fault : ∃ f fd, FunD g.K "lot_fault" "lot_fault" (defArgs (top 32)) (defBody (top 32)) (defScope (top 32)) (d_22.dvs g.K) (d_22.kws g.K) f fd ∧ g.mg "lot_fault" = some (.ref f)
  d_want : ∃ f fd, FunD g.K "want" "want" (defArgs (top 34)) (defBody (top 34)) (defScope (top 34)) (d_23.dvs g.K) (d_23.kws g.K) f fd ∧ g.mg "want" = some (.ref f)
  d_want_tree : ∃ f fd, FunD g.K "want_tree" "want_tree" (defArgs (top 35)) (defBody (top 35)) (defScope (top 35)) (d_24.dvs g.K) (d_24.kws g.K) f fd ∧ g.mg "want_tree" = some (.ref f)
  d_want_stand : ∃ f fd, FunD g.K "want_stand" "want_stand" (defArgs (top 36)) (defBody (top 36)) (defScope (top 36)) (d_25.dvs g.K) (d_25.kws g.K) f fd ∧ g.mg "want_stand" = some (.ref f)
  d_want_lot : ∃ f fd, FunD g.K "want_lot" "want_lot" (defArgs (top 37)) (defBody (top 37)) (defScope (top 37)) (d_26.dvs g.K) (d_26.kws g.K) f fd ∧ g.mg "want_lot" = some (.ref f)
  d_want_case : ∃ f fd, FunD g.K "want_case" "want_case" (defArgs (top 38)) (defBody (top 38)) (defScope (top 38)) (d_27.dvs g.K) (d_27.kws g.K) f fd ∧ g.mg "want_case" = some (.ref f)
  d_want_lots : ∃ f fd, FunD g.K "want_lots" "want_lots" (defArgs (top 39)) (defBody (top 39)) (defScope (top 39)) (d_28.dvs g.K) (d_28.kws g.K) f fd ∧ g.mg "want_lots" = some (.ref f)
  d_counts_at : ∃ f fd, FunD g.K "counts_at" "counts_at" (defArgs (top 41)) (defBody (top 41)) (defScope (top 41)) (d_29.dvs g.K) (d_29.kws g.K) f fd ∧ g.mg "counts_at" = some (.ref f)
  d_misfits_at : ∃ f fd, FunD g.K "misfits_at" "misfits_at" (defArgs (top 42)) (defBody (top 42)) (defScope (top 42)) (d_30.dvs g.K) (d_30.kws g.K) f fd ∧ g.mg "misfits_at" = some (.ref f)
  d_end_counts : ∃ f fd, FunD g.K "end_counts" "end_counts" (defArgs (top 44)) (defBody (top 44)) (defScope (top 44)) (d_31.dvs g.K) (d_31.kws g.K) f fd ∧ g.mg "end_counts" = some (.ref f)
  d_misfits : ∃ f fd, FunD g.K "misfits" "misfits" (defArgs (top 45)) (defBody (top 45)) (defScope (top 45)) (d_32.dvs g.K) (d_32.kws g.K) f fd ∧ g.mg "misfits" = some (.ref f)
  d_fits : ∃ f fd, FunD g.K "fits" "fits" (defArgs (top 46)) (defBody (top 46)) (defScope (top 46)) (d_33.dvs g.K) (d_33.kws g.K) f fd ∧ g.mg "fits" = some (.ref f)
  d__law_feed : ∃ f fd, FunD g.K "_law_feed" "_law_feed" (defArgs (top 48)) (defBody (top 48)) (defScope (top 48)) (d_34.dvs g.K) (d_34.kws g.K) f fd ∧ g.mg "_law_feed" = some (.ref f)
  d__law_draw : ∃ f fd, FunD g.K "_law_draw" "_law_draw" (defArgs (top 49)) (defBody (top 49)) (defScope (top 49)) (d_35.dvs g.K) (d_35.kws g.K) f fd ∧ g.mg "_law_draw" = some (.ref f)
  d__law_any : ∃ f fd, FunD g.K "_law_any" "_law_any" (defArgs (top 50)) (defBody (top 50)) (defScope (top 50)) (d_36.dvs g.K) (d_36.kws g.K) f fd ∧ g.mg "_law_any" = some (.ref f)
  d__law_wood : ∃ f fd, FunD g.K "_law_wood" "_law_wood" (defArgs (top 51)) (defBody (top 51)) (defScope (top 51)) (d_37.dvs g.K) (d_37.kws g.K) f fd ∧ g.mg "_law_wood" = some (.ref f)
  d__law_around : ∃ f fd, FunD g.K "_law_around" "_law_around" (defArgs (top 52)) (defBody (top 52)) (defScope (top 52)) (d_38.dvs g.K) (d_38.kws g.K) f fd ∧ g.mg "_law_around" = some (.ref f)
  d__law_use : ∃ f fd, FunD g.K "_law_use" "_law_use" (defArgs (top 53)) (defBody (top 53)) (defScope (top 53)) (d_39.dvs g.K) (d_39.kws g.K) f fd ∧ g.mg "_law_use" = some (.ref f)
  d__law_uses : ∃ f fd, FunD g.K "_law_uses" "_law_uses" (defArgs (top 54)) (defBody (top 54)) (defScope (top 54)) (d_40.dvs g.K) (d_40.kws g.K) f fd ∧ g.mg "_law_uses" = some (.ref f)
  d__law_case : ∃ f fd, FunD g.K "_law_case" "_law_case" (defArgs (top 55)) (defBody (top 55)) (defScope (top 55)) (d_41.dvs g.K) (d_41.kws g.K) f fd ∧ g.mg "_law_case" = some (.ref f)
  d__law_pack : ∃ f fd, FunD g.K "_law_pack" "_law_pack" (defArgs (top 56)) (defBody (top 56)) (defScope (top 56)) (d_42.dvs g.K) (d_42.kws g.K) f fd ∧ g.mg "_law_pack" = some (.ref f)
  d__law_enters : ∃ f fd, FunD g.K "_law_enters" "_law_enters" (defArgs (top 57)) (defBody (top 57)) (defScope (top 57)) (d_43.dvs g.K) (d_43.kws g.K) f fd ∧ g.mg "_law_enters" = some (.ref f)
  d__law_leaves : ∃ f fd, FunD g.K "_law_leaves" "_law_leaves" (defArgs (top 58)) (defBody (top 58)) (defScope (top 58)) (d_44.dvs g.K) (d_44.kws g.K) f fd ∧ g.mg "_law_leaves" = some (.ref f)
  d__law_moved : ∃ f fd, FunD g.K "_law_moved" "_law_moved" (defArgs (top 59)) (defBody (top 59)) (defScope (top 59)) (d_45.dvs g.K) (d_45.kws g.K) f fd ∧ g.mg "_law_moved" = some (.ref f)
  d__law_end : ∃ f fd, FunD g.K "_law_end" "_law_end" (defArgs (top 60)) (defBody (top 60)) (defScope (top 60)) (d_46.dvs g.K) (d_46.kws g.K) f fd ∧ g.mg "_law_end" = some (.ref f)
  d__law_same : ∃ f fd, FunD g.K "_law_same" "_law_same" (defArgs (top 61)) (defBody (top 61)) (defScope (top 61)) (d_47.dvs g.K) (d_47.kws g.K) f fd ∧ g.mg "_law_same" = some (.ref f)
  d__law_is_right : ∃ f fd, FunD g.K "_law_is_right" "_law_is_right" (defArgs (top 62)) (defBody (top 62)) (defScope (top 62)) (d_48.dvs g.K) (d_48.kws g.K) f fd ∧ g.mg "_law_is_right" = some (.ref f)
  d__law_hand_right : ∃ f fd, FunD g.K "_law_hand_right" "_law_hand_right" (defArgs (top 63)) (defBody (top 63)) (defScope (top 63)) (d_49.dvs g.K) (d_49.kws g.K) f fd ∧ g.mg "_law_hand_right" = some (.ref f)
  d_law : ∃ f fd, FunD g.K "law" "law" (defArgs (top 64)) (defBody (top 64)) (defScope (top 64)) (d_50.dvs g.K) (d_50.kws g.K) f fd ∧ g.mg "law" = some (.ref f)
/-! ### _law_feed -/
def N__law_feed : List Str := ["_law_script", "_law_cell"]
def b__law_feed : Ev → IH → RS :=
    (dSeq (dRet (dDict [((dC (.str "cells")), (dLc false (gN 1) (iAny (dSl (dVar 0) none (some (dC (.int 63))))) none (dCall intD [(dVar 1)]) [1])), ((dC (.str "spot")), (dC (.int 0))), ((dC (.str "rest")), (dC (.int 0))), ((dC (.str "turn")), (dC (.int 0)))]))
    dNx)
def f__law_feed : List D → IH → R (D × IH) := dFn 2 b__law_feed
theorem w__law_feed {g : GI} (A : All g) : SB g N__law_feed 0 (defScope (top 48)) b__law_feed (defBody (top 48)) :=
    (sb_cons (ss_ret (se_dict (.cons se_str (e_lc [("_law_cell", 1)] (i_any (se_slice (e_var (by kernel_rfl)) trivial se_int)) (g_name (by kernel_rfl)) .nil (e_T intD_ok bv_int (by decide) A.n_int (by kernel_rfl) (a_cons (e_var (by kernel_rfl)) (by kernel_rfl) .nil)) (by kernel_rfl)) (.cons se_str se_int (.cons se_str se_int (.cons se_str se_int .nil)))) (by kernel_rfl) (by kernel_rfl) (by kernel_rfl)))
    sb_nil)
theorem s__law_feed : FnScope N__law_feed ["_law_script"] (defScope (top 48)) := ⟨rfl, rfl, rfl, by decide +kernel, rfl, by decide +kernel, by decide +kernel⟩
theorem c__law_feed {g : GI} (A : All g) : Cal g 1 "_law_feed" ["_law_script"] f__law_feed [] := by
  obtain ⟨f, fd, F, hm⟩ := A.d__law_feed
  exact ⟨f, fd, [], [], fnG_of F s__law_feed (w__law_feed A), hm, F.kp, F.bindsN fun _ _ _ _ _ _ us hl => match us, hl with | [_], _ => rfl, .nil, fun _ _ _ => rfl⟩
/-! ### _law_same -/
def N__law_same : List Str := ["_law_told", "_law_due"]
def b__law_same : Ev → IH → RS :=
    (dSeq (dRet (dOp eqD (dCall repD [(dVar 0)]) (dCall repD [(dVar 1)])))
    dNx)
def f__law_same : List D → IH → R (D × IH) := dFn 2 b__law_same
theorem w__law_same {g : GI} (A : All g) : SB g N__law_same 0 (defScope (top 61)) b__law_same (defBody (top 61)) :=
    (sb_cons (ss_ret (se_cmp eqD_ok (e_B repD_ok bv_repr (by decide) A.n_repr (by kernel_rfl) (a_cons (e_var (by kernel_rfl)) (by kernel_rfl) .nil)) (e_B repD_ok bv_repr (by decide) A.n_repr (by kernel_rfl) (a_cons (e_var (by kernel_rfl)) (by kernel_rfl) .nil)) (by kernel_rfl)))
    sb_nil)
theorem s__law_same : FnScope N__law_same ["_law_told", "_law_due"] (defScope (top 61)) := ⟨rfl, rfl, rfl, by decide +kernel, rfl, by decide +kernel, by decide +kernel⟩
theorem c__law_same {g : GI} (A : All g) : Cal g 1 "_law_same" ["_law_told", "_law_due"] f__law_same [] := by
  obtain ⟨f, fd, F, hm⟩ := A.d__law_same
  exact ⟨f, fd, [], [], fnG_of F s__law_same (w__law_same A), hm, F.kp, F.bindsN fun _ _ _ _ _ _ us hl => match us, hl with | [_, _], _ => rfl, .nil, fun _ _ _ => rfl⟩
/-! ### want -/
def N_want : List Str := ["is_right", "word", "at"]
def b_want : Ev → IH → RS :=
    (dSeq (dIfS (dNot (dVar 0))
    (dSeq dStuck
    dNx)
    dNx)
    dNx)
def f_want : List D → IH → R (D × IH) := dFn 3 b_want
theorem w_want {g : GI} (A : All g) : SB g N_want 0 (defScope (top 34)) b_want (defBody (top 34)) :=
    (sb_cons (ss_if (st_not (t_plain (e_var (by kernel_rfl)) (by kernel_rfl)))
    (sb_cons ss_never
    sb_nil)
    sb_nil)
    sb_nil)
theorem s_want : FnScope N_want ["is_right", "word", "at"] (defScope (top 34)) := ⟨rfl, rfl, rfl, by decide +kernel, rfl, by decide +kernel, by decide +kernel⟩
theorem c_want_2 {g : GI} (A : All g) : Cal g 1 "want" ["is_right", "word", "at"] f_want [.pu (.int (-1))] := by
  obtain ⟨f, fd, F, hm⟩ := A.d_want
  obtain ⟨ds, hd, hb⟩ := F.binds1 (ps := ["is_right", "word", "at"]) 2 0 (by intro z; cases z) rfl fun T kV doc pm an cdv ct us its hl hi => match us, its, hl, hi with | [_, _], [_], _, _ => ⟨_, rfl, rfl⟩
  exact ⟨f, fd, ds, _, fnG_of F s_want (w_want A), hm, F.kp, hb, hd, fun _ _ _ => ⟨_, _, rfl, rfl, rfl⟩⟩
theorem c_want_3 {g : GI} (A : All g) : Cal g 1 "want" ["is_right", "word", "at"] f_want [] := by
  obtain ⟨f, fd, F, hm⟩ := A.d_want
  obtain ⟨ds, hd, hb⟩ := F.binds1 (ps := ["is_right", "word", "at"]) 3 1 (by intro z; cases z) rfl fun T kV doc pm an cdv ct us its hl hi => match us, its, hl, hi with | [_, _, _], [_], _, _ => ⟨_, rfl, rfl⟩
  exact ⟨f, fd, ds, _, fnG_of F s_want (w_want A), hm, F.kp, hb, hd, fun _ _ _ => rfl⟩
/-! ### parents_by -/
def N_parents_by : List Str := ["tree", "name", "parent", "room"]
def b_parents_by : Ev → IH → RS :=
    (dSeq (dRet (dFz (dDc (gT [(gN 1), (gN 2), (gN 3)]) (iAny (dVar 0)) none (dVar 1) (dVar 2) [1, 2, 3])))
    dNx)
def f_parents_by : List D → IH → R (D × IH) := dFn 4 b_parents_by
theorem w_parents_by {g : GI} (A : All g) : SB g N_parents_by 0 (defScope (top 2)) b_parents_by (defBody (top 2)) :=
    (sb_cons (ss_ret (se_fz (e_dc [("name", 1), ("parent", 2), ("room", 3)] (i_any (e_var (by kernel_rfl))) (sg_tup (g_cons (g_name (by kernel_rfl)) (by kernel_rfl) (g_cons (g_name (by kernel_rfl)) (by kernel_rfl) (g_cons (g_name (by kernel_rfl)) (by kernel_rfl) .nil)))) .nil (e_var (by kernel_rfl)) (e_var (by kernel_rfl)) (by kernel_rfl))))
    sb_nil)
theorem s_parents_by : FnScope N_parents_by ["tree"] (defScope (top 2)) := ⟨rfl, rfl, rfl, by decide +kernel, rfl, by decide +kernel, by decide +kernel⟩
theorem c_parents_by {g : GI} (A : All g) : Cal g 1 "parents_by" ["tree"] f_parents_by [] := by
  obtain ⟨f, fd, F, hm⟩ := A.d_parents_by
  exact ⟨f, fd, [], [], fnG_of F s_parents_by (w_parents_by A), hm, F.kp, F.bindsN fun _ _ _ _ _ _ us hl => match us, hl with | [_], _ => rfl, .nil, fun _ _ _ => rfl⟩
/-! ### names_in -/
def N_names_in : List Str := ["tree", "name", "parent", "room"]
def b_names_in : Ev → IH → RS :=
    (dSeq (dRet (dCall tupleD [(dLc false (gT [(gN 1), (gN 2), (gN 3)]) (iAny (dVar 0)) none (dVar 1) [1, 2, 3])]))
    dNx)
def f_names_in : List D → IH → R (D × IH) := dFn 4 b_names_in
theorem w_names_in {g : GI} (A : All g) : SB g N_names_in 0 (defScope (top 1)) b_names_in (defBody (top 1)) :=
    (sb_cons (ss_ret (e_T tupleD_ok bv_tuple (by decide) A.n_tuple (by kernel_rfl) (a_cons (e_lc [("name", 1), ("parent", 2), ("room", 3)] (i_any (e_var (by kernel_rfl))) (sg_tup (g_cons (g_name (by kernel_rfl)) (by kernel_rfl) (g_cons (g_name (by kernel_rfl)) (by kernel_rfl) (g_cons (g_name (by kernel_rfl)) (by kernel_rfl) .nil)))) .nil (e_var (by kernel_rfl)) (by kernel_rfl)) (by kernel_rfl) .nil)))
    sb_nil)
theorem s_names_in : FnScope N_names_in ["tree"] (defScope (top 1)) := ⟨rfl, rfl, rfl, by decide +kernel, rfl, by decide +kernel, by decide +kernel⟩
theorem c_names_in {g : GI} (A : All g) : Cal g 1 "names_in" ["tree"] f_names_in [] := by
  obtain ⟨f, fd, F, hm⟩ := A.d_names_in
  exact ⟨f, fd, [], [], fnG_of F s_names_in (w_names_in A), hm, F.kp, F.bindsN fun _ _ _ _ _ _ us hl => match us, hl with | [_], _ => rfl, .nil, fun _ _ _ => rfl⟩
/-! ### first_unparented -/
def N_first_unparented : List Str := ["tree", "parents", "k", "name"]
def b_first_unparented : Ev → IH → RS :=
    (dSeq (dSet 1 (dCallP 1 f_parents_by [] [(dVar 0)]))
    (dSeq (dFor (gT [(gN 2), (gN 3)]) (iEnu (dCallP 1 f_names_in [] [(dVar 0)]))
    (dSeq (dIfS (dAnd (dOp neD (dOp ixD (dVar 1) (dVar 3)) (dC (.str ""))) (dOp notInKD (dOp ixD (dVar 1) (dVar 3)) (dVar 1)))
    (dSeq (dRet (dVar 2))
    dNx)
    dNx)
    dNx) [])
    (dSeq (dRet (dC .non))
    dNx)))
def f_first_unparented : List D → IH → R (D × IH) := dFn 4 b_first_unparented
theorem w_first_unparented {g : GI} (A : All g) : SB g N_first_unparented 1 (defScope (top 27)) b_first_unparented (defBody (top 27)) :=
    (sb_cons (s_set (e_callP (c_parents_by A) (by decide) (by kernel_rfl) (a_cons (e_var (by kernel_rfl)) (by kernel_rfl) .nil)) (by kernel_rfl))
    (sb_cons (ss_for [] (i_enum A.n_enumerate (by kernel_rfl) (a_cons (e_callP (c_names_in A) (by decide) (by kernel_rfl) (a_cons (e_var (by kernel_rfl)) (by kernel_rfl) .nil)) (by kernel_rfl) .nil)) (sg_tup (g_cons (g_name (by kernel_rfl)) (by kernel_rfl) (g_cons (g_name (by kernel_rfl)) (by kernel_rfl) .nil)))
    (sb_cons (ss_if (t_w (sw_and (st_cmp neD_ok bo_ne (e_idx (e_var (by kernel_rfl)) (e_var (by kernel_rfl)) (by kernel_rfl)) se_str (by kernel_rfl)) (sw_and1 (st_cmp notInKD_ok bo_inK (e_idx (e_var (by kernel_rfl)) (e_var (by kernel_rfl)) (by kernel_rfl)) (e_var (by kernel_rfl)) (by kernel_rfl)))))
    (sb_cons (ss_ret (e_var (by kernel_rfl)))
    sb_nil)
    sb_nil)
    sb_nil) (by kernel_rfl))
    (sb_cons (ss_ret se_non)
    sb_nil)))
theorem s_first_unparented : FnScope N_first_unparented ["tree"] (defScope (top 27)) := ⟨rfl, rfl, rfl, by decide +kernel, rfl, by decide +kernel, by decide +kernel⟩
theorem c_first_unparented {g : GI} (A : All g) : Cal g 2 "first_unparented" ["tree"] f_first_unparented [] := by
  obtain ⟨f, fd, F, hm⟩ := A.d_first_unparented
  exact ⟨f, fd, [], [], fnG_of F s_first_unparented (w_first_unparented A), hm, F.kp, F.bindsN fun _ _ _ _ _ _ us hl => match us, hl with | [_], _ => rfl, .nil, fun _ _ _ => rfl⟩
/-! ### first_ringed -/
def N_first_ringed : List Str := ["tree", "parents", "ended", "k", "name", "way", "here"]
def b_first_ringed : Ev → IH → RS :=
    (dSeq (dSet 1 (dCallP 1 f_parents_by [] [(dVar 0)]))
    (dSeq (dSet 2 (dDict [((dC (.str "")), (dC (.bl true)))]))
    (dSeq (dFor (gT [(gN 3), (gN 4)]) (iEnu (dCallP 1 f_names_in [] [(dVar 0)]))
    (dSeq (dSet 5 dNewK)
    (dSeq (dSet 6 (dVar 4))
    (dSeq (dWhile (dAnd (dOp notInKD (dVar 6) (dVar 2)) (dOp notInKD (dVar 6) (dVar 5)))
    (dSeq (dPut (dVar 5) (dVar 6) (dC (.bl true)))
    (dSeq (dSet 6 (dOp ixD (dVar 1) (dVar 6)))
    dNx)) [] 200)
    (dSeq (dIfS (dOp notInKD (dVar 6) (dVar 2))
    (dSeq (dRet (dVar 3))
    dNx)
    dNx)
    (dSeq (dExpr (dMe isDk updD (dVar 2) [(dVar 5)]))
    dNx))))) [])
    (dSeq (dRet (dC .non))
    dNx))))
def f_first_ringed : List D → IH → R (D × IH) := dFn 7 b_first_ringed
theorem w_first_ringed {g : GI} (A : All g) : SB g N_first_ringed 1 (defScope (top 26)) b_first_ringed (defBody (top 26)) :=
    (sb_cons (s_set (e_callP (c_parents_by A) (by decide) (by kernel_rfl) (a_cons (e_var (by kernel_rfl)) (by kernel_rfl) .nil)) (by kernel_rfl))
    (sb_cons (s_set (se_dict (.cons se_str se_bl .nil) (by kernel_rfl) (by kernel_rfl) (by kernel_rfl)) (by kernel_rfl))
    (sb_cons (ss_for [] (i_enum A.n_enumerate (by kernel_rfl) (a_cons (e_callP (c_names_in A) (by decide) (by kernel_rfl) (a_cons (e_var (by kernel_rfl)) (by kernel_rfl) .nil)) (by kernel_rfl) .nil)) (sg_tup (g_cons (g_name (by kernel_rfl)) (by kernel_rfl) (g_cons (g_name (by kernel_rfl)) (by kernel_rfl) .nil)))
    (sb_cons (s_set se_newK (by kernel_rfl))
    (sb_cons (s_set (e_var (by kernel_rfl)) (by kernel_rfl))
    (sb_cons (ss_while 200 [] (t_w (sw_and (st_cmp notInKD_ok bo_inK (e_var (by kernel_rfl)) (e_var (by kernel_rfl)) (by kernel_rfl)) (sw_and1 (st_cmp notInKD_ok bo_inK (e_var (by kernel_rfl)) (e_var (by kernel_rfl)) (by kernel_rfl)))))
    (sb_cons (s_put (e_var (by kernel_rfl)) (e_var (by kernel_rfl)) se_bl (by kernel_rfl))
    (sb_cons (s_set (e_idx (e_var (by kernel_rfl)) (e_var (by kernel_rfl)) (by kernel_rfl)) (by kernel_rfl))
    sb_nil)))
    (sb_cons (ss_if (st_cmp notInKD_ok bo_inK (e_var (by kernel_rfl)) (e_var (by kernel_rfl)) (by kernel_rfl))
    (sb_cons (ss_ret (e_var (by kernel_rfl)))
    sb_nil)
    sb_nil)
    (sb_cons (ss_expr (e_upd (e_var (by kernel_rfl)) (a_cons (e_var (by kernel_rfl)) (by kernel_rfl) .nil) (by kernel_rfl)) (by kernel_rfl))
    sb_nil))))) (by kernel_rfl))
    (sb_cons (ss_ret se_non)
    sb_nil))))
theorem s_first_ringed : FnScope N_first_ringed ["tree"] (defScope (top 26)) := ⟨rfl, rfl, rfl, by decide +kernel, rfl, by decide +kernel, by decide +kernel⟩
theorem c_first_ringed {g : GI} (A : All g) : Cal g 2 "first_ringed" ["tree"] f_first_ringed [] := by
  obtain ⟨f, fd, F, hm⟩ := A.d_first_ringed
  exact ⟨f, fd, [], [], fnG_of F s_first_ringed (w_first_ringed A), hm, F.kp, F.bindsN fun _ _ _ _ _ _ us hl => match us, hl with | [_], _ => rfl, .nil, fun _ _ _ => rfl⟩
/-! ### is_integer -/
def N_is_integer : List Str := ["thing"]
def b_is_integer : Ev → IH → RS :=
    (dSeq (dRet (dAnd (dIsi "int" (dVar 0)) (dNot (dIsi "bool" (dVar 0)))))
    dNx)
def f_is_integer : List D → IH → R (D × IH) := dFn 1 b_is_integer
theorem w_is_integer {g : GI} (A : All g) : SB g N_is_integer 0 (defScope (top 17)) b_is_integer (defBody (top 17)) :=
    (sb_cons (ss_ret (se_and (e_isi bv_int (by decide) (by decide) A.n_isinstance A.n_int (by kernel_rfl) (e_var (by kernel_rfl)) (by kernel_rfl)) (se_one (se_not (e_isi bv_bool (by decide) (by decide) A.n_isinstance A.n_bool (by kernel_rfl) (e_var (by kernel_rfl)) (by kernel_rfl))))))
    sb_nil)
theorem s_is_integer : FnScope N_is_integer ["thing"] (defScope (top 17)) := ⟨rfl, rfl, rfl, by decide +kernel, rfl, by decide +kernel, by decide +kernel⟩
theorem c_is_integer {g : GI} (A : All g) : Cal g 1 "is_integer" ["thing"] f_is_integer [] := by
  obtain ⟨f, fd, F, hm⟩ := A.d_is_integer
  exact ⟨f, fd, [], [], fnG_of F s_is_integer (w_is_integer A), hm, F.kp, F.bindsN fun _ _ _ _ _ _ us hl => match us, hl with | [_], _ => rfl, .nil, fun _ _ _ => rfl⟩
/-! ### is_number -/
def N_is_number : List Str := ["thing"]
def b_is_number : Ev → IH → RS :=
    (dSeq (dRet (dAnd (dCallP 1 f_is_integer [] [(dVar 0)]) (dOp geD (dVar 0) (dC (.int 0)))))
    dNx)
def f_is_number : List D → IH → R (D × IH) := dFn 1 b_is_number
theorem w_is_number {g : GI} (A : All g) : SB g N_is_number 1 (defScope (top 18)) b_is_number (defBody (top 18)) :=
    (sb_cons (ss_ret (se_and (e_callP (c_is_integer A) (by decide) (by kernel_rfl) (a_cons (e_var (by kernel_rfl)) (by kernel_rfl) .nil)) (se_one (se_cmp geD_ok (e_var (by kernel_rfl)) se_int (by kernel_rfl)))))
    sb_nil)
theorem s_is_number : FnScope N_is_number ["thing"] (defScope (top 18)) := ⟨rfl, rfl, rfl, by decide +kernel, rfl, by decide +kernel, by decide +kernel⟩
theorem c_is_number {g : GI} (A : All g) : Cal g 2 "is_number" ["thing"] f_is_number [] := by
  obtain ⟨f, fd, F, hm⟩ := A.d_is_number
  exact ⟨f, fd, [], [], fnG_of F s_is_number (w_is_number A), hm, F.kp, F.bindsN fun _ _ _ _ _ _ us hl => match us, hl with | [_], _ => rfl, .nil, fun _ _ _ => rfl⟩
/-! ### is_triple -/
def N_is_triple : List Str := ["thing"]
def b_is_triple : Ev → IH → RS :=
    (dSeq (dRet (dAnd (dIsi "tuple" (dVar 0)) (dOp eqD (dCall lenD [(dVar 0)]) (dC (.int 3)))))
    dNx)
def f_is_triple : List D → IH → R (D × IH) := dFn 1 b_is_triple
theorem w_is_triple {g : GI} (A : All g) : SB g N_is_triple 0 (defScope (top 22)) b_is_triple (defBody (top 22)) :=
    (sb_cons (ss_ret (se_and (e_isi bv_tuple (by decide) (by decide) A.n_isinstance A.n_tuple (by kernel_rfl) (e_var (by kernel_rfl)) (by kernel_rfl)) (se_one (se_cmp eqD_ok (e_B lenD_ok bv_len (by decide) A.n_len (by kernel_rfl) (a_cons (e_var (by kernel_rfl)) (by kernel_rfl) .nil)) se_int (by kernel_rfl)))))
    sb_nil)
theorem s_is_triple : FnScope N_is_triple ["thing"] (defScope (top 22)) := ⟨rfl, rfl, rfl, by decide +kernel, rfl, by decide +kernel, by decide +kernel⟩
theorem c_is_triple {g : GI} (A : All g) : Cal g 1 "is_triple" ["thing"] f_is_triple [] := by
  obtain ⟨f, fd, F, hm⟩ := A.d_is_triple
  exact ⟨f, fd, [], [], fnG_of F s_is_triple (w_is_triple A), hm, F.kp, F.bindsN fun _ _ _ _ _ _ us hl => match us, hl with | [_], _ => rfl, .nil, fun _ _ _ => rfl⟩
/-! ### is_name -/
def N_is_name : List Str := ["thing", "sign"]
def b_is_name : Ev → IH → RS :=
    (dSeq (dRet (dAnd (dIsi "str" (dVar 0)) (dAnd (dCh leD leD (dC (.int 1)) (dCall lenD [(dVar 0)]) (dC (.int (8)))) (dCall allD [(dLc false (gN 1) (iAny (dVar 0)) none (dOp inKD (dVar 1) (dC (.str "abcdefghijklmnopqrstuvwxyz"))) [1])]))))
    dNx)
def f_is_name : List D → IH → R (D × IH) := dFn 2 b_is_name
theorem w_is_name {g : GI} (A : All g) : SB g N_is_name 0 (defScope (top 19)) b_is_name (defBody (top 19)) :=
    (sb_cons (ss_ret (se_and (e_isi bv_str (by decide) (by decide) A.n_isinstance A.n_str (by kernel_rfl) (e_var (by kernel_rfl)) (by kernel_rfl)) (se_and (se_chain leD_ok leD_ok se_int (e_B lenD_ok bv_len (by decide) A.n_len (by kernel_rfl) (a_cons (e_var (by kernel_rfl)) (by kernel_rfl) .nil)) (e_int (j := 0) A.c_MOST_LETTERS (by kernel_rfl)) (by kernel_rfl)) (se_one (e_B allD_ok bv_all (by decide) A.n_all (by kernel_rfl) (a_cons (e_lc [("sign", 1)] (i_any (e_var (by kernel_rfl))) (g_name (by kernel_rfl)) .nil (se_cmp inKD_ok (e_var (by kernel_rfl)) (e_str (j := 0) A.c_LETTERS (by kernel_rfl)) (by kernel_rfl)) (by kernel_rfl)) (by kernel_rfl) .nil))))))
    sb_nil)
theorem s_is_name : FnScope N_is_name ["thing"] (defScope (top 19)) := ⟨rfl, rfl, rfl, by decide +kernel, rfl, by decide +kernel, by decide +kernel⟩
theorem c_is_name {g : GI} (A : All g) : Cal g 1 "is_name" ["thing"] f_is_name [] := by
  obtain ⟨f, fd, F, hm⟩ := A.d_is_name
  exact ⟨f, fd, [], [], fnG_of F s_is_name (w_is_name A), hm, F.kp, F.bindsN fun _ _ _ _ _ _ us hl => match us, hl with | [_], _ => rfl, .nil, fun _ _ _ => rfl⟩
/-! ### is_spot -/
def N_is_spot : List Str := ["thing"]
def b_is_spot : Ev → IH → RS :=
    (dSeq (dRet (dOr (dCallP 1 f_is_name [] [(dVar 0)]) (dAnd (dIsi "str" (dVar 0)) (dOp eqD (dVar 0) (dC (.str ""))))))
    dNx)
def f_is_spot : List D → IH → R (D × IH) := dFn 1 b_is_spot
theorem w_is_spot {g : GI} (A : All g) : SB g N_is_spot 1 (defScope (top 20)) b_is_spot (defBody (top 20)) :=
    (sb_cons (ss_ret (se_or (e_callP (c_is_name A) (by decide) (by kernel_rfl) (a_cons (e_var (by kernel_rfl)) (by kernel_rfl) .nil)) (se_one (se_and (e_isi bv_str (by decide) (by decide) A.n_isinstance A.n_str (by kernel_rfl) (e_var (by kernel_rfl)) (by kernel_rfl)) (se_one (se_cmp eqD_ok (e_var (by kernel_rfl)) se_str (by kernel_rfl)))))))
    sb_nil)
theorem s_is_spot : FnScope N_is_spot ["thing"] (defScope (top 20)) := ⟨rfl, rfl, rfl, by decide +kernel, rfl, by decide +kernel, by decide +kernel⟩
theorem c_is_spot {g : GI} (A : All g) : Cal g 2 "is_spot" ["thing"] f_is_spot [] := by
  obtain ⟨f, fd, F, hm⟩ := A.d_is_spot
  exact ⟨f, fd, [], [], fnG_of F s_is_spot (w_is_spot A), hm, F.kp, F.bindsN fun _ _ _ _ _ _ us hl => match us, hl with | [_], _ => rfl, .nil, fun _ _ _ => rfl⟩
/-! ### is_folder -/
def N_is_folder : List Str := ["thing"]
def b_is_folder : Ev → IH → RS :=
    (dSeq (dIfS (dOr (dNot (dCallP 1 f_is_triple [] [(dVar 0)])) (dOr (dNot (dCallP 1 f_is_name [] [(dOp ixD (dVar 0) (dC (.int 0)))])) (dNot (dCallP 1 f_is_spot [] [(dOp ixD (dVar 0) (dC (.int 1)))]))))
    (dSeq (dRet (dC (.bl false)))
    dNx)
    dNx)
    (dSeq (dRet (dAnd (dOp neD (dOp ixD (dVar 0) (dC (.int 0))) (dOp ixD (dVar 0) (dC (.int 1)))) (dCallP 1 f_is_number [] [(dOp ixD (dVar 0) (dC (.int 2)))])))
    dNx))
def f_is_folder : List D → IH → R (D × IH) := dFn 1 b_is_folder
theorem w_is_folder {g : GI} (A : All g) : SB g N_is_folder 2 (defScope (top 23)) b_is_folder (defBody (top 23)) :=
    (sb_cons (ss_if (t_w (sw_or (st_not (t_plain (e_callP (c_is_triple A) (by decide) (by kernel_rfl) (a_cons (e_var (by kernel_rfl)) (by kernel_rfl) .nil)) (by kernel_rfl))) (sw_or (st_not (t_plain (e_callP (c_is_name A) (by decide) (by kernel_rfl) (a_cons (e_idx (e_var (by kernel_rfl)) se_int (by kernel_rfl)) (by kernel_rfl) .nil)) (by kernel_rfl))) (sw_or1 (st_not (t_plain (e_callP (c_is_spot A) (by decide) (by kernel_rfl) (a_cons (e_idx (e_var (by kernel_rfl)) se_int (by kernel_rfl)) (by kernel_rfl) .nil)) (by kernel_rfl)))))))
    (sb_cons (ss_ret se_bl)
    sb_nil)
    sb_nil)
    (sb_cons (ss_ret (se_and (se_cmp neD_ok (e_idx (e_var (by kernel_rfl)) se_int (by kernel_rfl)) (e_idx (e_var (by kernel_rfl)) se_int (by kernel_rfl)) (by kernel_rfl)) (se_one (e_callP (c_is_number A) (by decide) (by kernel_rfl) (a_cons (e_idx (e_var (by kernel_rfl)) se_int (by kernel_rfl)) (by kernel_rfl) .nil)))))
    sb_nil))
theorem s_is_folder : FnScope N_is_folder ["thing"] (defScope (top 23)) := ⟨rfl, rfl, rfl, by decide +kernel, rfl, by decide +kernel, by decide +kernel⟩
theorem c_is_folder {g : GI} (A : All g) : Cal g 3 "is_folder" ["thing"] f_is_folder [] := by
  obtain ⟨f, fd, F, hm⟩ := A.d_is_folder
  exact ⟨f, fd, [], [], fnG_of F s_is_folder (w_is_folder A), hm, F.kp, F.bindsN fun _ _ _ _ _ _ us hl => match us, hl with | [_], _ => rfl, .nil, fun _ _ _ => rfl⟩
/-! ### tree_fault -/
def N_tree_fault : List Str := ["thing", "k", "folder"]
def b_tree_fault : Ev → IH → RS :=
    (dSeq (dIfS (dOr (dNot (dIsi "tuple" (dVar 0))) (dOp eqD (dCall lenD [(dVar 0)]) (dC (.int 0))))
    (dSeq (dRet (dTup [(dC (.str "shape")), (negD (dC (.int 1)))]))
    dNx)
    dNx)
    (dSeq (dFor (gT [(gN 1), (gN 2)]) (iEnu (dVar 0))
    (dSeq (dIfS (dOr (dNot (dCallP 1 f_is_folder [] [(dVar 2)])) (dAnd (dOp gtD (dVar 1) (dC (.int 0))) (dOp leD (dOp ixD (dVar 2) (dC (.int 0))) (dOp ixD (dOp ixD (dVar 0) (dOp subD (dVar 1) (dC (.int 1)))) (dC (.int 0))))))
    (dSeq (dRet (dTup [(dC (.str "folder")), (dVar 1)]))
    dNx)
    dNx)
    dNx) [])
    (dSeq (dSet 1 (dCallP 1 f_first_unparented [] [(dVar 0)]))
    (dSeq (dIfS (dOp (isN not) (dVar 1) (dC .non))
    (dSeq (dRet (dTup [(dC (.str "parent")), (dVar 1)]))
    dNx)
    dNx)
    (dSeq (dSet 1 (dCallP 1 f_first_ringed [] [(dVar 0)]))
    (dSeq (dRet (dIf (dOp (isN not) (dVar 1) (dC .non)) (dTup [(dC (.str "within")), (dVar 1)]) (dC .non)))
    dNx))))))
def f_tree_fault : List D → IH → R (D × IH) := dFn 3 b_tree_fault
theorem w_tree_fault {g : GI} (A : All g) : SB g N_tree_fault 3 (defScope (top 28)) b_tree_fault (defBody (top 28)) :=
    (sb_cons (ss_if (t_w (sw_or (st_not (t_plain (e_isi bv_tuple (by decide) (by decide) A.n_isinstance A.n_tuple (by kernel_rfl) (e_var (by kernel_rfl)) (by kernel_rfl)) (by kernel_rfl))) (sw_or1 (st_cmp eqD_ok bo_eq (e_B lenD_ok bv_len (by decide) A.n_len (by kernel_rfl) (a_cons (e_var (by kernel_rfl)) (by kernel_rfl) .nil)) se_int (by kernel_rfl)))))
    (sb_cons (ss_ret (se_tup (a_cons se_str (by kernel_rfl) (a_cons (se_neg se_int) (by kernel_rfl) .nil))))
    sb_nil)
    sb_nil)
    (sb_cons (ss_for [] (i_enum A.n_enumerate (by kernel_rfl) (a_cons (e_var (by kernel_rfl)) (by kernel_rfl) .nil)) (sg_tup (g_cons (g_name (by kernel_rfl)) (by kernel_rfl) (g_cons (g_name (by kernel_rfl)) (by kernel_rfl) .nil)))
    (sb_cons (ss_if (t_w (sw_or (st_not (t_plain (e_callP (c_is_folder A) (by decide) (by kernel_rfl) (a_cons (e_var (by kernel_rfl)) (by kernel_rfl) .nil)) (by kernel_rfl))) (sw_or1 (t_w (sw_and (st_cmp gtD_ok bo_gt (e_var (by kernel_rfl)) se_int (by kernel_rfl)) (sw_and1 (st_cmp leD_ok bo_le (e_idx (e_var (by kernel_rfl)) se_int (by kernel_rfl)) (e_idx (e_idx (e_var (by kernel_rfl)) (se_bin subD_ok (e_var (by kernel_rfl)) se_int) (by kernel_rfl)) se_int (by kernel_rfl)) (by kernel_rfl))))))))
    (sb_cons (ss_ret (se_tup (a_cons se_str (by kernel_rfl) (a_cons (e_var (by kernel_rfl)) (by kernel_rfl) .nil))))
    sb_nil)
    sb_nil)
    sb_nil) (by kernel_rfl))
    (sb_cons (s_set (e_callP (c_first_unparented A) (by decide) (by kernel_rfl) (a_cons (e_var (by kernel_rfl)) (by kernel_rfl) .nil)) (by kernel_rfl))
    (sb_cons (ss_if (st_cmp isNotN_ok bo_is (e_var (by kernel_rfl)) se_non (by kernel_rfl))
    (sb_cons (ss_ret (se_tup (a_cons se_str (by kernel_rfl) (a_cons (e_var (by kernel_rfl)) (by kernel_rfl) .nil))))
    sb_nil)
    sb_nil)
    (sb_cons (s_set (e_callP (c_first_ringed A) (by decide) (by kernel_rfl) (a_cons (e_var (by kernel_rfl)) (by kernel_rfl) .nil)) (by kernel_rfl))
    (sb_cons (ss_ret (se_if (st_cmp isNotN_ok bo_is (e_var (by kernel_rfl)) se_non (by kernel_rfl)) (se_tup (a_cons se_str (by kernel_rfl) (a_cons (e_var (by kernel_rfl)) (by kernel_rfl) .nil))) se_non))
    sb_nil))))))
theorem s_tree_fault : FnScope N_tree_fault ["thing"] (defScope (top 28)) := ⟨rfl, rfl, rfl, by decide +kernel, rfl, by decide +kernel, by decide +kernel⟩
theorem c_tree_fault {g : GI} (A : All g) : Cal g 4 "tree_fault" ["thing"] f_tree_fault [] := by
  obtain ⟨f, fd, F, hm⟩ := A.d_tree_fault
  exact ⟨f, fd, [], [], fnG_of F s_tree_fault (w_tree_fault A), hm, F.kp, F.bindsN fun _ _ _ _ _ _ us hl => match us, hl with | [_], _ => rfl, .nil, fun _ _ _ => rfl⟩
/-! ### want_tree -/
def N_want_tree : List Str := ["tree"]
def b_want_tree : Ev → IH → RS :=
    (dSeq (dExpr (dCallP 3 f_want [.pu (.int (-1))] [(dOp (isN id) (dCallP 1 f_tree_fault [] [(dVar 0)]) (dC .non)), (dC (.str "tree"))]))
    dNx)
def f_want_tree : List D → IH → R (D × IH) := dFn 1 b_want_tree
theorem w_want_tree {g : GI} (A : All g) : SB g N_want_tree 4 (defScope (top 35)) b_want_tree (defBody (top 35)) :=
    (sb_cons (ss_expr (e_callP (c_want_2 A) (by decide) (by kernel_rfl) (a_cons (se_cmp isN_ok (e_callP (c_tree_fault A) (by decide) (by kernel_rfl) (a_cons (e_var (by kernel_rfl)) (by kernel_rfl) .nil)) se_non (by kernel_rfl)) (by kernel_rfl) (a_cons se_str (by kernel_rfl) .nil))) (by kernel_rfl))
    sb_nil)
theorem s_want_tree : FnScope N_want_tree ["tree"] (defScope (top 35)) := ⟨rfl, rfl, rfl, by decide +kernel, rfl, by decide +kernel, by decide +kernel⟩
theorem c_want_tree {g : GI} (A : All g) : Cal g 5 "want_tree" ["tree"] f_want_tree [] := by
  obtain ⟨f, fd, F, hm⟩ := A.d_want_tree
  exact ⟨f, fd, [], [], fnG_of F s_want_tree (w_want_tree A), hm, F.kp, F.bindsN fun _ _ _ _ _ _ us hl => match us, hl with | [_], _ => rfl, .nil, fun _ _ _ => rfl⟩
/-! ### rooms_by -/
def N_rooms_by : List Str := ["tree", "name", "parent", "room"]
def b_rooms_by : Ev → IH → RS :=
    (dSeq (dRet (dFz (dDc (gT [(gN 1), (gN 2), (gN 3)]) (iAny (dVar 0)) none (dVar 1) (dVar 3) [1, 2, 3])))
    dNx)
def f_rooms_by : List D → IH → R (D × IH) := dFn 4 b_rooms_by
theorem w_rooms_by {g : GI} (A : All g) : SB g N_rooms_by 0 (defScope (top 3)) b_rooms_by (defBody (top 3)) :=
    (sb_cons (ss_ret (se_fz (e_dc [("name", 1), ("parent", 2), ("room", 3)] (i_any (e_var (by kernel_rfl))) (sg_tup (g_cons (g_name (by kernel_rfl)) (by kernel_rfl) (g_cons (g_name (by kernel_rfl)) (by kernel_rfl) (g_cons (g_name (by kernel_rfl)) (by kernel_rfl) .nil)))) .nil (e_var (by kernel_rfl)) (e_var (by kernel_rfl)) (by kernel_rfl))))
    sb_nil)
theorem s_rooms_by : FnScope N_rooms_by ["tree"] (defScope (top 3)) := ⟨rfl, rfl, rfl, by decide +kernel, rfl, by decide +kernel, by decide +kernel⟩
theorem c_rooms_by {g : GI} (A : All g) : Cal g 1 "rooms_by" ["tree"] f_rooms_by [] := by
  obtain ⟨f, fd, F, hm⟩ := A.d_rooms_by
  exact ⟨f, fd, [], [], fnG_of F s_rooms_by (w_rooms_by A), hm, F.kp, F.bindsN fun _ _ _ _ _ _ us hl => match us, hl with | [_], _ => rfl, .nil, fun _ _ _ => rfl⟩
/-! ### ways_by -/
def N_ways_by : List Str := ["tree", "parents", "ways", "name", "waiting", "here", "own"]
def b_ways_by : Ev → IH → RS :=
    (dSeq (dSet 1 (dCallP 1 f_parents_by [] [(dVar 0)]))
    (dSeq (dSet 2 (dDict [((dC (.str "")), (dTup []))]))
    (dSeq (dFor (gN 3) (iAny (dCallP 1 f_names_in [] [(dVar 0)]))
    (dSeq (dSet 4 (dBox []))
    (dSeq (dSet 5 (dVar 3))
    (dSeq (dWhile (dOp notInKD (dVar 5) (dVar 2))
    (dSeq (dExpr (dMe isL appD (dVar 4) [(dVar 5)]))
    (dSeq (dSet 5 (dOp ixD (dVar 1) (dVar 5)))
    dNx)) [] 200)
    (dSeq (dFor (gN 6) (iAny (dRev (dVar 4)))
    (dSeq (dPut (dVar 2) (dVar 6) (dTupX [(false, (dVar 6)), (true, (dOp ixD (dVar 2) (dOp ixD (dVar 1) (dVar 6))))]))
    dNx) [])
    dNx)))) [])
    (dSeq (dRet (dFz (dVar 2)))
    dNx))))
def f_ways_by : List D → IH → R (D × IH) := dFn 7 b_ways_by
theorem w_ways_by {g : GI} (A : All g) : SB g N_ways_by 1 (defScope (top 4)) b_ways_by (defBody (top 4)) :=
    (sb_cons (s_set (e_callP (c_parents_by A) (by decide) (by kernel_rfl) (a_cons (e_var (by kernel_rfl)) (by kernel_rfl) .nil)) (by kernel_rfl))
    (sb_cons (s_set (se_dict (.cons se_str (se_tup .nil) .nil) (by kernel_rfl) (by kernel_rfl) (by kernel_rfl)) (by kernel_rfl))
    (sb_cons (ss_for [] (i_any (e_callP (c_names_in A) (by decide) (by kernel_rfl) (a_cons (e_var (by kernel_rfl)) (by kernel_rfl) .nil))) (g_name (by kernel_rfl))
    (sb_cons (s_set (se_box .nil) (by kernel_rfl))
    (sb_cons (s_set (e_var (by kernel_rfl)) (by kernel_rfl))
    (sb_cons (ss_while 200 [] (st_cmp notInKD_ok bo_inK (e_var (by kernel_rfl)) (e_var (by kernel_rfl)) (by kernel_rfl))
    (sb_cons (ss_expr (e_app (e_var (by kernel_rfl)) (a_cons (e_var (by kernel_rfl)) (by kernel_rfl) .nil) (by kernel_rfl)) (by kernel_rfl))
    (sb_cons (s_set (e_idx (e_var (by kernel_rfl)) (e_var (by kernel_rfl)) (by kernel_rfl)) (by kernel_rfl))
    sb_nil)))
    (sb_cons (ss_for [] (i_any (se_rev (e_var (by kernel_rfl)))) (g_name (by kernel_rfl))
    (sb_cons (s_put (e_var (by kernel_rfl)) (e_var (by kernel_rfl)) (se_tupX (x_cons (e_var (by kernel_rfl)) (by kernel_rfl) (.star (e_idx (e_var (by kernel_rfl)) (e_idx (e_var (by kernel_rfl)) (e_var (by kernel_rfl)) (by kernel_rfl)) (by kernel_rfl)) .nil))) (by kernel_rfl))
    sb_nil) (by kernel_rfl))
    sb_nil)))) (by kernel_rfl))
    (sb_cons (ss_ret (se_fz (e_var (by kernel_rfl))))
    sb_nil))))
theorem s_ways_by : FnScope N_ways_by ["tree"] (defScope (top 4)) := ⟨rfl, rfl, rfl, by decide +kernel, rfl, by decide +kernel, by decide +kernel⟩
theorem c_ways_by {g : GI} (A : All g) : Cal g 2 "ways_by" ["tree"] f_ways_by [] := by
  obtain ⟨f, fd, F, hm⟩ := A.d_ways_by
  exact ⟨f, fd, [], [], fnG_of F s_ways_by (w_ways_by A), hm, F.kp, F.bindsN fun _ _ _ _ _ _ us hl => match us, hl with | [_], _ => rfl, .nil, fun _ _ _ => rfl⟩
/-! ### counts_by -/
def N_counts_by : List Str := ["tree", "counts", "name", "count"]
def b_counts_by : Ev → IH → RS :=
    (dSeq (dRet (dFz (dDc (gT [(gN 2), (gN 3)]) (iZip (dCallP 1 f_names_in [] [(dVar 0)]) (dVar 1)) none (dVar 2) (dVar 3) [2, 3])))
    dNx)
def f_counts_by : List D → IH → R (D × IH) := dFn 4 b_counts_by
theorem w_counts_by {g : GI} (A : All g) : SB g N_counts_by 1 (defScope (top 5)) b_counts_by (defBody (top 5)) :=
    (sb_cons (ss_ret (se_fz (e_dc [("name", 2), ("count", 3)] (i_zip A.n_zip (by kernel_rfl) (a_cons (e_callP (c_names_in A) (by decide) (by kernel_rfl) (a_cons (e_var (by kernel_rfl)) (by kernel_rfl) .nil)) (by kernel_rfl) (a_cons (e_var (by kernel_rfl)) (by kernel_rfl) .nil))) (sg_tup (g_cons (g_name (by kernel_rfl)) (by kernel_rfl) (g_cons (g_name (by kernel_rfl)) (by kernel_rfl) .nil))) .nil (e_var (by kernel_rfl)) (e_var (by kernel_rfl)) (by kernel_rfl))))
    sb_nil)
theorem s_counts_by : FnScope N_counts_by ["tree", "counts"] (defScope (top 5)) := ⟨rfl, rfl, rfl, by decide +kernel, rfl, by decide +kernel, by decide +kernel⟩
theorem c_counts_by {g : GI} (A : All g) : Cal g 2 "counts_by" ["tree", "counts"] f_counts_by [] := by
  obtain ⟨f, fd, F, hm⟩ := A.d_counts_by
  exact ⟨f, fd, [], [], fnG_of F s_counts_by (w_counts_by A), hm, F.kp, F.bindsN fun _ _ _ _ _ _ us hl => match us, hl with | [_, _], _ => rfl, .nil, fun _ _ _ => rfl⟩
/-! ### uses_by -/
def N_uses_by : List Str := ["tree", "counts", "ways", "uses", "name", "count", "folder"]
def b_uses_by : Ev → IH → RS :=
    (dSeq (dSet 2 (dCallP 1 f_ways_by [] [(dVar 0)]))
    (dSeq (dSet 3 (dCall dictB [(dLc false (gN 4) (iAny (dCallP 1 f_names_in [] [(dVar 0)])) none (dTup [(dVar 4), (dC (.int 0))]) [4])]))
    (dSeq (dFor (gT [(gN 4), (gN 5)]) (iItm (dCallP 2 f_counts_by [] [(dVar 0), (dVar 1)]))
    (dSeq (dFor (gN 6) (iAny (dOp ixD (dVar 2) (dVar 4)))
    (dSeq (dPut (dVar 3) (dVar 6) (dOp addD (dOp ixD (dVar 3) (dVar 6)) (dVar 5)))
    dNx) [])
    dNx) [])
    (dSeq (dRet (dFz (dVar 3)))
    dNx))))
def f_uses_by : List D → IH → R (D × IH) := dFn 7 b_uses_by
theorem w_uses_by {g : GI} (A : All g) : SB g N_uses_by 2 (defScope (top 6)) b_uses_by (defBody (top 6)) :=
    (sb_cons (s_set (e_callP (c_ways_by A) (by decide) (by kernel_rfl) (a_cons (e_var (by kernel_rfl)) (by kernel_rfl) .nil)) (by kernel_rfl))
    (sb_cons (s_set (e_T dictB_ok bv_dict (by decide) A.n_dict (by kernel_rfl) (a_cons (e_lc [("name", 4)] (i_any (e_callP (c_names_in A) (by decide) (by kernel_rfl) (a_cons (e_var (by kernel_rfl)) (by kernel_rfl) .nil))) (g_name (by kernel_rfl)) .nil (se_tup (a_cons (e_var (by kernel_rfl)) (by kernel_rfl) (a_cons se_int (by kernel_rfl) .nil))) (by kernel_rfl)) (by kernel_rfl) .nil)) (by kernel_rfl))
    (sb_cons (ss_for [] (i_items (e_callP (c_counts_by A) (by decide) (by kernel_rfl) (a_cons (e_var (by kernel_rfl)) (by kernel_rfl) (a_cons (e_var (by kernel_rfl)) (by kernel_rfl) .nil))) (by kernel_rfl)) (sg_tup (g_cons (g_name (by kernel_rfl)) (by kernel_rfl) (g_cons (g_name (by kernel_rfl)) (by kernel_rfl) .nil)))
    (sb_cons (ss_for [] (i_any (e_idx (e_var (by kernel_rfl)) (e_var (by kernel_rfl)) (by kernel_rfl))) (g_name (by kernel_rfl))
    (sb_cons (s_put (e_var (by kernel_rfl)) (e_var (by kernel_rfl)) (se_bin addD_ok (e_idx (e_var (by kernel_rfl)) (e_var (by kernel_rfl)) (by kernel_rfl)) (e_var (by kernel_rfl))) (by kernel_rfl))
    sb_nil) (by kernel_rfl))
    sb_nil) (by kernel_rfl))
    (sb_cons (ss_ret (se_fz (e_var (by kernel_rfl))))
    sb_nil))))
theorem s_uses_by : FnScope N_uses_by ["tree", "counts"] (defScope (top 6)) := ⟨rfl, rfl, rfl, by decide +kernel, rfl, by decide +kernel, by decide +kernel⟩
theorem c_uses_by {g : GI} (A : All g) : Cal g 3 "uses_by" ["tree", "counts"] f_uses_by [] := by
  obtain ⟨f, fd, F, hm⟩ := A.d_uses_by
  exact ⟨f, fd, [], [], fnG_of F s_uses_by (w_uses_by A), hm, F.kp, F.bindsN fun _ _ _ _ _ _ us hl => match us, hl with | [_, _], _ => rfl, .nil, fun _ _ _ => rfl⟩
/-! ### frees_by -/
def N_frees_by : List Str := ["tree", "counts", "rooms", "folder", "use"]
def b_frees_by : Ev → IH → RS :=
    (dSeq (dSet 2 (dCallP 1 f_rooms_by [] [(dVar 0)]))
    (dSeq (dRet (dFz (dDc (gT [(gN 3), (gN 4)]) (iItm (dCallP 2 f_uses_by [] [(dVar 0), (dVar 1)])) none (dVar 3) (dOp subD (dOp ixD (dVar 2) (dVar 3)) (dVar 4)) [3, 4])))
    dNx))
def f_frees_by : List D → IH → R (D × IH) := dFn 5 b_frees_by
theorem w_frees_by {g : GI} (A : All g) : SB g N_frees_by 3 (defScope (top 7)) b_frees_by (defBody (top 7)) :=
    (sb_cons (s_set (e_callP (c_rooms_by A) (by decide) (by kernel_rfl) (a_cons (e_var (by kernel_rfl)) (by kernel_rfl) .nil)) (by kernel_rfl))
    (sb_cons (ss_ret (se_fz (e_dc [("folder", 3), ("use", 4)] (i_items (e_callP (c_uses_by A) (by decide) (by kernel_rfl) (a_cons (e_var (by kernel_rfl)) (by kernel_rfl) (a_cons (e_var (by kernel_rfl)) (by kernel_rfl) .nil))) (by kernel_rfl)) (sg_tup (g_cons (g_name (by kernel_rfl)) (by kernel_rfl) (g_cons (g_name (by kernel_rfl)) (by kernel_rfl) .nil))) .nil (e_var (by kernel_rfl)) (se_bin subD_ok (e_idx (e_var (by kernel_rfl)) (e_var (by kernel_rfl)) (by kernel_rfl)) (e_var (by kernel_rfl))) (by kernel_rfl))))
    sb_nil))
theorem s_frees_by : FnScope N_frees_by ["tree", "counts"] (defScope (top 7)) := ⟨rfl, rfl, rfl, by decide +kernel, rfl, by decide +kernel, by decide +kernel⟩
theorem c_frees_by {g : GI} (A : All g) : Cal g 4 "frees_by" ["tree", "counts"] f_frees_by [] := by
  obtain ⟨f, fd, F, hm⟩ := A.d_frees_by
  exact ⟨f, fd, [], [], fnG_of F s_frees_by (w_frees_by A), hm, F.kp, F.bindsN fun _ _ _ _ _ _ us hl => match us, hl with | [_, _], _ => rfl, .nil, fun _ _ _ => rfl⟩
/-! ### stand_fault -/
def N_stand_fault : List Str := ["tree", "thing", "frees", "over", "k", "count", "folder"]
def b_stand_fault : Ev → IH → RS :=
    (dSeq (dIfS (dOr (dNot (dIsi "tuple" (dVar 1))) (dOp neD (dCall lenD [(dVar 1)]) (dCall lenD [(dVar 0)])))
    (dSeq (dRet (dTup [(dC (.str "shape")), (negD (dC (.int 1)))]))
    dNx)
    dNx)
    (dSeq (dFor (gT [(gN 4), (gN 5)]) (iEnu (dVar 1))
    (dSeq (dIfS (dNot (dCallP 1 f_is_number [] [(dVar 5)]))
    (dSeq (dRet (dTup [(dC (.str "count")), (dVar 4)]))
    dNx)
    dNx)
    dNx) [])
    (dSeq (dSet 2 (dCallP 2 f_frees_by [] [(dVar 0), (dVar 1)]))
    (dSeq (dSet 3 (dLc false (gN 6) (iAny (dCallP 1 f_names_in [] [(dVar 0)])) (some (dOp ltD (dOp ixD (dVar 2) (dVar 6)) (dC (.int 0)))) (dVar 6) [6]))
    (dSeq (dRet (dIf (dOp gtD (dCall lenD [(dVar 3)]) (dC (.int 0))) (dTup [(dC (.str "full")), (dOp ixD (dVar 3) (dC (.int 0)))]) (dC .non)))
    dNx)))))
def f_stand_fault : List D → IH → R (D × IH) := dFn 7 b_stand_fault
theorem w_stand_fault {g : GI} (A : All g) : SB g N_stand_fault 4 (defScope (top 29)) b_stand_fault (defBody (top 29)) :=
    (sb_cons (ss_if (t_w (sw_or (st_not (t_plain (e_isi bv_tuple (by decide) (by decide) A.n_isinstance A.n_tuple (by kernel_rfl) (e_var (by kernel_rfl)) (by kernel_rfl)) (by kernel_rfl))) (sw_or1 (st_cmp neD_ok bo_ne (e_B lenD_ok bv_len (by decide) A.n_len (by kernel_rfl) (a_cons (e_var (by kernel_rfl)) (by kernel_rfl) .nil)) (e_B lenD_ok bv_len (by decide) A.n_len (by kernel_rfl) (a_cons (e_var (by kernel_rfl)) (by kernel_rfl) .nil)) (by kernel_rfl)))))
    (sb_cons (ss_ret (se_tup (a_cons se_str (by kernel_rfl) (a_cons (se_neg se_int) (by kernel_rfl) .nil))))
    sb_nil)
    sb_nil)
    (sb_cons (ss_for [] (i_enum A.n_enumerate (by kernel_rfl) (a_cons (e_var (by kernel_rfl)) (by kernel_rfl) .nil)) (sg_tup (g_cons (g_name (by kernel_rfl)) (by kernel_rfl) (g_cons (g_name (by kernel_rfl)) (by kernel_rfl) .nil)))
    (sb_cons (ss_if (st_not (t_plain (e_callP (c_is_number A) (by decide) (by kernel_rfl) (a_cons (e_var (by kernel_rfl)) (by kernel_rfl) .nil)) (by kernel_rfl)))
    (sb_cons (ss_ret (se_tup (a_cons se_str (by kernel_rfl) (a_cons (e_var (by kernel_rfl)) (by kernel_rfl) .nil))))
    sb_nil)
    sb_nil)
    sb_nil) (by kernel_rfl))
    (sb_cons (s_set (e_callP (c_frees_by A) (by decide) (by kernel_rfl) (a_cons (e_var (by kernel_rfl)) (by kernel_rfl) (a_cons (e_var (by kernel_rfl)) (by kernel_rfl) .nil))) (by kernel_rfl))
    (sb_cons (s_setLc [("folder", 6)] (i_any (e_callP (c_names_in A) (by decide) (by kernel_rfl) (a_cons (e_var (by kernel_rfl)) (by kernel_rfl) .nil))) (g_name (by kernel_rfl)) (.one (st_cmp ltD_ok bo_lt (e_idx (e_var (by kernel_rfl)) (e_var (by kernel_rfl)) (by kernel_rfl)) se_int (by kernel_rfl))) (e_var (by kernel_rfl)) (by kernel_rfl) (by kernel_rfl))
    (sb_cons (ss_ret (se_if (st_cmp gtD_ok bo_gt (e_B lenD_ok bv_len (by decide) A.n_len (by kernel_rfl) (a_cons (e_var (by kernel_rfl)) (by kernel_rfl) .nil)) se_int (by kernel_rfl)) (se_tup (a_cons se_str (by kernel_rfl) (a_cons (e_idx (e_var (by kernel_rfl)) se_int (by kernel_rfl)) (by kernel_rfl) .nil))) se_non))
    sb_nil)))))
theorem s_stand_fault : FnScope N_stand_fault ["tree", "thing"] (defScope (top 29)) := ⟨rfl, rfl, rfl, by decide +kernel, rfl, by decide +kernel, by decide +kernel⟩
theorem c_stand_fault {g : GI} (A : All g) : Cal g 5 "stand_fault" ["tree", "thing"] f_stand_fault [] := by
  obtain ⟨f, fd, F, hm⟩ := A.d_stand_fault
  exact ⟨f, fd, [], [], fnG_of F s_stand_fault (w_stand_fault A), hm, F.kp, F.bindsN fun _ _ _ _ _ _ us hl => match us, hl with | [_, _], _ => rfl, .nil, fun _ _ _ => rfl⟩
/-! ### want_stand -/
def N_want_stand : List Str := ["tree", "stand"]
def b_want_stand : Ev → IH → RS :=
    (dSeq (dExpr (dCallP 3 f_want [.pu (.int (-1))] [(dOp (isN id) (dCallP 2 f_stand_fault [] [(dVar 0), (dVar 1)]) (dC .non)), (dC (.str "stand"))]))
    dNx)
def f_want_stand : List D → IH → R (D × IH) := dFn 2 b_want_stand
theorem w_want_stand {g : GI} (A : All g) : SB g N_want_stand 5 (defScope (top 36)) b_want_stand (defBody (top 36)) :=
    (sb_cons (ss_expr (e_callP (c_want_2 A) (by decide) (by kernel_rfl) (a_cons (se_cmp isN_ok (e_callP (c_stand_fault A) (by decide) (by kernel_rfl) (a_cons (e_var (by kernel_rfl)) (by kernel_rfl) (a_cons (e_var (by kernel_rfl)) (by kernel_rfl) .nil))) se_non (by kernel_rfl)) (by kernel_rfl) (a_cons se_str (by kernel_rfl) .nil))) (by kernel_rfl))
    sb_nil)
theorem s_want_stand : FnScope N_want_stand ["tree", "stand"] (defScope (top 36)) := ⟨rfl, rfl, rfl, by decide +kernel, rfl, by decide +kernel, by decide +kernel⟩
theorem c_want_stand {g : GI} (A : All g) : Cal g 6 "want_stand" ["tree", "stand"] f_want_stand [] := by
  obtain ⟨f, fd, F, hm⟩ := A.d_want_stand
  exact ⟨f, fd, [], [], fnG_of F s_want_stand (w_want_stand A), hm, F.kp, F.bindsN fun _ _ _ _ _ _ us hl => match us, hl with | [_, _], _ => rfl, .nil, fun _ _ _ => rfl⟩
/-! ### want_case -/
def N_want_case : List Str := ["tree", "stand"]
def b_want_case : Ev → IH → RS :=
    (dSeq (dExpr (dCallP 1 f_want_tree [] [(dVar 0)]))
    (dSeq (dExpr (dCallP 2 f_want_stand [] [(dVar 0), (dVar 1)]))
    dNx))
def f_want_case : List D → IH → R (D × IH) := dFn 2 b_want_case
theorem w_want_case {g : GI} (A : All g) : SB g N_want_case 6 (defScope (top 38)) b_want_case (defBody (top 38)) :=
    (sb_cons (ss_expr (e_callP (c_want_tree A) (by decide) (by kernel_rfl) (a_cons (e_var (by kernel_rfl)) (by kernel_rfl) .nil)) (by kernel_rfl))
    (sb_cons (ss_expr (e_callP (c_want_stand A) (by decide) (by kernel_rfl) (a_cons (e_var (by kernel_rfl)) (by kernel_rfl) (a_cons (e_var (by kernel_rfl)) (by kernel_rfl) .nil))) (by kernel_rfl))
    sb_nil))
theorem s_want_case : FnScope N_want_case ["tree", "stand"] (defScope (top 38)) := ⟨rfl, rfl, rfl, by decide +kernel, rfl, by decide +kernel, by decide +kernel⟩
theorem c_want_case {g : GI} (A : All g) : Cal g 7 "want_case" ["tree", "stand"] f_want_case [] := by
  obtain ⟨f, fd, F, hm⟩ := A.d_want_case
  exact ⟨f, fd, [], [], fnG_of F s_want_case (w_want_case A), hm, F.kp, F.bindsN fun _ _ _ _ _ _ us hl => match us, hl with | [_, _], _ => rfl, .nil, fun _ _ _ => rfl⟩
/-! ### is_pair -/
def N_is_pair : List Str := ["thing"]
def b_is_pair : Ev → IH → RS :=
    (dSeq (dRet (dAnd (dIsi "tuple" (dVar 0)) (dOp eqD (dCall lenD [(dVar 0)]) (dC (.int 2)))))
    dNx)
def f_is_pair : List D → IH → R (D × IH) := dFn 1 b_is_pair
theorem w_is_pair {g : GI} (A : All g) : SB g N_is_pair 0 (defScope (top 21)) b_is_pair (defBody (top 21)) :=
    (sb_cons (ss_ret (se_and (e_isi bv_tuple (by decide) (by decide) A.n_isinstance A.n_tuple (by kernel_rfl) (e_var (by kernel_rfl)) (by kernel_rfl)) (se_one (se_cmp eqD_ok (e_B lenD_ok bv_len (by decide) A.n_len (by kernel_rfl) (a_cons (e_var (by kernel_rfl)) (by kernel_rfl) .nil)) se_int (by kernel_rfl)))))
    sb_nil)
theorem s_is_pair : FnScope N_is_pair ["thing"] (defScope (top 21)) := ⟨rfl, rfl, rfl, by decide +kernel, rfl, by decide +kernel, by decide +kernel⟩
theorem c_is_pair {g : GI} (A : All g) : Cal g 1 "is_pair" ["thing"] f_is_pair [] := by
  obtain ⟨f, fd, F, hm⟩ := A.d_is_pair
  exact ⟨f, fd, [], [], fnG_of F s_is_pair (w_is_pair A), hm, F.kp, F.bindsN fun _ _ _ _ _ _ us hl => match us, hl with | [_], _ => rfl, .nil, fun _ _ _ => rfl⟩
/-! ### is_move -/
def N_is_move : List Str := ["thing"]
def b_is_move : Ev → IH → RS :=
    (dSeq (dRet (dAnd (dCallP 1 f_is_pair [] [(dVar 0)]) (dAnd (dCallP 1 f_is_spot [] [(dOp ixD (dVar 0) (dC (.int 0)))]) (dAnd (dCallP 1 f_is_spot [] [(dOp ixD (dVar 0) (dC (.int 1)))]) (dOp neD (dOp ixD (dVar 0) (dC (.int 0))) (dOp ixD (dVar 0) (dC (.int 1))))))))
    dNx)
def f_is_move : List D → IH → R (D × IH) := dFn 1 b_is_move
theorem w_is_move {g : GI} (A : All g) : SB g N_is_move 2 (defScope (top 24)) b_is_move (defBody (top 24)) :=
    (sb_cons (ss_ret (se_and (e_callP (c_is_pair A) (by decide) (by kernel_rfl) (a_cons (e_var (by kernel_rfl)) (by kernel_rfl) .nil)) (se_and (e_callP (c_is_spot A) (by decide) (by kernel_rfl) (a_cons (e_idx (e_var (by kernel_rfl)) se_int (by kernel_rfl)) (by kernel_rfl) .nil)) (se_and (e_callP (c_is_spot A) (by decide) (by kernel_rfl) (a_cons (e_idx (e_var (by kernel_rfl)) se_int (by kernel_rfl)) (by kernel_rfl) .nil)) (se_one (se_cmp neD_ok (e_idx (e_var (by kernel_rfl)) se_int (by kernel_rfl)) (e_idx (e_var (by kernel_rfl)) se_int (by kernel_rfl)) (by kernel_rfl)))))))
    sb_nil)
theorem s_is_move : FnScope N_is_move ["thing"] (defScope (top 24)) := ⟨rfl, rfl, rfl, by decide +kernel, rfl, by decide +kernel, by decide +kernel⟩
theorem c_is_move {g : GI} (A : All g) : Cal g 3 "is_move" ["thing"] f_is_move [] := by
  obtain ⟨f, fd, F, hm⟩ := A.d_is_move
  exact ⟨f, fd, [], [], fnG_of F s_is_move (w_is_move A), hm, F.kp, F.bindsN fun _ _ _ _ _ _ us hl => match us, hl with | [_], _ => rfl, .nil, fun _ _ _ => rfl⟩
/-! ### is_move_of -/
def N_is_move_of : List Str := ["tree", "thing", "parents", "spot"]
def b_is_move_of : Ev → IH → RS :=
    (dSeq (dIfS (dNot (dCallP 1 f_is_move [] [(dVar 1)]))
    (dSeq (dRet (dC (.bl false)))
    dNx)
    dNx)
    (dSeq (dSet 2 (dCallP 1 f_parents_by [] [(dVar 0)]))
    (dSeq (dRet (dCall allD [(dLc false (gN 3) (iAny (dVar 1)) none (dOr (dOp eqD (dVar 3) (dC (.str ""))) (dOp inKD (dVar 3) (dVar 2))) [3])]))
    dNx)))
def f_is_move_of : List D → IH → R (D × IH) := dFn 4 b_is_move_of
theorem w_is_move_of {g : GI} (A : All g) : SB g N_is_move_of 3 (defScope (top 30)) b_is_move_of (defBody (top 30)) :=
    (sb_cons (ss_if (st_not (t_plain (e_callP (c_is_move A) (by decide) (by kernel_rfl) (a_cons (e_var (by kernel_rfl)) (by kernel_rfl) .nil)) (by kernel_rfl)))
    (sb_cons (ss_ret se_bl)
    sb_nil)
    sb_nil)
    (sb_cons (s_set (e_callP (c_parents_by A) (by decide) (by kernel_rfl) (a_cons (e_var (by kernel_rfl)) (by kernel_rfl) .nil)) (by kernel_rfl))
    (sb_cons (ss_ret (e_B allD_ok bv_all (by decide) A.n_all (by kernel_rfl) (a_cons (e_lc [("spot", 3)] (i_any (e_var (by kernel_rfl))) (g_name (by kernel_rfl)) .nil (se_or (se_cmp eqD_ok (e_var (by kernel_rfl)) se_str (by kernel_rfl)) (se_one (se_cmp inKD_ok (e_var (by kernel_rfl)) (e_var (by kernel_rfl)) (by kernel_rfl)))) (by kernel_rfl)) (by kernel_rfl) .nil)))
    sb_nil)))
theorem s_is_move_of : FnScope N_is_move_of ["tree", "thing"] (defScope (top 30)) := ⟨rfl, rfl, rfl, by decide +kernel, rfl, by decide +kernel, by decide +kernel⟩
theorem c_is_move_of {g : GI} (A : All g) : Cal g 4 "is_move_of" ["tree", "thing"] f_is_move_of [] := by
  obtain ⟨f, fd, F, hm⟩ := A.d_is_move_of
  exact ⟨f, fd, [], [], fnG_of F s_is_move_of (w_is_move_of A), hm, F.kp, F.bindsN fun _ _ _ _ _ _ us hl => match us, hl with | [_, _], _ => rfl, .nil, fun _ _ _ => rfl⟩
/-! ### moves_fault -/
def N_moves_fault : List Str := ["tree", "thing", "k", "move"]
def b_moves_fault : Ev → IH → RS :=
    (dSeq (dIfS (dNot (dIsi "tuple" (dVar 1)))
    (dSeq (dRet (dTup [(dC (.str "shape")), (negD (dC (.int 1)))]))
    dNx)
    dNx)
    (dSeq (dFor (gT [(gN 2), (gN 3)]) (iEnu (dVar 1))
    (dSeq (dIfS (dOr (dNot (dCallP 2 f_is_move_of [] [(dVar 0), (dVar 3)])) (dAnd (dOp gtD (dVar 2) (dC (.int 0))) (dOp ltD (dVar 3) (dOp ixD (dVar 1) (dOp subD (dVar 2) (dC (.int 1)))))))
    (dSeq (dRet (dTup [(dC (.str "move")), (dVar 2)]))
    dNx)
    dNx)
    dNx) [])
    (dSeq (dRet (dC .non))
    dNx)))
def f_moves_fault : List D → IH → R (D × IH) := dFn 4 b_moves_fault
theorem w_moves_fault {g : GI} (A : All g) : SB g N_moves_fault 4 (defScope (top 31)) b_moves_fault (defBody (top 31)) :=
    (sb_cons (ss_if (st_not (t_plain (e_isi bv_tuple (by decide) (by decide) A.n_isinstance A.n_tuple (by kernel_rfl) (e_var (by kernel_rfl)) (by kernel_rfl)) (by kernel_rfl)))
    (sb_cons (ss_ret (se_tup (a_cons se_str (by kernel_rfl) (a_cons (se_neg se_int) (by kernel_rfl) .nil))))
    sb_nil)
    sb_nil)
    (sb_cons (ss_for [] (i_enum A.n_enumerate (by kernel_rfl) (a_cons (e_var (by kernel_rfl)) (by kernel_rfl) .nil)) (sg_tup (g_cons (g_name (by kernel_rfl)) (by kernel_rfl) (g_cons (g_name (by kernel_rfl)) (by kernel_rfl) .nil)))
    (sb_cons (ss_if (t_w (sw_or (st_not (t_plain (e_callP (c_is_move_of A) (by decide) (by kernel_rfl) (a_cons (e_var (by kernel_rfl)) (by kernel_rfl) (a_cons (e_var (by kernel_rfl)) (by kernel_rfl) .nil))) (by kernel_rfl))) (sw_or1 (t_w (sw_and (st_cmp gtD_ok bo_gt (e_var (by kernel_rfl)) se_int (by kernel_rfl)) (sw_and1 (st_cmp ltD_ok bo_lt (e_var (by kernel_rfl)) (e_idx (e_var (by kernel_rfl)) (se_bin subD_ok (e_var (by kernel_rfl)) se_int) (by kernel_rfl)) (by kernel_rfl))))))))
    (sb_cons (ss_ret (se_tup (a_cons se_str (by kernel_rfl) (a_cons (e_var (by kernel_rfl)) (by kernel_rfl) .nil))))
    sb_nil)
    sb_nil)
    sb_nil) (by kernel_rfl))
    (sb_cons (ss_ret se_non)
    sb_nil)))
theorem s_moves_fault : FnScope N_moves_fault ["tree", "thing"] (defScope (top 31)) := ⟨rfl, rfl, rfl, by decide +kernel, rfl, by decide +kernel, by decide +kernel⟩
theorem c_moves_fault {g : GI} (A : All g) : Cal g 5 "moves_fault" ["tree", "thing"] f_moves_fault [] := by
  obtain ⟨f, fd, F, hm⟩ := A.d_moves_fault
  exact ⟨f, fd, [], [], fnG_of F s_moves_fault (w_moves_fault A), hm, F.kp, F.bindsN fun _ _ _ _ _ _ us hl => match us, hl with | [_, _], _ => rfl, .nil, fun _ _ _ => rfl⟩
/-! ### lot_fault -/
def N_lot_fault : List Str := ["tree", "stand", "thing", "fault", "counts", "sources", "over", "folder", "source", "target"]
def b_lot_fault : Ev → IH → RS :=
    (dSeq (dSet 3 (dCallP 2 f_moves_fault [] [(dVar 0), (dVar 2)]))
    (dSeq (dIfS (dOp (isN not) (dVar 3) (dC .non))
    (dSeq (dRet (dVar 3))
    dNx)
    dNx)
    (dSeq (dSet 4 (dCallP 2 f_counts_by [] [(dVar 0), (dVar 1)]))
    (dSeq (dSet 5 (dLc false (gT [(gN 8), (gN 9)]) (iAny (dVar 2)) none (dVar 8) [8, 9]))
    (dSeq (dSet 6 (dLc false (gN 7) (iAny (dCallP 1 f_names_in [] [(dVar 0)])) (some (dOp gtD (dMe isL cntL (dVar 5) [(dVar 7)]) (dOp ixD (dVar 4) (dVar 7)))) (dVar 7) [7]))
    (dSeq (dRet (dIf (dOp gtD (dCall lenD [(dVar 6)]) (dC (.int 0))) (dTup [(dC (.str "files")), (dOp ixD (dVar 6) (dC (.int 0)))]) (dC .non)))
    dNx))))))
def f_lot_fault : List D → IH → R (D × IH) := dFn 10 b_lot_fault
theorem w_lot_fault {g : GI} (A : All g) : SB g N_lot_fault 5 (defScope (top 32)) b_lot_fault (defBody (top 32)) :=
    (sb_cons (s_set (e_callP (c_moves_fault A) (by decide) (by kernel_rfl) (a_cons (e_var (by kernel_rfl)) (by kernel_rfl) (a_cons (e_var (by kernel_rfl)) (by kernel_rfl) .nil))) (by kernel_rfl))
    (sb_cons (ss_if (st_cmp isNotN_ok bo_is (e_var (by kernel_rfl)) se_non (by kernel_rfl))
    (sb_cons (ss_ret (e_var (by kernel_rfl)))
    sb_nil)
    sb_nil)
    (sb_cons (s_set (e_callP (c_counts_by A) (by decide) (by kernel_rfl) (a_cons (e_var (by kernel_rfl)) (by kernel_rfl) (a_cons (e_var (by kernel_rfl)) (by kernel_rfl) .nil))) (by kernel_rfl))
    (sb_cons (s_set (e_lc [("source", 8), ("target", 9)] (i_any (e_var (by kernel_rfl))) (sg_tup (g_cons (g_name (by kernel_rfl)) (by kernel_rfl) (g_cons (g_name (by kernel_rfl)) (by kernel_rfl) .nil))) .nil (e_var (by kernel_rfl)) (by kernel_rfl)) (by kernel_rfl))
    (sb_cons (s_setLc [("folder", 7)] (i_any (e_callP (c_names_in A) (by decide) (by kernel_rfl) (a_cons (e_var (by kernel_rfl)) (by kernel_rfl) .nil))) (g_name (by kernel_rfl)) (.one (st_cmp gtD_ok bo_gt (e_count (e_var (by kernel_rfl)) (a_cons (e_var (by kernel_rfl)) (by kernel_rfl) .nil) (by kernel_rfl) (fun _ => rfl)) (e_idx (e_var (by kernel_rfl)) (e_var (by kernel_rfl)) (by kernel_rfl)) (by kernel_rfl))) (e_var (by kernel_rfl)) (by kernel_rfl) (by kernel_rfl))
    (sb_cons (ss_ret (se_if (st_cmp gtD_ok bo_gt (e_B lenD_ok bv_len (by decide) A.n_len (by kernel_rfl) (a_cons (e_var (by kernel_rfl)) (by kernel_rfl) .nil)) se_int (by kernel_rfl)) (se_tup (a_cons se_str (by kernel_rfl) (a_cons (e_idx (e_var (by kernel_rfl)) se_int (by kernel_rfl)) (by kernel_rfl) .nil))) se_non))
    sb_nil))))))
theorem s_lot_fault : FnScope N_lot_fault ["tree", "stand", "thing"] (defScope (top 32)) := ⟨rfl, rfl, rfl, by decide +kernel, rfl, by decide +kernel, by decide +kernel⟩
theorem c_lot_fault {g : GI} (A : All g) : Cal g 6 "lot_fault" ["tree", "stand", "thing"] f_lot_fault [] := by
  obtain ⟨f, fd, F, hm⟩ := A.d_lot_fault
  exact ⟨f, fd, [], [], fnG_of F s_lot_fault (w_lot_fault A), hm, F.kp, F.bindsN fun _ _ _ _ _ _ us hl => match us, hl with | [_, _, _], _ => rfl, .nil, fun _ _ _ => rfl⟩
/-! ### want_lot -/
def N_want_lot : List Str := ["tree", "stand", "lot"]
def b_want_lot : Ev → IH → RS :=
    (dSeq (dExpr (dCallP 3 f_want [.pu (.int (-1))] [(dOp (isN id) (dCallP 3 f_lot_fault [] [(dVar 0), (dVar 1), (dVar 2)]) (dC .non)), (dC (.str "lot"))]))
    dNx)
def f_want_lot : List D → IH → R (D × IH) := dFn 3 b_want_lot
theorem w_want_lot {g : GI} (A : All g) : SB g N_want_lot 6 (defScope (top 37)) b_want_lot (defBody (top 37)) :=
    (sb_cons (ss_expr (e_callP (c_want_2 A) (by decide) (by kernel_rfl) (a_cons (se_cmp isN_ok (e_callP (c_lot_fault A) (by decide) (by kernel_rfl) (a_cons (e_var (by kernel_rfl)) (by kernel_rfl) (a_cons (e_var (by kernel_rfl)) (by kernel_rfl) (a_cons (e_var (by kernel_rfl)) (by kernel_rfl) .nil)))) se_non (by kernel_rfl)) (by kernel_rfl) (a_cons se_str (by kernel_rfl) .nil))) (by kernel_rfl))
    sb_nil)
theorem s_want_lot : FnScope N_want_lot ["tree", "stand", "lot"] (defScope (top 37)) := ⟨rfl, rfl, rfl, by decide +kernel, rfl, by decide +kernel, by decide +kernel⟩
theorem c_want_lot {g : GI} (A : All g) : Cal g 7 "want_lot" ["tree", "stand", "lot"] f_want_lot [] := by
  obtain ⟨f, fd, F, hm⟩ := A.d_want_lot
  exact ⟨f, fd, [], [], fnG_of F s_want_lot (w_want_lot A), hm, F.kp, F.bindsN fun _ _ _ _ _ _ us hl => match us, hl with | [_, _, _], _ => rfl, .nil, fun _ _ _ => rfl⟩
/-! ### want_lots -/
def N_want_lots : List Str := ["tree", "stand", "lot"]
def b_want_lots : Ev → IH → RS :=
    (dSeq (dExpr (dCallP 2 f_want_case [] [(dVar 0), (dVar 1)]))
    (dSeq (dExpr (dCallP 3 f_want_lot [] [(dVar 0), (dVar 1), (dVar 2)]))
    dNx))
def f_want_lots : List D → IH → R (D × IH) := dFn 3 b_want_lots
theorem w_want_lots {g : GI} (A : All g) : SB g N_want_lots 7 (defScope (top 39)) b_want_lots (defBody (top 39)) :=
    (sb_cons (ss_expr (e_callP (c_want_case A) (by decide) (by kernel_rfl) (a_cons (e_var (by kernel_rfl)) (by kernel_rfl) (a_cons (e_var (by kernel_rfl)) (by kernel_rfl) .nil))) (by kernel_rfl))
    (sb_cons (ss_expr (e_callP (c_want_lot A) (by decide) (by kernel_rfl) (a_cons (e_var (by kernel_rfl)) (by kernel_rfl) (a_cons (e_var (by kernel_rfl)) (by kernel_rfl) (a_cons (e_var (by kernel_rfl)) (by kernel_rfl) .nil)))) (by kernel_rfl))
    sb_nil))
theorem s_want_lots : FnScope N_want_lots ["tree", "stand", "lot"] (defScope (top 39)) := ⟨rfl, rfl, rfl, by decide +kernel, rfl, by decide +kernel, by decide +kernel⟩
theorem c_want_lots {g : GI} (A : All g) : Cal g 8 "want_lots" ["tree", "stand", "lot"] f_want_lots [] := by
  obtain ⟨f, fd, F, hm⟩ := A.d_want_lots
  exact ⟨f, fd, [], [], fnG_of F s_want_lots (w_want_lots A), hm, F.kp, F.bindsN fun _ _ _ _ _ _ us hl => match us, hl with | [_, _, _], _ => rfl, .nil, fun _ _ _ => rfl⟩
/-! ### stand_by -/
def N_stand_by : List Str := ["tree", "stand", "move", "late", "source", "target", "name", "many"]
def b_stand_by : Ev → IH → RS :=
    (dSeq (dAsg (gT [(gN 4), (gN 5)]) (dVar 2))
    (dSeq (dSet 3 (dBox []))
    (dSeq (dFor (gT [(gN 6), (gN 7)]) (iZip (dCallP 1 f_names_in [] [(dVar 0)]) (dVar 1))
    (dSeq (dExpr (dMe isL appD (dVar 3) [(dOp subD (dOp addD (dVar 7) (dIf (dOp eqD (dVar 6) (dVar 5)) (dC (.int 1)) (dC (.int 0)))) (dIf (dOp eqD (dVar 6) (dVar 4)) (dC (.int 1)) (dC (.int 0))))]))
    dNx) [])
    (dSeq (dSeq (dFzV 3) (dRet (dCall tupleD [(dVar 3)])))
    dNx))))
def f_stand_by : List D → IH → R (D × IH) := dFn 8 b_stand_by
theorem w_stand_by {g : GI} (A : All g) : SB g N_stand_by 1 (defScope (top 9)) b_stand_by (defBody (top 9)) :=
    (sb_cons (ss_asg (sg_tup (g_cons (g_name (by kernel_rfl)) (by kernel_rfl) (g_cons (g_name (by kernel_rfl)) (by kernel_rfl) .nil))) (e_var (by kernel_rfl)) (by kernel_rfl) (by kernel_rfl))
    (sb_cons (s_set (se_box .nil) (by kernel_rfl))
    (sb_cons (ss_for [] (i_zip A.n_zip (by kernel_rfl) (a_cons (e_callP (c_names_in A) (by decide) (by kernel_rfl) (a_cons (e_var (by kernel_rfl)) (by kernel_rfl) .nil)) (by kernel_rfl) (a_cons (e_var (by kernel_rfl)) (by kernel_rfl) .nil))) (sg_tup (g_cons (g_name (by kernel_rfl)) (by kernel_rfl) (g_cons (g_name (by kernel_rfl)) (by kernel_rfl) .nil)))
    (sb_cons (ss_expr (e_app (e_var (by kernel_rfl)) (a_cons (se_bin subD_ok (se_bin addD_ok (e_var (by kernel_rfl)) (se_if (st_cmp eqD_ok bo_eq (e_var (by kernel_rfl)) (e_var (by kernel_rfl)) (by kernel_rfl)) se_int se_int)) (se_if (st_cmp eqD_ok bo_eq (e_var (by kernel_rfl)) (e_var (by kernel_rfl)) (by kernel_rfl)) se_int se_int)) (by kernel_rfl) .nil) (by kernel_rfl)) (by kernel_rfl))
    sb_nil) (by kernel_rfl))
    (sb_cons (ss_fzv (i := 3) (ss_ret (e_T tupleD_ok bv_tuple (by decide) A.n_tuple (by kernel_rfl) (a_cons (e_var (by kernel_rfl)) (by kernel_rfl) .nil))))
    sb_nil))))
theorem s_stand_by : FnScope N_stand_by ["tree", "stand", "move"] (defScope (top 9)) := ⟨rfl, rfl, rfl, by decide +kernel, rfl, by decide +kernel, by decide +kernel⟩
theorem c_stand_by {g : GI} (A : All g) : Cal g 2 "stand_by" ["tree", "stand", "move"] f_stand_by [] := by
  obtain ⟨f, fd, F, hm⟩ := A.d_stand_by
  exact ⟨f, fd, [], [], fnG_of F s_stand_by (w_stand_by A), hm, F.kp, F.bindsN fun _ _ _ _ _ _ us hl => match us, hl with | [_, _, _], _ => rfl, .nil, fun _ _ _ => rfl⟩
/-! ### counts_at -/
def N_counts_at : List Str := ["tree", "stand", "lot", "move"]
def b_counts_at : Ev → IH → RS :=
    (dSeq (dFor (gN 3) (iAny (dVar 2))
    (dSeq (dSet 1 (dCallP 3 f_stand_by [] [(dVar 0), (dVar 1), (dVar 3)]))
    dNx) [])
    (dSeq (dRet (dVar 1))
    dNx))
def f_counts_at : List D → IH → R (D × IH) := dFn 4 b_counts_at
theorem w_counts_at {g : GI} (A : All g) : SB g N_counts_at 2 (defScope (top 41)) b_counts_at (defBody (top 41)) :=
    (sb_cons (ss_for [] (i_any (e_var (by kernel_rfl))) (g_name (by kernel_rfl))
    (sb_cons (s_set (e_callP (c_stand_by A) (by decide) (by kernel_rfl) (a_cons (e_var (by kernel_rfl)) (by kernel_rfl) (a_cons (e_var (by kernel_rfl)) (by kernel_rfl) (a_cons (e_var (by kernel_rfl)) (by kernel_rfl) .nil)))) (by kernel_rfl))
    sb_nil) (by kernel_rfl))
    (sb_cons (ss_ret (e_var (by kernel_rfl)))
    sb_nil))
theorem s_counts_at : FnScope N_counts_at ["tree", "stand", "lot"] (defScope (top 41)) := ⟨rfl, rfl, rfl, by decide +kernel, rfl, by decide +kernel, by decide +kernel⟩
theorem c_counts_at {g : GI} (A : All g) : Cal g 3 "counts_at" ["tree", "stand", "lot"] f_counts_at [] := by
  obtain ⟨f, fd, F, hm⟩ := A.d_counts_at
  exact ⟨f, fd, [], [], fnG_of F s_counts_at (w_counts_at A), hm, F.kp, F.bindsN fun _ _ _ _ _ _ us hl => match us, hl with | [_, _, _], _ => rfl, .nil, fun _ _ _ => rfl⟩
/-! ### end_counts -/
def N_end_counts : List Str := ["tree", "stand", "lot"]
def b_end_counts : Ev → IH → RS :=
    (dSeq (dExpr (dCallP 3 f_want_lots [] [(dVar 0), (dVar 1), (dVar 2)]))
    (dSeq (dRet (dCallP 3 f_counts_at [] [(dVar 0), (dVar 1), (dVar 2)]))
    dNx))
def f_end_counts : List D → IH → R (D × IH) := dFn 3 b_end_counts
theorem w_end_counts {g : GI} (A : All g) : SB g N_end_counts 8 (defScope (top 44)) b_end_counts (defBody (top 44)) :=
    (sb_cons (ss_expr (e_callP (c_want_lots A) (by decide) (by kernel_rfl) (a_cons (e_var (by kernel_rfl)) (by kernel_rfl) (a_cons (e_var (by kernel_rfl)) (by kernel_rfl) (a_cons (e_var (by kernel_rfl)) (by kernel_rfl) .nil)))) (by kernel_rfl))
    (sb_cons (ss_ret (e_callP (c_counts_at A) (by decide) (by kernel_rfl) (a_cons (e_var (by kernel_rfl)) (by kernel_rfl) (a_cons (e_var (by kernel_rfl)) (by kernel_rfl) (a_cons (e_var (by kernel_rfl)) (by kernel_rfl) .nil)))))
    sb_nil))
theorem s_end_counts : FnScope N_end_counts ["tree", "stand", "lot"] (defScope (top 44)) := ⟨rfl, rfl, rfl, by decide +kernel, rfl, by decide +kernel, by decide +kernel⟩
theorem k_end_counts_2_1_0 {g : GI} (A : All g) : CalK g 9 "end_counts" ["tree", "stand", "lot"] ["lot", "stand", "tree"] [2, 1, 0] f_end_counts := by
  obtain ⟨f, fd, F, hm⟩ := A.d_end_counts
  exact ⟨f, fd, fnG_of F s_end_counts (w_end_counts A), hm, F.kp, kwA F fun _ _ _ _ _ _ us hl => match us, hl with | [_, _, _], _ => rfl⟩
theorem c_end_counts {g : GI} (A : All g) : Cal g 9 "end_counts" ["tree", "stand", "lot"] f_end_counts [] := by
  obtain ⟨f, fd, F, hm⟩ := A.d_end_counts
  exact ⟨f, fd, [], [], fnG_of F s_end_counts (w_end_counts A), hm, F.kp, F.bindsN fun _ _ _ _ _ _ us hl => match us, hl with | [_, _, _], _ => rfl, .nil, fun _ _ _ => rfl⟩
/-! ### misfits_at -/
def N_misfits_at : List Str := ["tree", "stand", "lot", "frees", "folder"]
def b_misfits_at : Ev → IH → RS :=
    (dSeq (dSet 3 (dCallP 2 f_frees_by [] [(dVar 0), (dCallP 3 f_counts_at [] [(dVar 0), (dVar 1), (dVar 2)])]))
    (dSeq (dRet (dCall tupleD [(dSoS (dLc false (gN 4) (iAny (dCall listA [(dVar 3)])) (some (dOp ltD (dOp ixD (dVar 3) (dVar 4)) (dC (.int 0)))) (dVar 4) [4]))]))
    dNx))
def f_misfits_at : List D → IH → R (D × IH) := dFn 5 b_misfits_at
theorem w_misfits_at {g : GI} (A : All g) : SB g N_misfits_at 4 (defScope (top 42)) b_misfits_at (defBody (top 42)) :=
    (sb_cons (s_set (e_callP (c_frees_by A) (by decide) (by kernel_rfl) (a_cons (e_var (by kernel_rfl)) (by kernel_rfl) (a_cons (e_callP (c_counts_at A) (by decide) (by kernel_rfl) (a_cons (e_var (by kernel_rfl)) (by kernel_rfl) (a_cons (e_var (by kernel_rfl)) (by kernel_rfl) (a_cons (e_var (by kernel_rfl)) (by kernel_rfl) .nil)))) (by kernel_rfl) .nil))) (by kernel_rfl))
    (sb_cons (ss_ret (e_T tupleD_ok bv_tuple (by decide) A.n_tuple (by kernel_rfl) (a_cons (e_sos A.n_sorted A.n_set (by kernel_rfl) (e_lc [("folder", 4)] (i_any (e_T listA_ok bv_list (by decide) A.n_list (by kernel_rfl) (a_cons (e_var (by kernel_rfl)) (by kernel_rfl) .nil))) (g_name (by kernel_rfl)) (.one (st_cmp ltD_ok bo_lt (e_idx (e_var (by kernel_rfl)) (e_var (by kernel_rfl)) (by kernel_rfl)) se_int (by kernel_rfl))) (e_var (by kernel_rfl)) (by kernel_rfl)) (by kernel_rfl)) (by kernel_rfl) .nil)))
    sb_nil))
theorem s_misfits_at : FnScope N_misfits_at ["tree", "stand", "lot"] (defScope (top 42)) := ⟨rfl, rfl, rfl, by decide +kernel, rfl, by decide +kernel, by decide +kernel⟩
theorem c_misfits_at {g : GI} (A : All g) : Cal g 5 "misfits_at" ["tree", "stand", "lot"] f_misfits_at [] := by
  obtain ⟨f, fd, F, hm⟩ := A.d_misfits_at
  exact ⟨f, fd, [], [], fnG_of F s_misfits_at (w_misfits_at A), hm, F.kp, F.bindsN fun _ _ _ _ _ _ us hl => match us, hl with | [_, _, _], _ => rfl, .nil, fun _ _ _ => rfl⟩
/-! ### misfits -/
def N_misfits : List Str := ["tree", "stand", "lot"]
def b_misfits : Ev → IH → RS :=
    (dSeq (dExpr (dCallP 3 f_want_lots [] [(dVar 0), (dVar 1), (dVar 2)]))
    (dSeq (dRet (dCallP 3 f_misfits_at [] [(dVar 0), (dVar 1), (dVar 2)]))
    dNx))
def f_misfits : List D → IH → R (D × IH) := dFn 3 b_misfits
theorem w_misfits {g : GI} (A : All g) : SB g N_misfits 8 (defScope (top 45)) b_misfits (defBody (top 45)) :=
    (sb_cons (ss_expr (e_callP (c_want_lots A) (by decide) (by kernel_rfl) (a_cons (e_var (by kernel_rfl)) (by kernel_rfl) (a_cons (e_var (by kernel_rfl)) (by kernel_rfl) (a_cons (e_var (by kernel_rfl)) (by kernel_rfl) .nil)))) (by kernel_rfl))
    (sb_cons (ss_ret (e_callP (c_misfits_at A) (by decide) (by kernel_rfl) (a_cons (e_var (by kernel_rfl)) (by kernel_rfl) (a_cons (e_var (by kernel_rfl)) (by kernel_rfl) (a_cons (e_var (by kernel_rfl)) (by kernel_rfl) .nil)))))
    sb_nil))
theorem s_misfits : FnScope N_misfits ["tree", "stand", "lot"] (defScope (top 45)) := ⟨rfl, rfl, rfl, by decide +kernel, rfl, by decide +kernel, by decide +kernel⟩
theorem k_misfits_1_2_0 {g : GI} (A : All g) : CalK g 9 "misfits" ["tree", "stand", "lot"] ["lot", "tree", "stand"] [1, 2, 0] f_misfits := by
  obtain ⟨f, fd, F, hm⟩ := A.d_misfits
  exact ⟨f, fd, fnG_of F s_misfits (w_misfits A), hm, F.kp, kwA F fun _ _ _ _ _ _ us hl => match us, hl with | [_, _, _], _ => rfl⟩
theorem c_misfits {g : GI} (A : All g) : Cal g 9 "misfits" ["tree", "stand", "lot"] f_misfits [] := by
  obtain ⟨f, fd, F, hm⟩ := A.d_misfits
  exact ⟨f, fd, [], [], fnG_of F s_misfits (w_misfits A), hm, F.kp, F.bindsN fun _ _ _ _ _ _ us hl => match us, hl with | [_, _, _], _ => rfl, .nil, fun _ _ _ => rfl⟩
/-! ### fits -/
def N_fits : List Str := ["tree", "stand", "lot"]
def b_fits : Ev → IH → RS :=
    (dSeq (dRet (dOp eqD (dCallP 3 f_misfits [] [(dVar 0), (dVar 1), (dVar 2)]) (dTup [])))
    dNx)
def f_fits : List D → IH → R (D × IH) := dFn 3 b_fits
theorem w_fits {g : GI} (A : All g) : SB g N_fits 9 (defScope (top 46)) b_fits (defBody (top 46)) :=
    (sb_cons (ss_ret (se_cmp eqD_ok (e_callP (c_misfits A) (by decide) (by kernel_rfl) (a_cons (e_var (by kernel_rfl)) (by kernel_rfl) (a_cons (e_var (by kernel_rfl)) (by kernel_rfl) (a_cons (e_var (by kernel_rfl)) (by kernel_rfl) .nil)))) (se_tup .nil) (by kernel_rfl)))
    sb_nil)
theorem s_fits : FnScope N_fits ["tree", "stand", "lot"] (defScope (top 46)) := ⟨rfl, rfl, rfl, by decide +kernel, rfl, by decide +kernel, by decide +kernel⟩
theorem k_fits_2_0_1 {g : GI} (A : All g) : CalK g 10 "fits" ["tree", "stand", "lot"] ["stand", "lot", "tree"] [2, 0, 1] f_fits := by
  obtain ⟨f, fd, F, hm⟩ := A.d_fits
  exact ⟨f, fd, fnG_of F s_fits (w_fits A), hm, F.kp, kwA F fun _ _ _ _ _ _ us hl => match us, hl with | [_, _, _], _ => rfl⟩
theorem c_fits {g : GI} (A : All g) : Cal g 10 "fits" ["tree", "stand", "lot"] f_fits [] := by
  obtain ⟨f, fd, F, hm⟩ := A.d_fits
  exact ⟨f, fd, [], [], fnG_of F s_fits (w_fits A), hm, F.kp, F.bindsN fun _ _ _ _ _ _ us hl => match us, hl with | [_, _, _], _ => rfl, .nil, fun _ _ _ => rfl⟩
/-! ### _law_moved -/
def N__law_moved : List Str := ["_law_wood_here", "_law_shelf", "_law_step", "_law_names", "_law_late", "_law_j", "_law_row_in"]
def b__law_moved : Ev → IH → RS :=
    (dSeq (dPar 3 4 (dLc false (gN 6) (iAny (dVar 0)) none (dOp ixD (dVar 6) (dC (.int 0))) [6]) (dCall listB [(dVar 1)]))
    (dSeq (dIfS (dOp neD (dOp ixD (dVar 2) (dC (.int 0))) (dC (.str "")))
    (dSeq (dSet 5 (dMe isL idxL (dVar 3) [(dOp ixD (dVar 2) (dC (.int 0)))]))
    (dSeq (dPut (dVar 4) (dVar 5) (dOp subD (dOp ixD (dVar 4) (dVar 5)) (dC (.int 1))))
    dNx))
    dNx)
    (dSeq (dIfS (dOp neD (dOp ixD (dVar 2) (dC (.int 1))) (dC (.str "")))
    (dSeq (dSet 5 (dMe isL idxL (dVar 3) [(dOp ixD (dVar 2) (dC (.int 1)))]))
    (dSeq (dPut (dVar 4) (dVar 5) (dOp addD (dOp ixD (dVar 4) (dVar 5)) (dC (.int 1))))
    dNx))
    dNx)
    (dSeq (dSeq (dFzV 4) (dRet (dCall tupleD [(dVar 4)])))
    dNx))))
def f__law_moved : List D → IH → R (D × IH) := dFn 7 b__law_moved
theorem w__law_moved {g : GI} (A : All g) : SB g N__law_moved 0 (defScope (top 59)) b__law_moved (defBody (top 59)) :=
    (sb_cons (s_par (a_cons (e_lc [("_law_row_in", 6)] (i_any (e_var (by kernel_rfl))) (g_name (by kernel_rfl)) .nil (e_idx (e_var (by kernel_rfl)) se_int (by kernel_rfl)) (by kernel_rfl)) (by kernel_rfl) (a_cons (e_T listB_ok bv_list (by decide) A.n_list (by kernel_rfl) (a_cons (e_var (by kernel_rfl)) (by kernel_rfl) .nil)) (by kernel_rfl) .nil)) (by kernel_rfl))
    (sb_cons (ss_if (st_cmp neD_ok bo_ne (e_idx (e_var (by kernel_rfl)) se_int (by kernel_rfl)) se_str (by kernel_rfl))
    (sb_cons (s_set (e_index (e_var (by kernel_rfl)) (a_cons (e_idx (e_var (by kernel_rfl)) se_int (by kernel_rfl)) (by kernel_rfl) .nil) (by kernel_rfl) (fun _ => rfl)) (by kernel_rfl))
    (sb_cons (s_put (e_var (by kernel_rfl)) (e_var (by kernel_rfl)) (se_bin subD_ok (e_idx (e_var (by kernel_rfl)) (e_var (by kernel_rfl)) (by kernel_rfl)) se_int) (by kernel_rfl))
    sb_nil))
    sb_nil)
    (sb_cons (ss_if (st_cmp neD_ok bo_ne (e_idx (e_var (by kernel_rfl)) se_int (by kernel_rfl)) se_str (by kernel_rfl))
    (sb_cons (s_set (e_index (e_var (by kernel_rfl)) (a_cons (e_idx (e_var (by kernel_rfl)) se_int (by kernel_rfl)) (by kernel_rfl) .nil) (by kernel_rfl) (fun _ => rfl)) (by kernel_rfl))
    (sb_cons (s_put (e_var (by kernel_rfl)) (e_var (by kernel_rfl)) (se_bin addD_ok (e_idx (e_var (by kernel_rfl)) (e_var (by kernel_rfl)) (by kernel_rfl)) se_int) (by kernel_rfl))
    sb_nil))
    sb_nil)
    (sb_cons (ss_fzv (i := 4) (ss_ret (e_T tupleD_ok bv_tuple (by decide) A.n_tuple (by kernel_rfl) (a_cons (e_var (by kernel_rfl)) (by kernel_rfl) .nil))))
    sb_nil))))
theorem s__law_moved : FnScope N__law_moved ["_law_wood_here", "_law_shelf", "_law_step"] (defScope (top 59)) := ⟨rfl, rfl, rfl, by decide +kernel, rfl, by decide +kernel, by decide +kernel⟩
theorem c__law_moved {g : GI} (A : All g) : Cal g 1 "_law_moved" ["_law_wood_here", "_law_shelf", "_law_step"] f__law_moved [] := by
  obtain ⟨f, fd, F, hm⟩ := A.d__law_moved
  exact ⟨f, fd, [], [], fnG_of F s__law_moved (w__law_moved A), hm, F.kp, F.bindsN fun _ _ _ _ _ _ us hl => match us, hl with | [_, _, _], _ => rfl, .nil, fun _ _ _ => rfl⟩
/-! ### _law_end -/
def N__law_end : List Str := ["_law_wood_here", "_law_shelf", "_law_pack_here", "_law_step"]
def b__law_end : Ev → IH → RS :=
    (dSeq (dFor (gN 3) (iAny (dVar 2))
    (dSeq (dSet 1 (dCallP 3 f__law_moved [] [(dVar 0), (dVar 1), (dVar 3)]))
    dNx) [])
    (dSeq (dRet (dVar 1))
    dNx))
def f__law_end : List D → IH → R (D × IH) := dFn 4 b__law_end
theorem w__law_end {g : GI} (A : All g) : SB g N__law_end 1 (defScope (top 60)) b__law_end (defBody (top 60)) :=
    (sb_cons (ss_for [] (i_any (e_var (by kernel_rfl))) (g_name (by kernel_rfl))
    (sb_cons (s_set (e_callP (c__law_moved A) (by decide) (by kernel_rfl) (a_cons (e_var (by kernel_rfl)) (by kernel_rfl) (a_cons (e_var (by kernel_rfl)) (by kernel_rfl) (a_cons (e_var (by kernel_rfl)) (by kernel_rfl) .nil)))) (by kernel_rfl))
    sb_nil) (by kernel_rfl))
    (sb_cons (ss_ret (e_var (by kernel_rfl)))
    sb_nil))
theorem s__law_end : FnScope N__law_end ["_law_wood_here", "_law_shelf", "_law_pack_here"] (defScope (top 60)) := ⟨rfl, rfl, rfl, by decide +kernel, rfl, by decide +kernel, by decide +kernel⟩
theorem c__law_end {g : GI} (A : All g) : Cal g 2 "_law_end" ["_law_wood_here", "_law_shelf", "_law_pack_here"] f__law_end [] := by
  obtain ⟨f, fd, F, hm⟩ := A.d__law_end
  exact ⟨f, fd, [], [], fnG_of F s__law_end (w__law_end A), hm, F.kp, F.bindsN fun _ _ _ _ _ _ us hl => match us, hl with | [_, _, _], _ => rfl, .nil, fun _ _ _ => rfl⟩
/-! ### _law_around -/
def N__law_around : List Str := ["_law_wood_here", "_law_spot", "_law_lap", "_law_found", "_law_here", "_law_row_in"]
def b__law_around : Ev → IH → RS :=
    (dSeq (dParN [3, 4] [(dBox []), (dVar 1)])
    (dSeq (dFor (gN 2) (iR1 (dCall lenD [(dVar 0)]))
    (dSeq (dIfS (dOp eqD (dVar 4) (dC (.str "")))
    (dSeq dBk
    dNx)
    dNx)
    (dSeq (dExpr (dMe isL appD (dVar 3) [(dVar 4)]))
    (dSeq (dSet 4 (dOp ixD (dLc false (gN 5) (iAny (dVar 0)) (some (dOp eqD (dOp ixD (dVar 5) (dC (.int 0))) (dVar 4))) (dOp ixD (dVar 5) (dC (.int 1))) [5]) (dC (.int 0))))
    dNx))) [])
    (dSeq (dRet (dFz (dVar 3)))
    dNx)))
def f__law_around : List D → IH → R (D × IH) := dFn 6 b__law_around
theorem w__law_around {g : GI} (A : All g) : SB g N__law_around 0 (defScope (top 52)) b__law_around (defBody (top 52)) :=
    (sb_cons (s_parN (a_cons (se_box .nil) (by kernel_rfl) (a_cons (e_var (by kernel_rfl)) (by kernel_rfl) .nil)) (by kernel_rfl) (by kernel_rfl))
    (sb_cons (ss_for [] (i_range1 A.n_range (by kernel_rfl) (a_cons (e_B lenD_ok bv_len (by decide) A.n_len (by kernel_rfl) (a_cons (e_var (by kernel_rfl)) (by kernel_rfl) .nil)) (by kernel_rfl) .nil)) (g_name (by kernel_rfl))
    (sb_cons (ss_if (st_cmp eqD_ok bo_eq (e_var (by kernel_rfl)) se_str (by kernel_rfl))
    (sb_cons ss_break
    sb_nil)
    sb_nil)
    (sb_cons (ss_expr (e_app (e_var (by kernel_rfl)) (a_cons (e_var (by kernel_rfl)) (by kernel_rfl) .nil) (by kernel_rfl)) (by kernel_rfl))
    (sb_cons (s_set (e_idx (e_lc [("_law_row_in", 5)] (i_any (e_var (by kernel_rfl))) (g_name (by kernel_rfl)) (.one (st_cmp eqD_ok bo_eq (e_idx (e_var (by kernel_rfl)) se_int (by kernel_rfl)) (e_var (by kernel_rfl)) (by kernel_rfl))) (e_idx (e_var (by kernel_rfl)) se_int (by kernel_rfl)) (by kernel_rfl)) se_int (by kernel_rfl)) (by kernel_rfl))
    sb_nil))) (by kernel_rfl))
    (sb_cons (ss_ret (se_fz (e_var (by kernel_rfl))))
    sb_nil)))
theorem s__law_around : FnScope N__law_around ["_law_wood_here", "_law_spot"] (defScope (top 52)) := ⟨rfl, rfl, rfl, by decide +kernel, rfl, by decide +kernel, by decide +kernel⟩
theorem c__law_around {g : GI} (A : All g) : Cal g 1 "_law_around" ["_law_wood_here", "_law_spot"] f__law_around [] := by
  obtain ⟨f, fd, F, hm⟩ := A.d__law_around
  exact ⟨f, fd, [], [], fnG_of F s__law_around (w__law_around A), hm, F.kp, F.bindsN fun _ _ _ _ _ _ us hl => match us, hl with | [_, _], _ => rfl, .nil, fun _ _ _ => rfl⟩
/-! ### _law_use -/
def N__law_use : List Str := ["_law_wood_here", "_law_shelf", "_law_name", "_law_k"]
def b__law_use : Ev → IH → RS :=
    (dSeq (dRet (dCall sumD [(dLc false (gN 3) (iR1 (dCall lenD [(dVar 0)])) (some (dOp inKD (dVar 2) (dCallP 2 f__law_around [] [(dVar 0), (dOp ixD (dOp ixD (dVar 0) (dVar 3)) (dC (.int 0)))]))) (dOp ixD (dVar 1) (dVar 3)) [3])]))
    dNx)
def f__law_use : List D → IH → R (D × IH) := dFn 4 b__law_use
theorem w__law_use {g : GI} (A : All g) : SB g N__law_use 1 (defScope (top 53)) b__law_use (defBody (top 53)) :=
    (sb_cons (ss_ret (e_B sumD_ok bv_sum (by decide) A.n_sum (by kernel_rfl) (a_cons (e_lc [("_law_k", 3)] (i_range1 A.n_range (by kernel_rfl) (a_cons (e_B lenD_ok bv_len (by decide) A.n_len (by kernel_rfl) (a_cons (e_var (by kernel_rfl)) (by kernel_rfl) .nil)) (by kernel_rfl) .nil)) (g_name (by kernel_rfl)) (.one (st_cmp inKD_ok bo_inK (e_var (by kernel_rfl)) (e_callP (c__law_around A) (by decide) (by kernel_rfl) (a_cons (e_var (by kernel_rfl)) (by kernel_rfl) (a_cons (e_idx (e_idx (e_var (by kernel_rfl)) (e_var (by kernel_rfl)) (by kernel_rfl)) se_int (by kernel_rfl)) (by kernel_rfl) .nil))) (by kernel_rfl))) (e_idx (e_var (by kernel_rfl)) (e_var (by kernel_rfl)) (by kernel_rfl)) (by kernel_rfl)) (by kernel_rfl) .nil)))
    sb_nil)
theorem s__law_use : FnScope N__law_use ["_law_wood_here", "_law_shelf", "_law_name"] (defScope (top 53)) := ⟨rfl, rfl, rfl, by decide +kernel, rfl, by decide +kernel, by decide +kernel⟩
theorem c__law_use {g : GI} (A : All g) : Cal g 2 "_law_use" ["_law_wood_here", "_law_shelf", "_law_name"] f__law_use [] := by
  obtain ⟨f, fd, F, hm⟩ := A.d__law_use
  exact ⟨f, fd, [], [], fnG_of F s__law_use (w__law_use A), hm, F.kp, F.bindsN fun _ _ _ _ _ _ us hl => match us, hl with | [_, _, _], _ => rfl, .nil, fun _ _ _ => rfl⟩
/-! ### _law_uses -/
def N__law_uses : List Str := ["_law_wood_here", "_law_shelf", "_law_row_in"]
def b__law_uses : Ev → IH → RS :=
    (dSeq (dRet (dLc false (gN 2) (iAny (dVar 0)) none (dCallP 3 f__law_use [] [(dVar 0), (dVar 1), (dOp ixD (dVar 2) (dC (.int 0)))]) [2]))
    dNx)
def f__law_uses : List D → IH → R (D × IH) := dFn 3 b__law_uses
theorem w__law_uses {g : GI} (A : All g) : SB g N__law_uses 2 (defScope (top 54)) b__law_uses (defBody (top 54)) :=
    (sb_cons (ss_ret (e_lc [("_law_row_in", 2)] (i_any (e_var (by kernel_rfl))) (g_name (by kernel_rfl)) .nil (e_callP (c__law_use A) (by decide) (by kernel_rfl) (a_cons (e_var (by kernel_rfl)) (by kernel_rfl) (a_cons (e_var (by kernel_rfl)) (by kernel_rfl) (a_cons (e_idx (e_var (by kernel_rfl)) se_int (by kernel_rfl)) (by kernel_rfl) .nil)))) (by kernel_rfl)))
    sb_nil)
theorem s__law_uses : FnScope N__law_uses ["_law_wood_here", "_law_shelf"] (defScope (top 54)) := ⟨rfl, rfl, rfl, by decide +kernel, rfl, by decide +kernel, by decide +kernel⟩
theorem c__law_uses {g : GI} (A : All g) : Cal g 3 "_law_uses" ["_law_wood_here", "_law_shelf"] f__law_uses [] := by
  obtain ⟨f, fd, F, hm⟩ := A.d__law_uses
  exact ⟨f, fd, [], [], fnG_of F s__law_uses (w__law_uses A), hm, F.kp, F.bindsN fun _ _ _ _ _ _ us hl => match us, hl with | [_, _], _ => rfl, .nil, fun _ _ _ => rfl⟩
/-! ### _law_enters -/
def N__law_enters : List Str := ["_law_wood_here", "_law_step", "_law_known", "_law_name"]
def b__law_enters : Ev → IH → RS :=
    (dSeq (dSet 2 (dCallP 2 f__law_around [] [(dVar 0), (dOp ixD (dVar 1) (dC (.int 0)))]))
    (dSeq (dRet (dCall tupleD [(dCall srtA [(dLc false (gN 3) (iAny (dCallP 2 f__law_around [] [(dVar 0), (dOp ixD (dVar 1) (dC (.int 1)))])) (some (dOp notInKD (dVar 3) (dVar 2))) (dVar 3) [3])])]))
    dNx))
def f__law_enters : List D → IH → R (D × IH) := dFn 4 b__law_enters
theorem w__law_enters {g : GI} (A : All g) : SB g N__law_enters 1 (defScope (top 57)) b__law_enters (defBody (top 57)) :=
    (sb_cons (s_set (e_callP (c__law_around A) (by decide) (by kernel_rfl) (a_cons (e_var (by kernel_rfl)) (by kernel_rfl) (a_cons (e_idx (e_var (by kernel_rfl)) se_int (by kernel_rfl)) (by kernel_rfl) .nil))) (by kernel_rfl))
    (sb_cons (ss_ret (e_T tupleD_ok bv_tuple (by decide) A.n_tuple (by kernel_rfl) (a_cons (e_B srtA_ok bv_sorted (by decide) A.n_sorted (by kernel_rfl) (a_cons (e_lc [("_law_name", 3)] (i_any (e_callP (c__law_around A) (by decide) (by kernel_rfl) (a_cons (e_var (by kernel_rfl)) (by kernel_rfl) (a_cons (e_idx (e_var (by kernel_rfl)) se_int (by kernel_rfl)) (by kernel_rfl) .nil)))) (g_name (by kernel_rfl)) (.one (st_cmp notInKD_ok bo_inK (e_var (by kernel_rfl)) (e_var (by kernel_rfl)) (by kernel_rfl))) (e_var (by kernel_rfl)) (by kernel_rfl)) (by kernel_rfl) .nil)) (by kernel_rfl) .nil)))
    sb_nil))
theorem s__law_enters : FnScope N__law_enters ["_law_wood_here", "_law_step"] (defScope (top 57)) := ⟨rfl, rfl, rfl, by decide +kernel, rfl, by decide +kernel, by decide +kernel⟩
theorem c__law_enters {g : GI} (A : All g) : Cal g 2 "_law_enters" ["_law_wood_here", "_law_step"] f__law_enters [] := by
  obtain ⟨f, fd, F, hm⟩ := A.d__law_enters
  exact ⟨f, fd, [], [], fnG_of F s__law_enters (w__law_enters A), hm, F.kp, F.bindsN fun _ _ _ _ _ _ us hl => match us, hl with | [_, _], _ => rfl, .nil, fun _ _ _ => rfl⟩
/-! ### _law_leaves -/
def N__law_leaves : List Str := ["_law_wood_here", "_law_step"]
def b__law_leaves : Ev → IH → RS :=
    (dSeq (dRet (dCallP 2 f__law_enters [] [(dVar 0), (dTup [(dOp ixD (dVar 1) (dC (.int 1))), (dOp ixD (dVar 1) (dC (.int 0)))])]))
    dNx)
def f__law_leaves : List D → IH → R (D × IH) := dFn 2 b__law_leaves
theorem w__law_leaves {g : GI} (A : All g) : SB g N__law_leaves 2 (defScope (top 58)) b__law_leaves (defBody (top 58)) :=
    (sb_cons (ss_ret (e_callP (c__law_enters A) (by decide) (by kernel_rfl) (a_cons (e_var (by kernel_rfl)) (by kernel_rfl) (a_cons (se_tup (a_cons (e_idx (e_var (by kernel_rfl)) se_int (by kernel_rfl)) (by kernel_rfl) (a_cons (e_idx (e_var (by kernel_rfl)) se_int (by kernel_rfl)) (by kernel_rfl) .nil))) (by kernel_rfl) .nil))))
    sb_nil)
theorem s__law_leaves : FnScope N__law_leaves ["_law_wood_here", "_law_step"] (defScope (top 58)) := ⟨rfl, rfl, rfl, by decide +kernel, rfl, by decide +kernel, by decide +kernel⟩
theorem c__law_leaves {g : GI} (A : All g) : Cal g 3 "_law_leaves" ["_law_wood_here", "_law_step"] f__law_leaves [] := by
  obtain ⟨f, fd, F, hm⟩ := A.d__law_leaves
  exact ⟨f, fd, [], [], fnG_of F s__law_leaves (w__law_leaves A), hm, F.kp, F.bindsN fun _ _ _ _ _ _ us hl => match us, hl with | [_, _], _ => rfl, .nil, fun _ _ _ => rfl⟩
/-! ### _law_is_right -/
def N__law_is_right : List Str := ["_law_wood_here", "_law_shelf", "_law_pack_here", "_law_k", "_law_told", "_law_due", "_law_kept", "_law_late", "_law_uses_here", "_law_wrong", "_law_name", "_law_many", "_law_less", "_law_step"]
def b__law_is_right : Ev → IH → RS :=
    (dSeq (dPar 6 7 (dCall repD [(dLst [(dVar 0), (dVar 1), (dVar 2)])]) (dCallP 3 f__law_end [] [(dVar 0), (dVar 1), (dVar 2)]))
    (dSeq (dPar 8 9 (dCallP 2 f__law_uses [] [(dVar 0), (dVar 7)]) (dBox []))
    (dSeq (dFor (gN 3) (iR1 (dCall lenD [(dVar 0)]))
    (dSeq (dSet 10 (dOp ixD (dOp ixD (dVar 0) (dVar 3)) (dC (.int 0))))
    (dSeq (dSet 11 (dCall lenD [(dLc false (gN 13) (iAny (dVar 2)) (some (dOp inKD (dVar 10) (dCallP 2 f__law_enters [] [(dVar 0), (dVar 13)]))) (dVar 13) [13])]))
    (dSeq (dSet 12 (dCall lenD [(dLc false (gN 13) (iAny (dVar 2)) (some (dOp inKD (dVar 10) (dCallP 2 f__law_leaves [] [(dVar 0), (dVar 13)]))) (dVar 13) [13])]))
    (dSeq (dIfS (dOp neD (dOp ixD (dVar 8) (dVar 3)) (dOp subD (dOp addD (dCallP 3 f__law_use [] [(dVar 0), (dVar 1), (dVar 10)]) (dVar 11)) (dVar 12)))
    (dSeq (dRet (dC (.bl false)))
    dNx)
    dNx)
    (dSeq (dIfS (dOp gtD (dOp ixD (dVar 8) (dVar 3)) (dOp ixD (dOp ixD (dVar 0) (dVar 3)) (dC (.int 2))))
    (dSeq (dExpr (dMe isL appD (dVar 9) [(dVar 10)]))
    dNx)
    dNx)
    dNx))))) [])
    (dSeq (dSet 4 (dBox [(dCallP 3 f_end_counts [] [(dVar 0), (dVar 1), (dVar 2)]), (dCallP 3 f_fits [] [(dVar 0), (dVar 1), (dVar 2)]), (dCallP 3 f_misfits [] [(dVar 0), (dVar 1), (dVar 2)])]))
    (dSeq (dExpr (dMe isL appD (dVar 4) [(dCallKP 3 [2, 1, 0] f_end_counts [(dVar 2), (dVar 1), (dVar 0)])]))
    (dSeq (dSeq (dFzV 4) (dSet 4 (dOp addD (dVar 4) (dLst [(dCallKP 3 [2, 0, 1] f_fits [(dVar 1), (dVar 2), (dVar 0)]), (dCallKP 3 [1, 2, 0] f_misfits [(dVar 2), (dVar 0), (dVar 1)])]))))
    (dSeq (dSeq (dFzV 9) (dSet 5 (dLst [(dVar 7), (dOp eqD (dVar 9) (dLst [])), (dCall tupleD [(dVar 9)])])))
    (dSeq (dRet (dAnd (dCallP 2 f__law_same [] [(dVar 4), (dLst [(dOp ixD (dVar 5) (dC (.int 0))), (dOp ixD (dVar 5) (dC (.int 1))), (dOp ixD (dVar 5) (dC (.int 2))), (dOp ixD (dVar 5) (dC (.int 0))), (dOp ixD (dVar 5) (dC (.int 1))), (dOp ixD (dVar 5) (dC (.int 2)))])]) (dOp eqD (dCall repD [(dLst [(dVar 0), (dVar 1), (dVar 2)])]) (dVar 6))))
    dNx))))))))
def f__law_is_right : List D → IH → R (D × IH) := dFn 14 b__law_is_right
theorem w__law_is_right {g : GI} (A : All g) : SB g N__law_is_right 10 (defScope (top 62)) b__law_is_right (defBody (top 62)) :=
    (sb_cons (s_par (a_cons (e_B repD_ok bv_repr (by decide) A.n_repr (by kernel_rfl) (a_cons (se_lst (a_cons (e_var (by kernel_rfl)) (by kernel_rfl) (a_cons (e_var (by kernel_rfl)) (by kernel_rfl) (a_cons (e_var (by kernel_rfl)) (by kernel_rfl) .nil)))) (by kernel_rfl) .nil)) (by kernel_rfl) (a_cons (e_callP (c__law_end A) (by decide) (by kernel_rfl) (a_cons (e_var (by kernel_rfl)) (by kernel_rfl) (a_cons (e_var (by kernel_rfl)) (by kernel_rfl) (a_cons (e_var (by kernel_rfl)) (by kernel_rfl) .nil)))) (by kernel_rfl) .nil)) (by kernel_rfl))
    (sb_cons (s_par (a_cons (e_callP (c__law_uses A) (by decide) (by kernel_rfl) (a_cons (e_var (by kernel_rfl)) (by kernel_rfl) (a_cons (e_var (by kernel_rfl)) (by kernel_rfl) .nil))) (by kernel_rfl) (a_cons (se_box .nil) (by kernel_rfl) .nil)) (by kernel_rfl))
    (sb_cons (ss_for [] (i_range1 A.n_range (by kernel_rfl) (a_cons (e_B lenD_ok bv_len (by decide) A.n_len (by kernel_rfl) (a_cons (e_var (by kernel_rfl)) (by kernel_rfl) .nil)) (by kernel_rfl) .nil)) (g_name (by kernel_rfl))
    (sb_cons (s_set (e_idx (e_idx (e_var (by kernel_rfl)) (e_var (by kernel_rfl)) (by kernel_rfl)) se_int (by kernel_rfl)) (by kernel_rfl))
    (sb_cons (s_set (e_B lenD_ok bv_len (by decide) A.n_len (by kernel_rfl) (a_cons (e_lc [("_law_step", 13)] (i_any (e_var (by kernel_rfl))) (g_name (by kernel_rfl)) (.one (st_cmp inKD_ok bo_inK (e_var (by kernel_rfl)) (e_callP (c__law_enters A) (by decide) (by kernel_rfl) (a_cons (e_var (by kernel_rfl)) (by kernel_rfl) (a_cons (e_var (by kernel_rfl)) (by kernel_rfl) .nil))) (by kernel_rfl))) (e_var (by kernel_rfl)) (by kernel_rfl)) (by kernel_rfl) .nil)) (by kernel_rfl))
    (sb_cons (s_set (e_B lenD_ok bv_len (by decide) A.n_len (by kernel_rfl) (a_cons (e_lc [("_law_step", 13)] (i_any (e_var (by kernel_rfl))) (g_name (by kernel_rfl)) (.one (st_cmp inKD_ok bo_inK (e_var (by kernel_rfl)) (e_callP (c__law_leaves A) (by decide) (by kernel_rfl) (a_cons (e_var (by kernel_rfl)) (by kernel_rfl) (a_cons (e_var (by kernel_rfl)) (by kernel_rfl) .nil))) (by kernel_rfl))) (e_var (by kernel_rfl)) (by kernel_rfl)) (by kernel_rfl) .nil)) (by kernel_rfl))
    (sb_cons (ss_if (st_cmp neD_ok bo_ne (e_idx (e_var (by kernel_rfl)) (e_var (by kernel_rfl)) (by kernel_rfl)) (se_bin subD_ok (se_bin addD_ok (e_callP (c__law_use A) (by decide) (by kernel_rfl) (a_cons (e_var (by kernel_rfl)) (by kernel_rfl) (a_cons (e_var (by kernel_rfl)) (by kernel_rfl) (a_cons (e_var (by kernel_rfl)) (by kernel_rfl) .nil)))) (e_var (by kernel_rfl))) (e_var (by kernel_rfl))) (by kernel_rfl))
    (sb_cons (ss_ret se_bl)
    sb_nil)
    sb_nil)
    (sb_cons (ss_if (st_cmp gtD_ok bo_gt (e_idx (e_var (by kernel_rfl)) (e_var (by kernel_rfl)) (by kernel_rfl)) (e_idx (e_idx (e_var (by kernel_rfl)) (e_var (by kernel_rfl)) (by kernel_rfl)) se_int (by kernel_rfl)) (by kernel_rfl))
    (sb_cons (ss_expr (e_app (e_var (by kernel_rfl)) (a_cons (e_var (by kernel_rfl)) (by kernel_rfl) .nil) (by kernel_rfl)) (by kernel_rfl))
    sb_nil)
    sb_nil)
    sb_nil))))) (by kernel_rfl))
    (sb_cons (s_set (se_box (a_cons (e_callP (c_end_counts A) (by decide) (by kernel_rfl) (a_cons (e_var (by kernel_rfl)) (by kernel_rfl) (a_cons (e_var (by kernel_rfl)) (by kernel_rfl) (a_cons (e_var (by kernel_rfl)) (by kernel_rfl) .nil)))) (by kernel_rfl) (a_cons (e_callP (c_fits A) (by decide) (by kernel_rfl) (a_cons (e_var (by kernel_rfl)) (by kernel_rfl) (a_cons (e_var (by kernel_rfl)) (by kernel_rfl) (a_cons (e_var (by kernel_rfl)) (by kernel_rfl) .nil)))) (by kernel_rfl) (a_cons (e_callP (c_misfits A) (by decide) (by kernel_rfl) (a_cons (e_var (by kernel_rfl)) (by kernel_rfl) (a_cons (e_var (by kernel_rfl)) (by kernel_rfl) (a_cons (e_var (by kernel_rfl)) (by kernel_rfl) .nil)))) (by kernel_rfl) .nil)))) (by kernel_rfl))
    (sb_cons (ss_expr (e_app (e_var (by kernel_rfl)) (a_cons (e_callKP (k_end_counts_2_1_0 A) (by decide) (by kernel_rfl) (.cons (e_var (by kernel_rfl)) (.cons (e_var (by kernel_rfl)) (.cons (e_var (by kernel_rfl)) .nil)))) (by kernel_rfl) .nil) (by kernel_rfl)) (by kernel_rfl))
    (sb_cons (ss_fzv (i := 4) (s_set (se_bin addD_ok (e_var (by kernel_rfl)) (se_lst (a_cons (e_callKP (k_fits_2_0_1 A) (by decide) (by kernel_rfl) (.cons (e_var (by kernel_rfl)) (.cons (e_var (by kernel_rfl)) (.cons (e_var (by kernel_rfl)) .nil)))) (by kernel_rfl) (a_cons (e_callKP (k_misfits_1_2_0 A) (by decide) (by kernel_rfl) (.cons (e_var (by kernel_rfl)) (.cons (e_var (by kernel_rfl)) (.cons (e_var (by kernel_rfl)) .nil)))) (by kernel_rfl) .nil)))) (by kernel_rfl)))
    (sb_cons (ss_fzv (i := 9) (s_set (se_lst (a_cons (e_var (by kernel_rfl)) (by kernel_rfl) (a_cons (se_cmp eqD_ok (e_var (by kernel_rfl)) (se_lst .nil) (by kernel_rfl)) (by kernel_rfl) (a_cons (e_T tupleD_ok bv_tuple (by decide) A.n_tuple (by kernel_rfl) (a_cons (e_var (by kernel_rfl)) (by kernel_rfl) .nil)) (by kernel_rfl) .nil)))) (by kernel_rfl)))
    (sb_cons (ss_ret (se_and (e_callP (c__law_same A) (by decide) (by kernel_rfl) (a_cons (e_var (by kernel_rfl)) (by kernel_rfl) (a_cons (se_lst (a_cons (e_idx (e_var (by kernel_rfl)) se_int (by kernel_rfl)) (by kernel_rfl) (a_cons (e_idx (e_var (by kernel_rfl)) se_int (by kernel_rfl)) (by kernel_rfl) (a_cons (e_idx (e_var (by kernel_rfl)) se_int (by kernel_rfl)) (by kernel_rfl) (a_cons (e_idx (e_var (by kernel_rfl)) se_int (by kernel_rfl)) (by kernel_rfl) (a_cons (e_idx (e_var (by kernel_rfl)) se_int (by kernel_rfl)) (by kernel_rfl) (a_cons (e_idx (e_var (by kernel_rfl)) se_int (by kernel_rfl)) (by kernel_rfl) .nil))))))) (by kernel_rfl) .nil))) (se_one (se_cmp eqD_ok (e_B repD_ok bv_repr (by decide) A.n_repr (by kernel_rfl) (a_cons (se_lst (a_cons (e_var (by kernel_rfl)) (by kernel_rfl) (a_cons (e_var (by kernel_rfl)) (by kernel_rfl) (a_cons (e_var (by kernel_rfl)) (by kernel_rfl) .nil)))) (by kernel_rfl) .nil)) (e_var (by kernel_rfl)) (by kernel_rfl)))))
    sb_nil))))))))
theorem s__law_is_right : FnScope N__law_is_right ["_law_wood_here", "_law_shelf", "_law_pack_here"] (defScope (top 62)) := ⟨rfl, rfl, rfl, by decide +kernel, rfl, by decide +kernel, by decide +kernel⟩
theorem c__law_is_right {g : GI} (A : All g) : Cal g 11 "_law_is_right" ["_law_wood_here", "_law_shelf", "_law_pack_here"] f__law_is_right [] := by
  obtain ⟨f, fd, F, hm⟩ := A.d__law_is_right
  exact ⟨f, fd, [], [], fnG_of F s__law_is_right (w__law_is_right A), hm, F.kp, F.bindsN fun _ _ _ _ _ _ us hl => match us, hl with | [_, _, _], _ => rfl, .nil, fun _ _ _ => rfl⟩
/-! ### _law_hand_right -/
def N__law_hand_right : List Str := ["_law_pack_here", "_law_told", "_law_k", "_law_great", "_law_wood_here", "_law_shelf", "_law_names", "_law_chain"]
def b__law_hand_right : Ev → IH → RS :=
    (dSeq (dAsg (gT [(gN 4), (gN 5)]) (dTup [(dTup [(dTup [(dC (.str "a")), (dC (.str "top")), (dC (.int 2))]), (dTup [(dC (.str "b")), (dC (.str "top")), (dC (.int 1))]), (dTup [(dC (.str "c")), (dC (.str "")), (dC (.int 1))]), (dTup [(dC (.str "top")), (dC (.str "")), (dC (.int 3))])]), (dTup [(dC (.int 1)), (dC (.int 1)), (dC (.int 1)), (dC (.int 0))])]))
    (dSeq (dSet 0 (dTup [(dTup [(dC (.str "")), (dC (.str "a"))]), (dTup [(dC (.str "")), (dC (.str "a"))]), (dTup [(dC (.str "b")), (dC (.str "c"))])]))
    (dSeq (dSet 1 (dLst [(dCallP 3 f_end_counts [] [(dVar 4), (dVar 5), (dVar 0)]), (dCallP 3 f_fits [] [(dVar 4), (dVar 5), (dVar 0)]), (dCallP 3 f_misfits [] [(dVar 4), (dVar 5), (dVar 0)])]))
    (dSeq (dIfS (dNot (dCallP 2 f__law_same [] [(dVar 1), (dLst [(dTup [(dC (.int 3)), (dC (.int 0)), (dC (.int 2)), (dC (.int 0))]), (dC (.bl false)), (dTup [(dC (.str "a")), (dC (.str "c"))])])]))
    (dSeq (dRet (dC (.bl false)))
    dNx)
    dNx)
    (dSeq (dPar 6 7 (dC (.str "abcdefghijkl")) (dBox []))
    (dSeq (dFor (gN 2) (iR1 (dC (.int 12)))
    (dSeq (dExpr (dMe isL appD (dVar 7) [(dTup [(dOp ixD (dVar 6) (dVar 2)), (dIf (dOp gtD (dVar 2) (dC (.int 0))) (dOp ixD (dVar 6) (dOp subD (dVar 2) (dC (.int 1)))) (dC (.str ""))), (dOp subD (dC (.int 30)) (dVar 2))])]))
    dNx) [])
    (dSeq (dSet 0 (dOp addD (dOp addD (dOp mulA (dTup [(dTup [(dC (.str "")), (dC (.str "l"))])]) (dC (.int 12))) (dOp mulA (dTup [(dTup [(dC (.str "a")), (dC (.str "f"))])]) (dC (.int 6)))) (dOp mulA (dTup [(dTup [(dC (.str "l")), (dC (.str ""))])]) (dC (.int 6)))))
    (dSeq (dSeq (dFzV 7) (dIfS (dNot (dCallP 3 f__law_is_right [] [(dCall tupleD [(dVar 7)]), (dOp addD (dOp addD (dTup [(dC (.int 6))]) (dOp mulA (dTup [(dC (.int 0))]) (dC (.int 10)))) (dTup [(dC (.int 12))])), (dVar 0)]))
    (dSeq (dRet (dC (.bl false)))
    dNx)
    dNx))
    (dSeq (dSet 3 (dOp powD (dC (.int 10)) (dC (.int 59))))
    (dSeq (dSet 4 (dTup [(dTup [(dC (.str "a")), (dC (.str "")), (dVar 3)]), (dTup [(dC (.str "b")), (dC (.str "a")), (dOp addD (dVar 3) (dC (.int 1)))])]))
    (dSeq (dSet 1 (dBox [(dCallP 3 f_end_counts [] [(dVar 4), (dTup [(dC (.int 1)), (dOp subD (dVar 3) (dC (.int 1)))]), (dTup [(dTup [(dC (.str "")), (dC (.str "a"))]), (dTup [(dC (.str "a")), (dC (.str "b"))]), (dTup [(dC (.str "b")), (dC (.str "a"))])])])]))
    (dSeq (dExpr (dMe isL appD (dVar 1) [(dCallP 3 f_misfits [] [(dVar 4), (dTup [(dC (.int 1)), (dOp subD (dVar 3) (dC (.int 1)))]), (dTup [(dTup [(dC (.str "")), (dC (.str "a"))]), (dTup [(dC (.str "a")), (dC (.str "b"))]), (dTup [(dC (.str "b")), (dC (.str "a"))])])])]))
    (dSeq (dSeq (dFzV 1) (dRet (dCallP 2 f__law_same [] [(dVar 1), (dLst [(dTup [(dC (.int 2)), (dOp subD (dVar 3) (dC (.int 1)))]), (dTup [(dC (.str "a"))])])])))
    dNx)))))))))))))
def f__law_hand_right : List D → IH → R (D × IH) := dFn 8 b__law_hand_right
theorem w__law_hand_right {g : GI} (A : All g) : SB g N__law_hand_right 11 (defScope (top 63)) b__law_hand_right (defBody (top 63)) :=
    (sb_cons (s_asgK (sg_tup (g_cons (g_name (by kernel_rfl)) (by kernel_rfl) (g_cons (g_name (by kernel_rfl)) (by kernel_rfl) .nil))) (se_tup (a_cons (se_tup (a_cons (se_tup (a_cons se_str (by kernel_rfl) (a_cons se_str (by kernel_rfl) (a_cons se_int (by kernel_rfl) .nil)))) (by kernel_rfl) (a_cons (se_tup (a_cons se_str (by kernel_rfl) (a_cons se_str (by kernel_rfl) (a_cons se_int (by kernel_rfl) .nil)))) (by kernel_rfl) (a_cons (se_tup (a_cons se_str (by kernel_rfl) (a_cons se_str (by kernel_rfl) (a_cons se_int (by kernel_rfl) .nil)))) (by kernel_rfl) (a_cons (se_tup (a_cons se_str (by kernel_rfl) (a_cons se_str (by kernel_rfl) (a_cons se_int (by kernel_rfl) .nil)))) (by kernel_rfl) .nil))))) (by kernel_rfl) (a_cons (se_tup (a_cons se_int (by kernel_rfl) (a_cons se_int (by kernel_rfl) (a_cons se_int (by kernel_rfl) (a_cons se_int (by kernel_rfl) .nil))))) (by kernel_rfl) .nil))) (by kernel_rfl))
    (sb_cons (s_set (se_tup (a_cons (se_tup (a_cons se_str (by kernel_rfl) (a_cons se_str (by kernel_rfl) .nil))) (by kernel_rfl) (a_cons (se_tup (a_cons se_str (by kernel_rfl) (a_cons se_str (by kernel_rfl) .nil))) (by kernel_rfl) (a_cons (se_tup (a_cons se_str (by kernel_rfl) (a_cons se_str (by kernel_rfl) .nil))) (by kernel_rfl) .nil)))) (by kernel_rfl))
    (sb_cons (s_set (se_lst (a_cons (e_callP (c_end_counts A) (by decide) (by kernel_rfl) (a_cons (e_var (by kernel_rfl)) (by kernel_rfl) (a_cons (e_var (by kernel_rfl)) (by kernel_rfl) (a_cons (e_var (by kernel_rfl)) (by kernel_rfl) .nil)))) (by kernel_rfl) (a_cons (e_callP (c_fits A) (by decide) (by kernel_rfl) (a_cons (e_var (by kernel_rfl)) (by kernel_rfl) (a_cons (e_var (by kernel_rfl)) (by kernel_rfl) (a_cons (e_var (by kernel_rfl)) (by kernel_rfl) .nil)))) (by kernel_rfl) (a_cons (e_callP (c_misfits A) (by decide) (by kernel_rfl) (a_cons (e_var (by kernel_rfl)) (by kernel_rfl) (a_cons (e_var (by kernel_rfl)) (by kernel_rfl) (a_cons (e_var (by kernel_rfl)) (by kernel_rfl) .nil)))) (by kernel_rfl) .nil)))) (by kernel_rfl))
    (sb_cons (ss_if (st_not (t_plain (e_callP (c__law_same A) (by decide) (by kernel_rfl) (a_cons (e_var (by kernel_rfl)) (by kernel_rfl) (a_cons (se_lst (a_cons (se_tup (a_cons se_int (by kernel_rfl) (a_cons se_int (by kernel_rfl) (a_cons se_int (by kernel_rfl) (a_cons se_int (by kernel_rfl) .nil))))) (by kernel_rfl) (a_cons se_bl (by kernel_rfl) (a_cons (se_tup (a_cons se_str (by kernel_rfl) (a_cons se_str (by kernel_rfl) .nil))) (by kernel_rfl) .nil)))) (by kernel_rfl) .nil))) (by kernel_rfl)))
    (sb_cons (ss_ret se_bl)
    sb_nil)
    sb_nil)
    (sb_cons (s_par (a_cons se_str (by kernel_rfl) (a_cons (se_box .nil) (by kernel_rfl) .nil)) (by kernel_rfl))
    (sb_cons (ss_for [] (i_range1 A.n_range (by kernel_rfl) (a_cons se_int (by kernel_rfl) .nil)) (g_name (by kernel_rfl))
    (sb_cons (ss_expr (e_app (e_var (by kernel_rfl)) (a_cons (se_tup (a_cons (e_idx (e_var (by kernel_rfl)) (e_var (by kernel_rfl)) (by kernel_rfl)) (by kernel_rfl) (a_cons (se_if (st_cmp gtD_ok bo_gt (e_var (by kernel_rfl)) se_int (by kernel_rfl)) (e_idx (e_var (by kernel_rfl)) (se_bin subD_ok (e_var (by kernel_rfl)) se_int) (by kernel_rfl)) se_str) (by kernel_rfl) (a_cons (se_bin subD_ok se_int (e_var (by kernel_rfl))) (by kernel_rfl) .nil)))) (by kernel_rfl) .nil) (by kernel_rfl)) (by kernel_rfl))
    sb_nil) (by kernel_rfl))
    (sb_cons (s_set (se_bin addD_ok (se_bin addD_ok (se_bin mulA_ok (se_tup (a_cons (se_tup (a_cons se_str (by kernel_rfl) (a_cons se_str (by kernel_rfl) .nil))) (by kernel_rfl) .nil)) se_int) (se_bin mulA_ok (se_tup (a_cons (se_tup (a_cons se_str (by kernel_rfl) (a_cons se_str (by kernel_rfl) .nil))) (by kernel_rfl) .nil)) se_int)) (se_bin mulA_ok (se_tup (a_cons (se_tup (a_cons se_str (by kernel_rfl) (a_cons se_str (by kernel_rfl) .nil))) (by kernel_rfl) .nil)) se_int)) (by kernel_rfl))
    (sb_cons (ss_fzv (i := 7) (ss_if (st_not (t_plain (e_callP (c__law_is_right A) (by decide) (by kernel_rfl) (a_cons (e_T tupleD_ok bv_tuple (by decide) A.n_tuple (by kernel_rfl) (a_cons (e_var (by kernel_rfl)) (by kernel_rfl) .nil)) (by kernel_rfl) (a_cons (se_bin addD_ok (se_bin addD_ok (se_tup (a_cons se_int (by kernel_rfl) .nil)) (se_bin mulA_ok (se_tup (a_cons se_int (by kernel_rfl) .nil)) se_int)) (se_tup (a_cons se_int (by kernel_rfl) .nil))) (by kernel_rfl) (a_cons (e_var (by kernel_rfl)) (by kernel_rfl) .nil)))) (by kernel_rfl)))
    (sb_cons (ss_ret se_bl)
    sb_nil)
    sb_nil))
    (sb_cons (s_set (se_bin powD_ok se_int se_int) (by kernel_rfl))
    (sb_cons (s_set (se_tup (a_cons (se_tup (a_cons se_str (by kernel_rfl) (a_cons se_str (by kernel_rfl) (a_cons (e_var (by kernel_rfl)) (by kernel_rfl) .nil)))) (by kernel_rfl) (a_cons (se_tup (a_cons se_str (by kernel_rfl) (a_cons se_str (by kernel_rfl) (a_cons (se_bin addD_ok (e_var (by kernel_rfl)) se_int) (by kernel_rfl) .nil)))) (by kernel_rfl) .nil))) (by kernel_rfl))
    (sb_cons (s_set (se_box (a_cons (e_callP (c_end_counts A) (by decide) (by kernel_rfl) (a_cons (e_var (by kernel_rfl)) (by kernel_rfl) (a_cons (se_tup (a_cons se_int (by kernel_rfl) (a_cons (se_bin subD_ok (e_var (by kernel_rfl)) se_int) (by kernel_rfl) .nil))) (by kernel_rfl) (a_cons (se_tup (a_cons (se_tup (a_cons se_str (by kernel_rfl) (a_cons se_str (by kernel_rfl) .nil))) (by kernel_rfl) (a_cons (se_tup (a_cons se_str (by kernel_rfl) (a_cons se_str (by kernel_rfl) .nil))) (by kernel_rfl) (a_cons (se_tup (a_cons se_str (by kernel_rfl) (a_cons se_str (by kernel_rfl) .nil))) (by kernel_rfl) .nil)))) (by kernel_rfl) .nil)))) (by kernel_rfl) .nil)) (by kernel_rfl))
    (sb_cons (ss_expr (e_app (e_var (by kernel_rfl)) (a_cons (e_callP (c_misfits A) (by decide) (by kernel_rfl) (a_cons (e_var (by kernel_rfl)) (by kernel_rfl) (a_cons (se_tup (a_cons se_int (by kernel_rfl) (a_cons (se_bin subD_ok (e_var (by kernel_rfl)) se_int) (by kernel_rfl) .nil))) (by kernel_rfl) (a_cons (se_tup (a_cons (se_tup (a_cons se_str (by kernel_rfl) (a_cons se_str (by kernel_rfl) .nil))) (by kernel_rfl) (a_cons (se_tup (a_cons se_str (by kernel_rfl) (a_cons se_str (by kernel_rfl) .nil))) (by kernel_rfl) (a_cons (se_tup (a_cons se_str (by kernel_rfl) (a_cons se_str (by kernel_rfl) .nil))) (by kernel_rfl) .nil)))) (by kernel_rfl) .nil)))) (by kernel_rfl) .nil) (by kernel_rfl)) (by kernel_rfl))
    (sb_cons (ss_fzv (i := 1) (ss_ret (e_callP (c__law_same A) (by decide) (by kernel_rfl) (a_cons (e_var (by kernel_rfl)) (by kernel_rfl) (a_cons (se_lst (a_cons (se_tup (a_cons se_int (by kernel_rfl) (a_cons (se_bin subD_ok (e_var (by kernel_rfl)) se_int) (by kernel_rfl) .nil))) (by kernel_rfl) (a_cons (se_tup (a_cons se_str (by kernel_rfl) .nil)) (by kernel_rfl) .nil))) (by kernel_rfl) .nil)))))
    sb_nil)))))))))))))
theorem s__law_hand_right : FnScope N__law_hand_right [] (defScope (top 63)) := ⟨rfl, rfl, rfl, by decide +kernel, rfl, by decide +kernel, by decide +kernel⟩
theorem c__law_hand_right {g : GI} (A : All g) : Cal g 12 "_law_hand_right" [] f__law_hand_right [] := by
  obtain ⟨f, fd, F, hm⟩ := A.d__law_hand_right
  exact ⟨f, fd, [], [], fnG_of F s__law_hand_right (w__law_hand_right A), hm, F.kp, F.bindsN fun _ _ _ _ _ _ us hl => match us, hl with | [], _ => rfl, .nil, fun _ _ _ => rfl⟩
/-! ### _law_draw -/
def N__law_draw : List Str := ["_law_feed_here", "_law_many", "_law_cell", "_law_mixed", "_law_digit", "_law_cells", "_law_spot"]
def b__law_draw : Ev → IH → RS :=
    (dSeq (dPut (dVar 0) (dC (.str "turn")) (dOp addD (dOp ixD (dVar 0) (dC (.str "turn"))) (dC (.int 1))))
    (dSeq (dIfS (dOp gtD (dOp ixD (dVar 0) (dC (.str "rest"))) (dC (.int 0)))
    (dSeq (dSet 4 (dOp modD (dCall intD [(dOp ixD (dVar 0) (dC (.str "rest")))]) (dVar 1)))
    (dSeq (dPut (dVar 0) (dC (.str "rest")) (dOp fdivD (dOp ixD (dVar 0) (dC (.str "rest"))) (dVar 1)))
    (dSeq (dRet (dVar 4))
    dNx)))
    dNx)
    (dSeq (dPar 5 6 (dOp ixD (dVar 0) (dC (.str "cells"))) (dOp ixD (dVar 0) (dC (.str "spot"))))
    (dSeq (dPut (dVar 0) (dC (.str "spot")) (dOp addD (dVar 6) (dC (.int 1))))
    (dSeq (dSet 2 (dIf (dOp neD (dVar 5) (dLst [])) (dOp ixD (dVar 5) (dOp modD (dCall intD [(dVar 6)]) (dCall lenD [(dVar 5)]))) (dC (.int 5381))))
    (dSeq (dIfS (dAnd (dOp geD (dVar 2) (dOp powD (dC (.int 10)) (dC (.int 18)))) (dOp ltD (dVar 6) (dCall lenD [(dVar 5)])))
    (dSeq (dPut (dVar 0) (dC (.str "rest")) (dOp fdivD (dVar 2) (dVar 1)))
    (dSeq (dRet (dOp modD (dCall intD [(dVar 2)]) (dVar 1)))
    dNx))
    dNx)
    (dSeq (dSet 3 (dOp modD (dCall intD [(dOp addD (dOp addD (dOp modD (dCall intD [(dVar 2)]) (dC (.int 1999999517))) (dOp mulD (dC (.int 70181)) (dOp ixD (dVar 0) (dC (.str "turn"))))) (dC (.int 709)))]) (dC (.int 2147483579))))
    (dSeq (dSet 3 (dOp modD (dCall intD [(dOp addD (dOp addD (dOp mulD (dVar 3) (dVar 3)) (dOp mulD (dC (.int 6700861)) (dOp ixD (dVar 0) (dC (.str "turn"))))) (dC (.int 2309)))]) (dC (.int 2147483563))))
    (dSeq (dRet (dOp modD (dCall intD [(dOp fdivD (dOp modD (dCall intD [(dOp addD (dOp mulD (dVar 3) (dVar 3)) (dOp mulD (dC (.int 1193)) (dVar 3)))]) (dC (.int 2147483549))) (dC (.int 16)))]) (dVar 1)))
    dNx)))))))))
def f__law_draw : List D → IH → R (D × IH) := dFn 7 b__law_draw
theorem w__law_draw {g : GI} (A : All g) : SB g N__law_draw 0 (defScope (top 49)) b__law_draw (defBody (top 49)) :=
    (sb_cons (s_put (e_var (by kernel_rfl)) se_str (se_bin addD_ok (e_idx (e_var (by kernel_rfl)) se_str (by kernel_rfl)) se_int) (by kernel_rfl))
    (sb_cons (ss_if (st_cmp gtD_ok bo_gt (e_idx (e_var (by kernel_rfl)) se_str (by kernel_rfl)) se_int (by kernel_rfl))
    (sb_cons (s_set (se_bin modD_ok (e_T intD_ok bv_int (by decide) A.n_int (by kernel_rfl) (a_cons (e_idx (e_var (by kernel_rfl)) se_str (by kernel_rfl)) (by kernel_rfl) .nil)) (e_var (by kernel_rfl))) (by kernel_rfl))
    (sb_cons (s_put (e_var (by kernel_rfl)) se_str (se_bin fdivD_ok (e_idx (e_var (by kernel_rfl)) se_str (by kernel_rfl)) (e_var (by kernel_rfl))) (by kernel_rfl))
    (sb_cons (ss_ret (e_var (by kernel_rfl)))
    sb_nil)))
    sb_nil)
    (sb_cons (s_par (a_cons (e_idx (e_var (by kernel_rfl)) se_str (by kernel_rfl)) (by kernel_rfl) (a_cons (e_idx (e_var (by kernel_rfl)) se_str (by kernel_rfl)) (by kernel_rfl) .nil)) (by kernel_rfl))
    (sb_cons (s_put (e_var (by kernel_rfl)) se_str (se_bin addD_ok (e_var (by kernel_rfl)) se_int) (by kernel_rfl))
    (sb_cons (s_set (se_if (st_cmp neD_ok bo_ne (e_var (by kernel_rfl)) (se_lst .nil) (by kernel_rfl)) (e_idx (e_var (by kernel_rfl)) (se_bin modD_ok (e_T intD_ok bv_int (by decide) A.n_int (by kernel_rfl) (a_cons (e_var (by kernel_rfl)) (by kernel_rfl) .nil)) (e_B lenD_ok bv_len (by decide) A.n_len (by kernel_rfl) (a_cons (e_var (by kernel_rfl)) (by kernel_rfl) .nil))) (by kernel_rfl)) se_int) (by kernel_rfl))
    (sb_cons (ss_if (t_w (sw_and (st_cmp geD_ok bo_ge (e_var (by kernel_rfl)) (se_bin powD_ok se_int se_int) (by kernel_rfl)) (sw_and1 (st_cmp ltD_ok bo_lt (e_var (by kernel_rfl)) (e_B lenD_ok bv_len (by decide) A.n_len (by kernel_rfl) (a_cons (e_var (by kernel_rfl)) (by kernel_rfl) .nil)) (by kernel_rfl)))))
    (sb_cons (s_put (e_var (by kernel_rfl)) se_str (se_bin fdivD_ok (e_var (by kernel_rfl)) (e_var (by kernel_rfl))) (by kernel_rfl))
    (sb_cons (ss_ret (se_bin modD_ok (e_T intD_ok bv_int (by decide) A.n_int (by kernel_rfl) (a_cons (e_var (by kernel_rfl)) (by kernel_rfl) .nil)) (e_var (by kernel_rfl))))
    sb_nil))
    sb_nil)
    (sb_cons (s_set (se_bin modD_ok (e_T intD_ok bv_int (by decide) A.n_int (by kernel_rfl) (a_cons (se_bin addD_ok (se_bin addD_ok (se_bin modD_ok (e_T intD_ok bv_int (by decide) A.n_int (by kernel_rfl) (a_cons (e_var (by kernel_rfl)) (by kernel_rfl) .nil)) se_int) (se_bin mulD_ok se_int (e_idx (e_var (by kernel_rfl)) se_str (by kernel_rfl)))) se_int) (by kernel_rfl) .nil)) se_int) (by kernel_rfl))
    (sb_cons (s_set (se_bin modD_ok (e_T intD_ok bv_int (by decide) A.n_int (by kernel_rfl) (a_cons (se_bin addD_ok (se_bin addD_ok (se_bin mulD_ok (e_var (by kernel_rfl)) (e_var (by kernel_rfl))) (se_bin mulD_ok se_int (e_idx (e_var (by kernel_rfl)) se_str (by kernel_rfl)))) se_int) (by kernel_rfl) .nil)) se_int) (by kernel_rfl))
    (sb_cons (ss_ret (se_bin modD_ok (e_T intD_ok bv_int (by decide) A.n_int (by kernel_rfl) (a_cons (se_bin fdivD_ok (se_bin modD_ok (e_T intD_ok bv_int (by decide) A.n_int (by kernel_rfl) (a_cons (se_bin addD_ok (se_bin mulD_ok (e_var (by kernel_rfl)) (e_var (by kernel_rfl))) (se_bin mulD_ok se_int (e_var (by kernel_rfl)))) (by kernel_rfl) .nil)) se_int) se_int) (by kernel_rfl) .nil)) (e_var (by kernel_rfl))))
    sb_nil)))))))))
theorem s__law_draw : FnScope N__law_draw ["_law_feed_here", "_law_many"] (defScope (top 49)) := ⟨rfl, rfl, rfl, by decide +kernel, rfl, by decide +kernel, by decide +kernel⟩
theorem c__law_draw {g : GI} (A : All g) : Cal g 1 "_law_draw" ["_law_feed_here", "_law_many"] f__law_draw [] := by
  obtain ⟨f, fd, F, hm⟩ := A.d__law_draw
  exact ⟨f, fd, [], [], fnG_of F s__law_draw (w__law_draw A), hm, F.kp, F.bindsN fun _ _ _ _ _ _ us hl => match us, hl with | [_, _], _ => rfl, .nil, fun _ _ _ => rfl⟩
/-! ### _law_any -/
def N__law_any : List Str := ["_law_feed_here", "_law_some"]
def b__law_any : Ev → IH → RS :=
    (dSeq (dRet (dOp ixD (dVar 1) (dCallF 2 f__law_draw [] [(dVar 0), (dCall lenD [(dVar 1)])])))
    dNx)
def f__law_any : List D → IH → R (D × IH) := dFn 2 b__law_any
theorem w__law_any {g : GI} (A : All g) : SB g N__law_any 1 (defScope (top 50)) b__law_any (defBody (top 50)) :=
    (sb_cons (ss_ret (e_idx (e_var (by kernel_rfl)) (e_callF (c__law_draw A) (by decide) (by kernel_rfl) (a_cons (e_var (by kernel_rfl)) (by kernel_rfl) (a_cons (e_B lenD_ok bv_len (by decide) A.n_len (by kernel_rfl) (a_cons (e_var (by kernel_rfl)) (by kernel_rfl) .nil)) (by kernel_rfl) .nil))) (by kernel_rfl)))
    sb_nil)
theorem s__law_any : FnScope N__law_any ["_law_feed_here", "_law_some"] (defScope (top 50)) := ⟨rfl, rfl, rfl, by decide +kernel, rfl, by decide +kernel, by decide +kernel⟩
theorem c__law_any {g : GI} (A : All g) : Cal g 2 "_law_any" ["_law_feed_here", "_law_some"] f__law_any [] := by
  obtain ⟨f, fd, F, hm⟩ := A.d__law_any
  exact ⟨f, fd, [], [], fnG_of F s__law_any (w__law_any A), hm, F.kp, F.bindsN fun _ _ _ _ _ _ us hl => match us, hl with | [_, _], _ => rfl, .nil, fun _ _ _ => rfl⟩
/-! ### _law_wood -/
def N__law_wood : List Str := ["_law_feed_here", "_law_many", "_law_pool", "_law_k", "_law_start", "_law_found", "_law_ways", "_law_pair"]
def b__law_wood : Ev → IH → RS :=
    (dSeq (dSet 2 (dLst [(dC (.str "top")), (dC (.str "a")), (dC (.str "ab")), (dC (.str "b")), (dC (.str "in")), (dC (.str "zz")), (dC (.str "abcdefgh")), (dC (.str "c")), (dC (.str "room")), (dC (.str "m")), (dC (.str "x")), (dC (.str "ba"))]))
    (dSeq (dPar 4 5 (dCallF 2 f__law_draw [] [(dVar 0), (dC (.int 12))]) (dBox []))
    (dSeq (dFor (gN 3) (iR1 (dVar 1))
    (dSeq (dSet 6 (dOp addD (dLst [(dC (.str ""))]) (dLcB false (gN 7) (dVar 5) none (dOp ixD (dVar 7) (dC (.int 0))) [7])))
    (dSeq (dExpr (dMe isL appD (dVar 5) [(dTup [(dOp ixD (dVar 2) (dOp modD (dCall intD [(dOp addD (dVar 4) (dOp mulD (dC (.int 5)) (dVar 3)))]) (dC (.int 12)))), (dCallF 2 f__law_any [] [(dVar 0), (dOp addD (dVar 6) (dSl (dVar 6) (some (negD (dC (.int 1)))) none))])])]))
    dNx)) [])
    (dSeq (dSeq (dFzV 5) (dRet (dCall srtA [(dVar 5)])))
    dNx))))
def f__law_wood : List D → IH → R (D × IH) := dFn 8 b__law_wood
theorem w__law_wood {g : GI} (A : All g) : SB g N__law_wood 2 (defScope (top 51)) b__law_wood (defBody (top 51)) :=
    (sb_cons (s_set (se_lst (a_cons se_str (by kernel_rfl) (a_cons se_str (by kernel_rfl) (a_cons se_str (by kernel_rfl) (a_cons se_str (by kernel_rfl) (a_cons se_str (by kernel_rfl) (a_cons se_str (by kernel_rfl) (a_cons se_str (by kernel_rfl) (a_cons se_str (by kernel_rfl) (a_cons se_str (by kernel_rfl) (a_cons se_str (by kernel_rfl) (a_cons se_str (by kernel_rfl) (a_cons se_str (by kernel_rfl) .nil))))))))))))) (by kernel_rfl))
    (sb_cons (s_par (a_cons (e_callF (c__law_draw A) (by decide) (by kernel_rfl) (a_cons (e_var (by kernel_rfl)) (by kernel_rfl) (a_cons se_int (by kernel_rfl) .nil))) (by kernel_rfl) (a_cons (se_box .nil) (by kernel_rfl) .nil)) (by kernel_rfl))
    (sb_cons (ss_for [] (i_range1 A.n_range (by kernel_rfl) (a_cons (e_var (by kernel_rfl)) (by kernel_rfl) .nil)) (g_name (by kernel_rfl))
    (sb_cons (s_set (se_bin addD_ok (se_lst (a_cons se_str (by kernel_rfl) .nil)) (e_lcB [("_law_pair", 7)] (e_var (by kernel_rfl)) (g_name (by kernel_rfl)) .nil (e_idx (e_var (by kernel_rfl)) se_int (by kernel_rfl)) trivial (ro_op rod_ix ro_var ro_c) (by kernel_rfl))) (by kernel_rfl))
    (sb_cons (ss_expr (e_app (e_var (by kernel_rfl)) (a_cons (se_tup (a_cons (e_idx (e_var (by kernel_rfl)) (se_bin modD_ok (e_T intD_ok bv_int (by decide) A.n_int (by kernel_rfl) (a_cons (se_bin addD_ok (e_var (by kernel_rfl)) (se_bin mulD_ok se_int (e_var (by kernel_rfl)))) (by kernel_rfl) .nil)) se_int) (by kernel_rfl)) (by kernel_rfl) (a_cons (e_callF (c__law_any A) (by decide) (by kernel_rfl) (a_cons (e_var (by kernel_rfl)) (by kernel_rfl) (a_cons (se_bin addD_ok (e_var (by kernel_rfl)) (se_slice (e_var (by kernel_rfl)) (se_neg se_int) trivial)) (by kernel_rfl) .nil))) (by kernel_rfl) .nil))) (by kernel_rfl) .nil) (by kernel_rfl)) (by kernel_rfl))
    sb_nil)) (by kernel_rfl))
    (sb_cons (ss_fzv (i := 5) (ss_ret (e_B srtA_ok bv_sorted (by decide) A.n_sorted (by kernel_rfl) (a_cons (e_var (by kernel_rfl)) (by kernel_rfl) .nil))))
    sb_nil))))
theorem s__law_wood : FnScope N__law_wood ["_law_feed_here", "_law_many"] (defScope (top 51)) := ⟨rfl, rfl, rfl, by decide +kernel, rfl, by decide +kernel, by decide +kernel⟩
theorem c__law_wood {g : GI} (A : All g) : Cal g 3 "_law_wood" ["_law_feed_here", "_law_many"] f__law_wood [] := by
  obtain ⟨f, fd, F, hm⟩ := A.d__law_wood
  exact ⟨f, fd, [], [], fnG_of F s__law_wood (w__law_wood A), hm, F.kp, F.bindsN fun _ _ _ _ _ _ us hl => match us, hl with | [_, _], _ => rfl, .nil, fun _ _ _ => rfl⟩
/-! ### _law_case -/
def N__law_case : List Str := ["_law_feed_here", "_law_most", "_law_pairs", "_law_shelf", "_law_wood_here", "_law_spare", "_law_uses_here", "_law_pair", "_law_k"]
def b__law_case : Ev → IH → RS :=
    (dSeq (dSet 2 (dCallF 2 f__law_wood [] [(dVar 0), (dOp addD (dC (.int 1)) (dCallF 2 f__law_draw [] [(dVar 0), (dVar 1)]))]))
    (dSeq (dSet 3 (dCall tupleD [(dLc false (gN 7) (iAny (dVar 2)) none (dCallF 2 f__law_any [] [(dVar 0), (dLst [(dC (.int 0)), (dC (.int 0)), (dC (.int 1)), (dC (.int 1)), (dC (.int 2)), (dC (.int 3))])]) [7])]))
    (dSeq (dSet 4 (dCall tupleD [(dLc false (gN 7) (iAny (dVar 2)) none (dTup [(dOp ixD (dVar 7) (dC (.int 0))), (dOp ixD (dVar 7) (dC (.int 1))), (dC (.int 0))]) [7])]))
    (dSeq (dParN [5, 6] [(dLc false (gN 7) (iAny (dVar 2)) none (dCallF 2 f__law_any [] [(dVar 0), (dLst [(dC (.int 0)), (dC (.int 0)), (dC (.int 0)), (dC (.int 1)), (dC (.int 1)), (dC (.int 2)), (dOp powD (dC (.int 10)) (dC (.int 30)))])]) [7]), (dCallP 2 f__law_uses [] [(dVar 4), (dVar 3)])])
    (dSeq (dRet (dTup [(dCall tupleD [(dLc false (gN 8) (iR1 (dCall lenD [(dVar 4)])) none (dOp addD (dSl (dOp ixD (dVar 4) (dVar 8)) none (some (dC (.int 2)))) (dTup [(dOp addD (dOp ixD (dVar 6) (dVar 8)) (dOp ixD (dVar 5) (dVar 8)))])) [8])]), (dVar 3)]))
    dNx)))))
def f__law_case : List D → IH → R (D × IH) := dFn 9 b__law_case
theorem w__law_case {g : GI} (A : All g) : SB g N__law_case 3 (defScope (top 55)) b__law_case (defBody (top 55)) :=
    (sb_cons (s_set (e_callF (c__law_wood A) (by decide) (by kernel_rfl) (a_cons (e_var (by kernel_rfl)) (by kernel_rfl) (a_cons (se_bin addD_ok se_int (e_callF (c__law_draw A) (by decide) (by kernel_rfl) (a_cons (e_var (by kernel_rfl)) (by kernel_rfl) (a_cons (e_var (by kernel_rfl)) (by kernel_rfl) .nil)))) (by kernel_rfl) .nil))) (by kernel_rfl))
    (sb_cons (s_set (e_T tupleD_ok bv_tuple (by decide) A.n_tuple (by kernel_rfl) (a_cons (e_lc [("_law_pair", 7)] (i_any (e_var (by kernel_rfl))) (g_name (by kernel_rfl)) .nil (e_callF (c__law_any A) (by decide) (by kernel_rfl) (a_cons (e_var (by kernel_rfl)) (by kernel_rfl) (a_cons (se_lst (a_cons se_int (by kernel_rfl) (a_cons se_int (by kernel_rfl) (a_cons se_int (by kernel_rfl) (a_cons se_int (by kernel_rfl) (a_cons se_int (by kernel_rfl) (a_cons se_int (by kernel_rfl) .nil))))))) (by kernel_rfl) .nil))) (by kernel_rfl)) (by kernel_rfl) .nil)) (by kernel_rfl))
    (sb_cons (s_set (e_T tupleD_ok bv_tuple (by decide) A.n_tuple (by kernel_rfl) (a_cons (e_lc [("_law_pair", 7)] (i_any (e_var (by kernel_rfl))) (g_name (by kernel_rfl)) .nil (se_tup (a_cons (e_idx (e_var (by kernel_rfl)) se_int (by kernel_rfl)) (by kernel_rfl) (a_cons (e_idx (e_var (by kernel_rfl)) se_int (by kernel_rfl)) (by kernel_rfl) (a_cons se_int (by kernel_rfl) .nil)))) (by kernel_rfl)) (by kernel_rfl) .nil)) (by kernel_rfl))
    (sb_cons (s_parN (a_cons (e_lc [("_law_pair", 7)] (i_any (e_var (by kernel_rfl))) (g_name (by kernel_rfl)) .nil (e_callF (c__law_any A) (by decide) (by kernel_rfl) (a_cons (e_var (by kernel_rfl)) (by kernel_rfl) (a_cons (se_lst (a_cons se_int (by kernel_rfl) (a_cons se_int (by kernel_rfl) (a_cons se_int (by kernel_rfl) (a_cons se_int (by kernel_rfl) (a_cons se_int (by kernel_rfl) (a_cons se_int (by kernel_rfl) (a_cons (se_bin powD_ok se_int se_int) (by kernel_rfl) .nil)))))))) (by kernel_rfl) .nil))) (by kernel_rfl)) (by kernel_rfl) (a_cons (e_callP (c__law_uses A) (by decide) (by kernel_rfl) (a_cons (e_var (by kernel_rfl)) (by kernel_rfl) (a_cons (e_var (by kernel_rfl)) (by kernel_rfl) .nil))) (by kernel_rfl) .nil)) (by kernel_rfl) (by kernel_rfl))
    (sb_cons (ss_ret (se_tup (a_cons (e_T tupleD_ok bv_tuple (by decide) A.n_tuple (by kernel_rfl) (a_cons (e_lc [("_law_k", 8)] (i_range1 A.n_range (by kernel_rfl) (a_cons (e_B lenD_ok bv_len (by decide) A.n_len (by kernel_rfl) (a_cons (e_var (by kernel_rfl)) (by kernel_rfl) .nil)) (by kernel_rfl) .nil)) (g_name (by kernel_rfl)) .nil (se_bin addD_ok (se_slice (e_idx (e_var (by kernel_rfl)) (e_var (by kernel_rfl)) (by kernel_rfl)) trivial se_int) (se_tup (a_cons (se_bin addD_ok (e_idx (e_var (by kernel_rfl)) (e_var (by kernel_rfl)) (by kernel_rfl)) (e_idx (e_var (by kernel_rfl)) (e_var (by kernel_rfl)) (by kernel_rfl))) (by kernel_rfl) .nil))) (by kernel_rfl)) (by kernel_rfl) .nil)) (by kernel_rfl) (a_cons (e_var (by kernel_rfl)) (by kernel_rfl) .nil))))
    sb_nil)))))
theorem s__law_case : FnScope N__law_case ["_law_feed_here", "_law_most"] (defScope (top 55)) := ⟨rfl, rfl, rfl, by decide +kernel, rfl, by decide +kernel, by decide +kernel⟩
theorem c__law_case {g : GI} (A : All g) : Cal g 4 "_law_case" ["_law_feed_here", "_law_most"] f__law_case [] := by
  obtain ⟨f, fd, F, hm⟩ := A.d__law_case
  exact ⟨f, fd, [], [], fnG_of F s__law_case (w__law_case A), hm, F.kp, F.bindsN fun _ _ _ _ _ _ us hl => match us, hl with | [_, _], _ => rfl, .nil, fun _ _ _ => rfl⟩
/-! ### _law_pack -/
def N__law_pack : List Str := ["_law_feed_here", "_law_wood_here", "_law_shelf", "_law_most", "_law_first", "_law_here", "_law_lap", "_law_spots", "_law_left", "_law_found", "_law_goal", "_law_k", "_law_row_in"]
def b__law_pack : Ev → IH → RS :=
    (dSeq (dParN [7, 8, 9] [(dOp addD (dLst [(dC (.str ""))]) (dLc false (gN 12) (iAny (dVar 1)) none (dOp ixD (dVar 12) (dC (.int 0))) [12])), (dCall listB [(dVar 2)]), (dBox [])])
    (dSeq (dSet 4 (dCallF 2 f__law_any [] [(dVar 0), (dVar 7)]))
    (dSeq (dSet 5 (dVar 4))
    (dSeq (dFor (gN 6) (iR1 (dCallF 2 f__law_draw [] [(dVar 0), (dOp addD (dVar 3) (dC (.int 1)))]))
    (dSeq (dSet 10 (dIf (dOp eqD (dCallF 2 f__law_draw [] [(dVar 0), (dC (.int 4))]) (dC (.int 0))) (dVar 4) (dCallF 2 f__law_any [] [(dVar 0), (dVar 7)])))
    (dSeq (dSet 11 (dOp subD (dMe isL idxL (dVar 7) [(dVar 5)]) (dC (.int 1))))
    (dSeq (dIfS (dAnd (dOp neD (dVar 5) (dVar 10)) (dOr (dOp ltD (dVar 11) (dC (.int 0))) (dOp gtD (dOp ixD (dVar 8) (dVar 11)) (dC (.int 0)))))
    (dSeq (dExpr (dMe isL appD (dVar 9) [(dTup [(dVar 5), (dVar 10)])]))
    (dSeq (dIfS (dOp geD (dVar 11) (dC (.int 0)))
    (dSeq (dPut (dVar 8) (dVar 11) (dOp subD (dOp ixD (dVar 8) (dVar 11)) (dC (.int 1))))
    dNx)
    dNx)
    (dSeq (dSet 5 (dVar 10))
    dNx)))
    (dSeq (dSet 5 (dCallF 2 f__law_any [] [(dVar 0), (dVar 7)]))
    dNx))
    dNx))) [])
    (dSeq (dSeq (dFzV 9) (dRet (dCall tupleD [(dCall srtA [(dVar 9)])])))
    dNx)))))
def f__law_pack : List D → IH → R (D × IH) := dFn 13 b__law_pack
theorem w__law_pack {g : GI} (A : All g) : SB g N__law_pack 2 (defScope (top 56)) b__law_pack (defBody (top 56)) :=
    (sb_cons (s_par3 (a_cons (se_bin addD_ok (se_lst (a_cons se_str (by kernel_rfl) .nil)) (e_lc [("_law_row_in", 12)] (i_any (e_var (by kernel_rfl))) (g_name (by kernel_rfl)) .nil (e_idx (e_var (by kernel_rfl)) se_int (by kernel_rfl)) (by kernel_rfl))) (by kernel_rfl) (a_cons (e_T listB_ok bv_list (by decide) A.n_list (by kernel_rfl) (a_cons (e_var (by kernel_rfl)) (by kernel_rfl) .nil)) (by kernel_rfl) (a_cons (se_box .nil) (by kernel_rfl) .nil))) (by kernel_rfl))
    (sb_cons (s_set (e_callF (c__law_any A) (by decide) (by kernel_rfl) (a_cons (e_var (by kernel_rfl)) (by kernel_rfl) (a_cons (e_var (by kernel_rfl)) (by kernel_rfl) .nil))) (by kernel_rfl))
    (sb_cons (s_set (e_var (by kernel_rfl)) (by kernel_rfl))
    (sb_cons (ss_for [] (i_range1 A.n_range (by kernel_rfl) (a_cons (e_callF (c__law_draw A) (by decide) (by kernel_rfl) (a_cons (e_var (by kernel_rfl)) (by kernel_rfl) (a_cons (se_bin addD_ok (e_var (by kernel_rfl)) se_int) (by kernel_rfl) .nil))) (by kernel_rfl) .nil)) (g_name (by kernel_rfl))
    (sb_cons (s_set (se_if (st_cmp eqD_ok bo_eq (e_callF (c__law_draw A) (by decide) (by kernel_rfl) (a_cons (e_var (by kernel_rfl)) (by kernel_rfl) (a_cons se_int (by kernel_rfl) .nil))) se_int (by kernel_rfl)) (e_var (by kernel_rfl)) (e_callF (c__law_any A) (by decide) (by kernel_rfl) (a_cons (e_var (by kernel_rfl)) (by kernel_rfl) (a_cons (e_var (by kernel_rfl)) (by kernel_rfl) .nil)))) (by kernel_rfl))
    (sb_cons (s_set (se_bin subD_ok (e_index (e_var (by kernel_rfl)) (a_cons (e_var (by kernel_rfl)) (by kernel_rfl) .nil) (by kernel_rfl) (fun _ => rfl)) se_int) (by kernel_rfl))
    (sb_cons (ss_if (t_w (sw_and (st_cmp neD_ok bo_ne (e_var (by kernel_rfl)) (e_var (by kernel_rfl)) (by kernel_rfl)) (sw_and1 (t_w (sw_or (st_cmp ltD_ok bo_lt (e_var (by kernel_rfl)) se_int (by kernel_rfl)) (sw_or1 (st_cmp gtD_ok bo_gt (e_idx (e_var (by kernel_rfl)) (e_var (by kernel_rfl)) (by kernel_rfl)) se_int (by kernel_rfl))))))))
    (sb_cons (ss_expr (e_app (e_var (by kernel_rfl)) (a_cons (se_tup (a_cons (e_var (by kernel_rfl)) (by kernel_rfl) (a_cons (e_var (by kernel_rfl)) (by kernel_rfl) .nil))) (by kernel_rfl) .nil) (by kernel_rfl)) (by kernel_rfl))
    (sb_cons (ss_if (st_cmp geD_ok bo_ge (e_var (by kernel_rfl)) se_int (by kernel_rfl))
    (sb_cons (s_put (e_var (by kernel_rfl)) (e_var (by kernel_rfl)) (se_bin subD_ok (e_idx (e_var (by kernel_rfl)) (e_var (by kernel_rfl)) (by kernel_rfl)) se_int) (by kernel_rfl))
    sb_nil)
    sb_nil)
    (sb_cons (s_set (e_var (by kernel_rfl)) (by kernel_rfl))
    sb_nil)))
    (sb_cons (s_set (e_callF (c__law_any A) (by decide) (by kernel_rfl) (a_cons (e_var (by kernel_rfl)) (by kernel_rfl) (a_cons (e_var (by kernel_rfl)) (by kernel_rfl) .nil))) (by kernel_rfl))
    sb_nil))
    sb_nil))) (by kernel_rfl))
    (sb_cons (ss_fzv (i := 9) (ss_ret (e_T tupleD_ok bv_tuple (by decide) A.n_tuple (by kernel_rfl) (a_cons (e_B srtA_ok bv_sorted (by decide) A.n_sorted (by kernel_rfl) (a_cons (e_var (by kernel_rfl)) (by kernel_rfl) .nil)) (by kernel_rfl) .nil))))
    sb_nil)))))
theorem s__law_pack : FnScope N__law_pack ["_law_feed_here", "_law_wood_here", "_law_shelf", "_law_most"] (defScope (top 56)) := ⟨rfl, rfl, rfl, by decide +kernel, rfl, by decide +kernel, by decide +kernel⟩
theorem c__law_pack {g : GI} (A : All g) : Cal g 3 "_law_pack" ["_law_feed_here", "_law_wood_here", "_law_shelf", "_law_most"] f__law_pack [] := by
  obtain ⟨f, fd, F, hm⟩ := A.d__law_pack
  exact ⟨f, fd, [], [], fnG_of F s__law_pack (w__law_pack A), hm, F.kp, F.bindsN fun _ _ _ _ _ _ us hl => match us, hl with | [_, _, _, _], _ => rfl, .nil, fun _ _ _ => rfl⟩
/-! ### law -/
def N_law : List Str := ["_law_script", "_law_feed_here", "_law_lap", "_law_pack_here", "_law_more", "_law_wood_here", "_law_shelf"]
def b_law : Ev → IH → RS :=
    (dSeq (dSet 1 (dCallF 1 f__law_feed [] [(dVar 0)]))
    (dSeq (dIfS (dNot (dCallP 0 f__law_hand_right [] []))
    (dSeq (dRet (dC (.bl false)))
    dNx)
    dNx)
    (dSeq (dFor (gN 2) (iR1 (dC (.int 3)))
    (dSeq (dAsg (gT [(gN 5), (gN 6)]) (dCallF 2 f__law_case [] [(dVar 1), (dC (.int 7))]))
    (dSeq (dSet 3 (dCallF 4 f__law_pack [] [(dVar 1), (dVar 5), (dVar 6), (dC (.int 10))]))
    (dSeq (dIfS (dOr (dNot (dCallP 3 f__law_is_right [] [(dVar 5), (dVar 6), (dVar 3)])) (dNot (dCallP 3 f__law_is_right [] [(dVar 5), (dVar 6), (dTup [])])))
    (dSeq (dRet (dC (.bl false)))
    dNx)
    dNx)
    (dSeq (dSet 4 (dCall tupleD [(dCall srtA [(dOp addD (dVar 3) (dOp mulA (dTup [(dTup [(dC (.str "")), (dOp ixD (dOp ixD (dVar 5) (dCallF 2 f__law_draw [] [(dVar 1), (dCall lenD [(dVar 5)])])) (dC (.int 0)))])]) (dOp addD (dC (.int 1)) (dCallF 2 f__law_draw [] [(dVar 1), (dC (.int 3))]))))])]))
    (dSeq (dIfS (dNot (dCallP 3 f__law_is_right [] [(dVar 5), (dVar 6), (dVar 4)]))
    (dSeq (dRet (dC (.bl false)))
    dNx)
    dNx)
    dNx))))) [])
    (dSeq (dRet (dC (.bl true)))
    dNx))))
def f_law : List D → IH → R (D × IH) := dFn 7 b_law
theorem w_law {g : GI} (A : All g) : SB g N_law 12 (defScope (top 64)) b_law (defBody (top 64)) :=
    (sb_cons (s_set (e_callF (c__law_feed A) (by decide) (by kernel_rfl) (a_cons (e_var (by kernel_rfl)) (by kernel_rfl) .nil)) (by kernel_rfl))
    (sb_cons (ss_if (st_not (t_plain (e_callP0 (c__law_hand_right A) (by decide) (by kernel_rfl)) (by kernel_rfl)))
    (sb_cons (ss_ret se_bl)
    sb_nil)
    sb_nil)
    (sb_cons (ss_for [] (i_range1 A.n_range (by kernel_rfl) (a_cons se_int (by kernel_rfl) .nil)) (g_name (by kernel_rfl))
    (sb_cons (ss_asg (sg_tup (g_cons (g_name (by kernel_rfl)) (by kernel_rfl) (g_cons (g_name (by kernel_rfl)) (by kernel_rfl) .nil))) (e_callF (c__law_case A) (by decide) (by kernel_rfl) (a_cons (e_var (by kernel_rfl)) (by kernel_rfl) (a_cons se_int (by kernel_rfl) .nil))) (by kernel_rfl) (by kernel_rfl))
    (sb_cons (s_set (e_callF (c__law_pack A) (by decide) (by kernel_rfl) (a_cons (e_var (by kernel_rfl)) (by kernel_rfl) (a_cons (e_var (by kernel_rfl)) (by kernel_rfl) (a_cons (e_var (by kernel_rfl)) (by kernel_rfl) (a_cons se_int (by kernel_rfl) .nil))))) (by kernel_rfl))
    (sb_cons (ss_if (t_w (sw_or (st_not (t_plain (e_callP (c__law_is_right A) (by decide) (by kernel_rfl) (a_cons (e_var (by kernel_rfl)) (by kernel_rfl) (a_cons (e_var (by kernel_rfl)) (by kernel_rfl) (a_cons (e_var (by kernel_rfl)) (by kernel_rfl) .nil)))) (by kernel_rfl))) (sw_or1 (st_not (t_plain (e_callP (c__law_is_right A) (by decide) (by kernel_rfl) (a_cons (e_var (by kernel_rfl)) (by kernel_rfl) (a_cons (e_var (by kernel_rfl)) (by kernel_rfl) (a_cons (se_tup .nil) (by kernel_rfl) .nil)))) (by kernel_rfl))))))
    (sb_cons (ss_ret se_bl)
    sb_nil)
    sb_nil)
    (sb_cons (s_set (e_T tupleD_ok bv_tuple (by decide) A.n_tuple (by kernel_rfl) (a_cons (e_B srtA_ok bv_sorted (by decide) A.n_sorted (by kernel_rfl) (a_cons (se_bin addD_ok (e_var (by kernel_rfl)) (se_bin mulA_ok (se_tup (a_cons (se_tup (a_cons se_str (by kernel_rfl) (a_cons (e_idx (e_idx (e_var (by kernel_rfl)) (e_callF (c__law_draw A) (by decide) (by kernel_rfl) (a_cons (e_var (by kernel_rfl)) (by kernel_rfl) (a_cons (e_B lenD_ok bv_len (by decide) A.n_len (by kernel_rfl) (a_cons (e_var (by kernel_rfl)) (by kernel_rfl) .nil)) (by kernel_rfl) .nil))) (by kernel_rfl)) se_int (by kernel_rfl)) (by kernel_rfl) .nil))) (by kernel_rfl) .nil)) (se_bin addD_ok se_int (e_callF (c__law_draw A) (by decide) (by kernel_rfl) (a_cons (e_var (by kernel_rfl)) (by kernel_rfl) (a_cons se_int (by kernel_rfl) .nil)))))) (by kernel_rfl) .nil)) (by kernel_rfl) .nil)) (by kernel_rfl))
    (sb_cons (ss_if (st_not (t_plain (e_callP (c__law_is_right A) (by decide) (by kernel_rfl) (a_cons (e_var (by kernel_rfl)) (by kernel_rfl) (a_cons (e_var (by kernel_rfl)) (by kernel_rfl) (a_cons (e_var (by kernel_rfl)) (by kernel_rfl) .nil)))) (by kernel_rfl)))
    (sb_cons (ss_ret se_bl)
    sb_nil)
    sb_nil)
    sb_nil))))) (by kernel_rfl))
    (sb_cons (ss_ret se_bl)
    sb_nil))))
theorem s_law : FnScope N_law ["_law_script"] (defScope (top 64)) := ⟨rfl, rfl, rfl, by decide +kernel, rfl, by decide +kernel, by decide +kernel⟩
theorem c_law {g : GI} (A : All g) : Cal g 13 "law" ["_law_script"] f_law [] := by
  obtain ⟨f, fd, F, hm⟩ := A.d_law
  exact ⟨f, fd, [], [], fnG_of F s_law (w_law A), hm, F.kp, F.bindsN fun _ _ _ _ _ _ us hl => match us, hl with | [_], _ => rfl, .nil, fun _ _ _ => rfl⟩

/-! ### trees as data: what the program's own tables are -/
abbrev Fo := Str × Str × Int
def foP (f : Fo) : P := .tup [.str f.1, .str f.2.1, .int f.2.2]
def trP (t : List Fo) : P := .tup (t.map foP)
def sP (x : Str) : P := .str x
def nmsP (l : List Str) : P := .tup (l.map sP)
def nms (t : List Fo) : List Str := t.map (·.1)
theorem names_at {t : List Fo} (hl : t.length ≤ SL) : pf f_names_in [.pu (trP t)] = some (nmsP (nms t)) := by
  have e : dLc false (gT [(gN 1), (gN 2), (gN 3)]) (iAny (dVar 0)) none (dVar 1) [1, 2, 3] [some (.pu (trP t)), none, none, none] [] = .ok (.pu (.lst (t.map fun f => .str f.1)), []) :=
    lc_all (c := foP) (fun f => [some (.pu (trP t)), some (.pu (.str f.1)), some (.pu (.str f.2.1)), some (.pu (.int f.2.2))]) (fun f => .str f.1) rfl hl (fun _ _ => rfl) (fun _ _ => rfl)
  have r := pf_at (φ := f_names_in) (ds := [.pu (trP t)]) (dFn_rt (b := b_names_in) (dSeq_rt (dRet_at (dCall_at (cd := tupleD) e rfl))))
  rw [r]; unfold nmsP nms; rw [List.map_map]; rfl
def kS (x : Str) : Key := .inr x
theorem nd_map {α β : Type} {f : α → β} (hf : ∀ a b, f a = f b → a = b) : ∀ {l : List α}, l.Nodup → (l.map f).Nodup
  | [], _ => List.nodup_nil
  | a :: l, h => by
    rw [List.nodup_cons] at h
    rw [List.map_cons, List.nodup_cons]
    refine ⟨fun m => ?_, nd_map hf h.2⟩
    obtain ⟨b, hb, e⟩ := List.mem_map.mp m
    rw [hf b a e] at hb
    exact h.1 hb
theorem nd_keys {l : List Str} (h : l.Nodup) : (l.map kS).Nodup := nd_map (fun a b e => Sum.inr.inj e) h
theorem parents_at {t : List Fo} (hl : t.length ≤ SL) (nd : (nms t).Nodup) : pf f_parents_by [.pu (trP t)] = some (.dic (t.map fun f => (kS f.1, .str f.2.1))) := by
  refine pf_at (ih := [] ++ [.dead]) (φ := f_parents_by) (dFn_rt (b := b_parents_by) (dSeq_rt (dRet_at ?_)))
  exact dcF_at (c := foP) (fun f => [some (.pu (trP t)), some (.pu (.str f.1)), some (.pu (.str f.2.1)), some (.pu (.int f.2.2))]) (fun f => .str f.1) (fun f => kS f.1) (fun f => .str f.2.1) rfl hl (fun _ _ => rfl) (fun _ _ => rfl) (fun _ _ => rfl) (fun _ _ => rfl) (by have := nd_keys nd; unfold nms at this; rwa [List.map_map] at this)
theorem rooms_at {t : List Fo} (hl : t.length ≤ SL) (nd : (nms t).Nodup) : pf f_rooms_by [.pu (trP t)] = some (.dic (t.map fun f => (kS f.1, .int f.2.2))) := by
  refine pf_at (ih := [] ++ [.dead]) (φ := f_rooms_by) (dFn_rt (b := b_rooms_by) (dSeq_rt (dRet_at ?_)))
  exact dcF_at (c := foP) (fun f => [some (.pu (trP t)), some (.pu (.str f.1)), some (.pu (.str f.2.1)), some (.pu (.int f.2.2))]) (fun f => .str f.1) (fun f => kS f.1) (fun f => .int f.2.2) rfl hl (fun _ _ => rfl) (fun _ _ => rfl) (fun _ _ => rfl) (fun _ _ => rfl) (by have := nd_keys nd; unfold nms at this; rwa [List.map_map] at this)
def stP (c : List Int) : P := .tup (c.map .int)
theorem zip_PP : ∀ (xs : List Str) (c : List Int), zipP (xs.map sP) (c.map .int) = (xs.zip c).map fun q => .tup [.str q.1, .int q.2]
  | [], _ => by simp [zipP]
  | _ :: _, [] => by simp [zipP]
  | x :: xs, n :: c => by
    rw [List.map_cons, List.map_cons, zipP, zip_PP xs c]; rfl
theorem counts_at {t : List Fo} {c : List Int} (hl : t.length ≤ SL) (nd : (nms t).Nodup) (hc : c.length = t.length) : pf f_counts_by [.pu (trP t), .pu (stP c)] = some (.dic (((nms t).zip c).map fun q => (kS q.1, .int q.2))) := by
  refine pf_at (ih := [] ++ [.dead]) (φ := f_counts_by) (dFn_rt (b := b_counts_by) (dSeq_rt (dRet_at ?_)))
  refine dcF_at (c := fun q : Str × Int => .tup [.str q.1, .int q.2]) (l := (nms t).zip c) (fun q => [some (.pu (trP t)), some (.pu (stP c)), some (.pu (.str q.1)), some (.pu (.int q.2))]) (fun q => .str q.1) (fun q => kS q.1) (fun q => .int q.2) ?_ ?_ (fun _ _ => rfl) (fun _ _ => rfl) (fun _ _ => rfl) (fun _ _ => rfl) ?_
  · have e := dCallP1 (env := ent 4 [.pu (trP t), .pu (stP c)]) (ih := []) (f := dVar 0) rfl (names_at hl)
    unfold Dn.iZip
    rw [dArgs2 e (show dVar 1 _ [] = .ok (.pu (stP c), []) from rfl)]
    show R.ok (zipP ((nms t).map sP) (c.map .int), []) = _
    rw [zip_PP]
  · rw [List.length_zip]; unfold nms; rw [List.length_map]; omega
  · have : ((nms t).zip c).map (fun q => kS q.1) = (nms t).map kS := by
      rw [show (fun q : Str × Int => kS q.1) = kS ∘ Prod.fst from rfl, ← List.map_map, List.map_fst_zip (by unfold nms; rw [List.length_map]; omega)]
    rw [this]; exact nd_keys nd
/-! ### a tree that is one: each folder's way out -/
structure TOk (t : List Fo) (way : Str → List Str) : Prop where
  nd : (nms t).Nodup
  ne : ("" : Str) ∉ nms t
  w0 : way "" = []
  w1 : ∀ f ∈ t, way f.1 = f.1 :: way f.2.1
  par : ∀ f ∈ t, f.2.1 = "" ∨ f.2.1 ∈ nms t
  len : ∀ x, (way x).length ≤ 100
  ndw : ∀ x ∈ nms t, (way x).Nodup
  sub : ∀ x ∈ nms t, ∀ y ∈ way x, y ∈ nms t
  lt : t.length ≤ 100
theorem TOk.sl {t : List Fo} {way : Str → List Str} (h : TOk t way) : t.length ≤ SL := Nat.le_trans h.lt (by decide)
theorem sl100 {n : Nat} (h : n ≤ 20000) : n < SL := Nat.lt_of_le_of_lt h (by decide)
def spot (t : List Fo) (x : Str) : Prop := x = "" ∨ x ∈ nms t
theorem mem_nms {t : List Fo} {x : Str} (h : x ∈ nms t) : ∃ f ∈ t, f.1 = x := by
  obtain ⟨f, hf, e⟩ := List.mem_map.mp h
  exact ⟨f, hf, e⟩
theorem TOk.sub' {t : List Fo} {way : Str → List Str} (h : TOk t way) {x y : Str} (hx : spot t x) (hy : y ∈ way x) : y ∈ nms t := by
  rcases hx with e | hx
  · rw [e, h.w0] at hy; cases hy
  · exact h.sub x hx y hy
def paP (t : List Fo) : P := .dic (t.map fun f => (kS f.1, .str f.2.1))
def wyP (way : Str → List Str) (x : Str) : P := .tup ((way x).map sP)
section
variable {ih : IH} {n : Nat} {kvs : List (Key × D)} {ks : List (Key × P)} {x : Str}
theorem ix_dic {p : P} (h : lk ks (kS x) = some p) : ixD (.pu (.dic ks)) (.pu (.str x)) ih = .ok (.pu p, ih) := by
  show (match ((some (kS x)).map fun k => (lk ks k).map D.pu) with | some (some d) => R.ok (d, ih) | _ => .stuck) = _
  simp only [Option.map_some, h]
theorem ix_cell {d : D} (hc : ih[n]? = some (.dic kvs)) (h : lk kvs (kS x) = some d) : ixD (.ref n) (.pu (.str x)) ih = .ok (d, ih) := by
  unfold ixD; simp only [hc]; unfold ixK dlook; simp only [hc]
  show (match ((some (kS x)).map fun k => lk kvs k) with | some (some d) => R.ok (d, ih) | _ => .stuck) = _
  simp only [Option.map_some, h]
theorem notIn_cell (hc : ih[n]? = some (.dic kvs)) : notInKD (.pu (.str x)) (.ref n) ih = .ok (.pu (.bl (!(lk kvs (kS x)).isSome)), ih) := by
  show (match dlook (.ref n) (.pu (.str x)) ih with | some r => R.ok (D.pu (.bl (!r.isSome)), ih) | none => .stuck) = _
  unfold dlook; simp only [hc]; rfl
theorem in_dic : inKD (.pu (.str x)) (.pu (.dic ks)) ih = .ok (.pu (.bl (lk ks (kS x)).isSome), ih) := by
  show R.ok (D.pu (.bl ((lk ks (kS x)).map D.pu).isSome), ih) = _
  rw [Option.isSome_map]
theorem notIn_dic : notInKD (.pu (.str x)) (.pu (.dic ks)) ih = .ok (.pu (.bl (!(lk ks (kS x)).isSome)), ih) := by
  show R.ok (D.pu (.bl (!((lk ks (kS x)).map D.pu).isSome)), ih) = _
  rw [Option.isSome_map]
theorem put_cell {d : D} (hc : ih[n]? = some (.dic kvs)) (hl : kvs.length < SL) : putC (.ref n) (.pu (.str x)) d ih = some (ih.set n (.dic (putP kvs (kS x) d))) := by
  unfold putC; simp only [hc]
  show (if kvs.length < SL then some (ih.set n (.dic (putP kvs (kS x) d))) else none) = _
  rw [if_pos hl]
end
theorem par_at {t : List Fo} {f : Fo} (nd : (nms t).Nodup) (hf : f ∈ t) (ih : IH) : ixD (.pu (paP t)) (.pu (.str f.1)) ih = .ok (.pu (.str f.2.1), ih) :=
  ix_dic (lk_map (k := fun f : Fo => kS f.1) (v := fun f : Fo => P.str f.2.1) (by have := nd_keys nd; unfold nms at this; rwa [List.map_map] at this) hf)
/-- the table of ways so far -/
structure WI (t : List Fo) (way : Str → List Str) (wd : List (Key × D)) : Prop where
  val : ∀ x v, lk wd (kS x) = some v → v = .pu (wyP way x) ∧ spot t x
  emp : (lk wd (kS "")).isSome = true
  pur : ∀ kv ∈ wd, ∃ p, kv.2 = .pu p
theorem WI.put {t : List Fo} {way : Str → List Str} {wd : List (Key × D)} (h : WI t way wd) {x : Str} (hx : spot t x) : WI t way (putP wd (kS x) (.pu (wyP way x))) := by
  refine ⟨fun y v e => ?_, ?_, fun kv hkv => ?_⟩
  · rw [lk_put] at e
    split at e
    · rename_i z
      cases e
      have : x = y := Sum.inr.inj z
      rw [← this]; exact ⟨rfl, hx⟩
    · exact h.val y v e
  · rw [lk_put]; split
    · rfl
    · exact h.emp
  · unfold putP at hkv
    split at hkv
    · obtain ⟨b, hb, e⟩ := List.mem_map.mp hkv
      split at e
      · rw [← e]; exact ⟨_, rfl⟩
      · rw [← e]; exact h.pur b hb
    · rcases List.mem_append.mp hkv with z | z
      · exact h.pur kv z
      · rw [List.mem_singleton.mp z]; exact ⟨_, rfl⟩
theorem app_last {ih : IH} {c : Cl} {k : Nat} (h : k < ih.length) : (ih ++ [c])[k]? = ih[k]? := List.getElem?_append_left h
theorem at_last {ih : IH} {c : Cl} : (ih ++ [c])[ih.length]? = some c := by simp
theorem set_last {ih : IH} {c d : Cl} : (ih ++ [c]).set ih.length d = ih ++ [d] := by simp
theorem lt_of_at {ih : IH} {k : Nat} {c : Cl} (h : ih[k]? = some c) : k < ih.length := (List.getElem?_eq_some_iff.mp h).1
section
variable {t : List Fo} {way : Str → List Str}
/-- one after another: each one's parent is known by then -/
def RdL (t : List Fo) (kn : Str → Prop) : List Str → Prop
  | [] => True
  | a :: l => (∃ f ∈ t, f.1 = a ∧ kn f.2.1) ∧ RdL t (fun z => kn z ∨ z = a) l
theorem RdL.snoc {a : Str} : ∀ {l : List Str} {kn : Str → Prop}, RdL t kn l → (∃ f ∈ t, f.1 = a ∧ (kn f.2.1 ∨ f.2.1 ∈ l)) → RdL t kn (l ++ [a])
  | [], kn, _, h => by
      refine ⟨?_, trivial⟩
      obtain ⟨f, hf, e, k | k⟩ := h
      · exact ⟨f, hf, e, k⟩
      · cases k
  | b :: l, kn, r, h => ⟨r.1, RdL.snoc r.2 (by
      obtain ⟨f, hf, e, k | k⟩ := h
      · exact ⟨f, hf, e, .inl (.inl k)⟩
      · rcases List.mem_cons.mp k with z | z
        · exact ⟨f, hf, e, .inl (.inr z)⟩
        · exact ⟨f, hf, e, .inr z⟩)⟩
def wyC : Ev → IH → R (D × IH) := (dOp notInKD (dVar 5) (dVar 2))
def wyB : Ev → IH → RS := (dSeq (dExpr (dMe isL appD (dVar 4) [(dVar 5)])) (dSeq (dSet 5 (dOp ixD (dVar 1) (dVar 5))) dNx))
theorem app_at {env : Ev} {ih : IH} {l : List D} {f g : Ev → IH → R (D × IH)} {d : D} (hf : f env (ih ++ [.lst l]) = .ok (.ref ih.length, ih ++ [.lst l])) (hg : g env (ih ++ [.lst l]) = .ok (d, ih ++ [.lst l])) (hl : l.length < SL) : dMe isL appD f [g] env (ih ++ [.lst l]) = .ok (.pu .non, ih ++ [.lst (l ++ [d])]) := by
  unfold dMe; rw [hf]
  have e : isL (.ref ih.length) (ih ++ [.lst l]) = true := by unfold isL; simp only [at_last]
  show (if isL (.ref ih.length) (ih ++ [.lst l]) = true then (dArgs [g] env (ih ++ [.lst l])).bind fun r => appD (.ref ih.length) r.1 r.2 else .stuck) = _
  rw [if_pos e, dArgs1 hg]
  show appD (.ref ih.length) [d] (ih ++ [.lst l]) = _
  unfold appD; simp only [at_last, if_pos hl, set_last]
/-- up the way, till a folder whose way is known -/
theorem wy_while (T : TOk t way) {ih : IH} {wd : List (Key × D)} (h0 : ih[0]? = some (.dic wd)) (wi : WI t way wd) (x3 x6 : Option D) : ∀ (m k : Nat) (x : Str) (l : List Str), (way x).length ≤ m → m < k → l.length + m ≤ 1000 → spot t x →
    ∃ seg y, dWhile wyC wyB [] k [some (.pu (trP t)), some (.pu (paP t)), some (.ref 0), x3, some (.ref ih.length), some (.pu (.str x)), x6] (ih ++ [.lst (l.map fun z => .pu (.str z))]) = .nx [some (.pu (trP t)), some (.pu (paP t)), some (.ref 0), x3, some (.ref ih.length), some (.pu (.str y)), x6] (ih ++ [.lst ((l ++ seg).map fun z => .pu (.str z))]) ∧ seg.length ≤ m ∧ (lk wd (kS y)).isSome = true ∧ RdL t (fun z => z = y) seg.reverse ∧ ((seg = [] ∧ x = y) ∨ x ∈ seg)
  | m, 0, x, l, _, h, _, _ => absurd h (Nat.not_lt_zero _)
  | m, k + 1, x, l, hm, hk, hl, hx => by
    have h0' : (ih ++ [.lst (l.map fun z => .pu (.str z))])[0]? = some (.dic wd) := (app_last (lt_of_at h0)).trans h0
    have ec : wyC [some (.pu (trP t)), some (.pu (paP t)), some (.ref 0), x3, some (.ref ih.length), some (.pu (.str x)), x6] (ih ++ [.lst (l.map fun z => .pu (.str z))]) = .ok (.pu (.bl (!(lk wd (kS x)).isSome)), ih ++ [.lst (l.map fun z => .pu (.str z))]) := dOp_at rfl rfl (notIn_cell h0')
    rw [dWhile, ec]
    cases hs : (lk wd (kS x)).isSome with
    | true => exact ⟨[], x, by simp [bindS, truD, truP], by simp, hs, trivial, .inl ⟨rfl, rfl⟩⟩
    | false =>
      have hx' : x ∈ nms t := by
        rcases hx with e | hx
        · rw [e, wi.emp] at hs; cases hs
        · exact hx
      obtain ⟨f, hf, rfl⟩ := mem_nms hx'
      have hw := T.w1 f hf
      rw [hw, List.length_cons] at hm
      have eb : wyB [some (.pu (trP t)), some (.pu (paP t)), some (.ref 0), x3, some (.ref ih.length), some (.pu (.str f.1)), x6] (ih ++ [.lst (l.map fun z => .pu (.str z))]) = .nx [some (.pu (trP t)), some (.pu (paP t)), some (.ref 0), x3, some (.ref ih.length), some (.pu (.str f.2.1)), x6] (ih ++ [.lst ((l ++ [f.1]).map fun z => .pu (.str z))]) := by
        refine (dSeq_at (dExpr_at (app_at rfl rfl ?_))).trans ?_
        · rw [List.length_map]; exact sl100 (by omega)
        · refine (dSeq_at (dSet_at (dOp_at rfl rfl (par_at T.nd hf _)))).trans ?_
          rw [List.map_append]; rfl
      obtain ⟨seg, y, e1, e2, e3, e4, e5⟩ := wy_while T h0 wi x3 x6 (m - 1) k f.2.1 (l ++ [f.1]) (by omega) (by omega) (by simp; omega) (T.par f hf)
      refine ⟨f.1 :: seg, y, ?_, by simp; omega, e3, ?_, .inr (.head _)⟩
      · show (match wyB _ _ with | .nx env' ih' => dWhile wyC wyB [] k (wipeE [] env') ih' | .ct env' ih' => dWhile wyC wyB [] k (wipeE [] env') ih' | .bk env' ih' => .nx env' ih' | r => r) = _
        rw [eb]
        simp only [List.append_assoc, List.cons_append, List.nil_append] at e1
        simp only [List.append_assoc, List.cons_append, List.nil_append]
        exact e1
      · rw [List.reverse_cons]
        refine RdL.snoc e4 ⟨f, hf, rfl, ?_⟩
        rcases e5 with ⟨_, z⟩ | z
        · exact .inl z
        · exact .inr (List.mem_reverse.mpr z)
end
/-! ### ways_by -/
section
variable {t : List Fo} {way : Str → List Str}
def wyF : Ev → IH → RS := (dSeq (dPut (dVar 2) (dVar 6) (dTupX [(false, (dVar 6)), (true, (dOp ixD (dVar 2) (dOp ixD (dVar 1) (dVar 6))))])) dNx)
theorem set_self {ih : IH} {n : Nat} {c : Cl} (h : ih[n]? = some c) : ih.set n c = ih := by
  obtain ⟨hl, e⟩ := List.getElem?_eq_some_iff.mp h
  rw [← e]; exact List.set_getElem_self ..
theorem tupX_at {env : Ev} {ih : IH} {f g : Ev → IH → R (D × IH)} {p : P} {ps : List P} (e1 : f env ih = .ok (.pu p, ih)) (e2 : g env ih = .ok (.pu (.tup ps), ih)) (hl : ps.length + 1 ≤ SL) : dTupX [(false, f), (true, g)] env ih = .ok (.pu (.tup (p :: ps)), ih) := by
  have e : dArgX [(false, f), (true, g)] env ih = .ok ((p :: ps).map .pu, ih) := by
    rw [dArgX, e1]
    show (dArgX [(true, g)] env ih).bind _ = _
    rw [dArgX, e2]
    show R.ok (D.pu p :: (ps.map D.pu ++ []), ih) = _
    rw [List.append_nil]; rfl
  unfold dTupX; rw [e]
  show (match allPu ((p :: ps).map .pu) with | some ps => if ps.length ≤ SL then R.ok (D.pu (.tup ps), ih) else .stuck | none => .stuck) = _
  rw [allPu_pus]
  exact if_pos hl
theorem wy_fill (T : TOk t way) (x3 x4 x5 : Option D) : ∀ (rs : List Str) (kn : Str → Prop) (ih : IH) (wd : List (Key × D)) (x6 : Option D), ih[0]? = some (.dic wd) → WI t way wd → (∀ z, kn z → (lk wd (kS z)).isSome = true) → RdL t kn rs → wd.length + rs.length ≤ 15000 →
    ∃ wd' x6', dForL (gN 6) wyF [] (rs.map sP) [some (.pu (trP t)), some (.pu (paP t)), some (.ref 0), x3, x4, x5, x6] ih = .nx [some (.pu (trP t)), some (.pu (paP t)), some (.ref 0), x3, x4, x5, x6'] (ih.set 0 (.dic wd')) ∧ WI t way wd' ∧ (∀ z, (z ∈ rs ∨ (lk wd (kS z)).isSome = true) → (lk wd' (kS z)).isSome = true) ∧ wd'.length ≤ wd.length + rs.length
  | [], kn, ih, wd, x6, h0, wi, _, _, _ => ⟨wd, x6, by rw [set_self h0]; rfl, wi, fun z hz => by
      rcases hz with hz | hz
      · cases hz
      · exact hz, Nat.le_refl _⟩
  | a :: rs, kn, ih, wd, x6, h0, wi, hk, rd, hl => by
    obtain ⟨⟨f, hf, rfl, kp⟩, rd2⟩ := rd
    obtain ⟨v, hv⟩ := Option.isSome_iff_exists.mp (hk _ kp)
    obtain ⟨rfl, -⟩ := wi.val _ _ hv
    have hw := T.w1 f hf
    have hx : f.1 ∈ nms t := List.mem_map_of_mem hf
    have eb : wyF [some (.pu (trP t)), some (.pu (paP t)), some (.ref 0), x3, x4, x5, some (.pu (.str f.1))] ih = .nx [some (.pu (trP t)), some (.pu (paP t)), some (.ref 0), x3, x4, x5, some (.pu (.str f.1))] (ih.set 0 (.dic (putP wd (kS f.1) (.pu (wyP way f.1))))) := by
      refine (dSeq_at (dPut_at (v := .pu (wyP way f.1)) ?_ rfl rfl (put_cell h0 (sl100 (by omega))))).trans rfl
      have e := tupX_at (f := dVar 6) (g := dOp ixD (dVar 2) (dOp ixD (dVar 1) (dVar 6))) (env := [some (.pu (trP t)), some (.pu (paP t)), some (.ref 0), x3, x4, x5, some (.pu (.str f.1))]) (ih := ih) (p := .str f.1) rfl (dOp_at rfl (dOp_at rfl rfl (par_at T.nd hf _)) (ix_cell h0 hv)) (by rw [List.length_map]; have := T.len f.2.1; exact Nat.le_of_lt (sl100 (by omega)))
      rw [e]; unfold wyP; rw [hw]; rfl
    have h0' := fd_at (.dic (putP wd (kS f.1) (.pu (wyP way f.1)))) h0
    have hpl : (putP wd (kS f.1) (D.pu (wyP way f.1))).length ≤ wd.length + 1 := putP_len _ _ _
    rw [List.length_cons] at hl
    obtain ⟨wd', x6', e1, e2, e3, e4⟩ := wy_fill T x3 x4 x5 rs (fun z => kn z ∨ z = f.1) _ _ (some (.pu (.str f.1))) h0' (wi.put (.inr hx)) (fun z hz => by
      rw [lk_put]
      split
      · rfl
      · rename_i n
        rcases hz with hz | hz
        · exact hk z hz
        · exact absurd (by rw [hz]) n) rd2 (by omega)
    refine ⟨wd', x6', ?_, e2, fun z hz => e3 z ?_, by rw [List.length_cons]; omega⟩
    · rw [List.map_cons, dForL]
      show (match wyF [some (.pu (trP t)), some (.pu (paP t)), some (.ref 0), x3, x4, x5, some (.pu (.str f.1))] ih with
        | .nx env' ih' => dForL (gN 6) wyF [] (rs.map sP) (wipeE [] env') ih'
        | .ct env' ih' => dForL (gN 6) wyF [] (rs.map sP) (wipeE [] env') ih'
        | .bk env' ih' => .nx env' ih'
        | r => r) = _
      rw [eb]
      refine Eq.trans ?_ (e1.trans ?_)
      · rfl
      · rw [set_again]
    · rcases hz with hz | hz
      · rcases List.mem_cons.mp hz with e | hz
        · right; rw [lk_put, if_pos (by rw [e])]; rfl
        · exact .inl hz
      · right; rw [lk_put]; split
        · rfl
        · exact hz
def wyL : Ev → IH → RS := (dSeq (dSet 4 (dBox []))
    (dSeq (dSet 5 (dVar 3))
    (dSeq (dWhile wyC wyB [] 200)
    (dSeq (dFor (gN 6) (iAny (dRev (dVar 4))) wyF [])
    dNx))))
theorem rev_box {env : Ev} {ih : IH} {l : List P} {f : Ev → IH → R (D × IH)} (e : f env (ih ++ [.lst (l.map .pu)]) = .ok (.ref ih.length, ih ++ [.lst (l.map .pu)])) : iAny (dRev f) env (ih ++ [.lst (l.map .pu)]) = .ok (l.reverse, ih ++ [.lst (l.map .pu)]) := by
  have e2 : dRev f env (ih ++ [.lst (l.map .pu)]) = .ok (.pu (.lst l.reverse), ih ++ [.lst (l.map .pu)]) := by
    unfold dRev; rw [e]
    simp only [R.bind, at_last, frzL_pus]
  unfold iAny; rw [e2]; rfl
theorem pur_map : ∀ {wd : List (Key × D)}, (∀ kv ∈ wd, ∃ p, kv.2 = .pu p) → ∃ wp : List (Key × P), wd = wp.map fun a => (a.1, D.pu a.2)
  | [], _ => ⟨[], rfl⟩
  | (k, d) :: wd, h => by
    obtain ⟨p, e⟩ := h _ (.head _)
    obtain ⟨wp, e2⟩ := pur_map fun kv hkv => h kv (.tail _ hkv)
    exact ⟨(k, p) :: wp, by rw [List.map_cons, ← e2, ← e]⟩
theorem lk_pus : ∀ (wp : List (Key × P)) (k : Key), lk (wp.map fun a => (a.1, D.pu a.2)) k = (lk wp k).map D.pu
  | [], _ => rfl
  | (k', p) :: wp, k => by
    rw [List.map_cons, lk_cons, lk_cons, lk_pus wp k]
    split <;> rfl
/-- all the names -/
theorem wy_all (T : TOk t way) : ∀ (l : List Str) (k : Nat) (ih : IH) (wd : List (Key × D)) (x3 x4 x5 x6 : Option D), (∀ x ∈ l, x ∈ nms t) → k + l.length ≤ 100 → ih[0]? = some (.dic wd) → WI t way wd → wd.length ≤ 1 + 100 * k →
    ∃ ih' wd' y3 y4 y5 y6, dForL (gN 3) wyL [] (l.map sP) [some (.pu (trP t)), some (.pu (paP t)), some (.ref 0), x3, x4, x5, x6] ih = .nx [some (.pu (trP t)), some (.pu (paP t)), some (.ref 0), y3, y4, y5, y6] ih' ∧ ih'[0]? = some (.dic wd') ∧ WI t way wd' ∧ (∀ z, (z ∈ l ∨ (lk wd (kS z)).isSome = true) → (lk wd' (kS z)).isSome = true)
  | [], k, ih, wd, x3, x4, x5, x6, _, _, h0, wi, _ => ⟨ih, wd, x3, x4, x5, x6, rfl, h0, wi, fun z hz => by
      rcases hz with hz | hz
      · cases hz
      · exact hz⟩
  | x :: l, k, ih, wd, x3, x4, x5, x6, hm, hk, h0, wi, hl => by
    rw [List.length_cons] at hk
    obtain ⟨seg, y, e1, e2, e3, e4, e5⟩ := wy_while T h0 wi (some (.pu (.str x))) x6 100 200 x [] (T.len x) (by omega) (by simp) (.inr (hm x (.head _)))
    have h0' : (ih ++ [Cl.lst ((seg.map sP).map .pu)])[0]? = some (.dic wd) := (app_last (lt_of_at h0)).trans h0
    obtain ⟨wd', y6, f1, f2, f3, f4⟩ := wy_fill T (some (.pu (.str x))) (some (.ref ih.length)) (some (.pu (.str y))) seg.reverse _ _ _ x6 h0' wi (fun z hz => by rw [hz]; exact e3) e4 (by rw [List.length_reverse]; omega)
    have eb : wyL [some (.pu (trP t)), some (.pu (paP t)), some (.ref 0), some (.pu (.str x)), x4, x5, x6] ih = .nx [some (.pu (trP t)), some (.pu (paP t)), some (.ref 0), some (.pu (.str x)), some (.ref ih.length), some (.pu (.str y)), y6] ((ih ++ [Cl.lst ((seg.map sP).map .pu)]).set 0 (.dic wd')) := by
      refine (dSeq_at (dSet_at (d := .ref ih.length) (ih' := ih ++ [.lst []]) rfl)).trans ?_
      refine (dSeq_at (dSet_at rfl)).trans ?_
      refine (dSeq_at (env' := [some (.pu (trP t)), some (.pu (paP t)), some (.ref 0), some (.pu (.str x)), some (.ref ih.length), some (.pu (.str y)), x6]) (ih' := ih ++ [Cl.lst ((seg.map sP).map .pu)]) (Eq.trans e1 ?_)).trans ?_
      · rw [List.nil_append, List.map_map]; rfl
      · refine (dSeq_at ?_).trans rfl
        unfold dFor
        rw [rev_box (l := seg.map sP) rfl, ← List.map_reverse]
        exact f1
    have h1 := fd_at (Cl.dic wd') h0'
    obtain ⟨ih'', wd'', z3, z4, z5, z6, g1, g2, g3, g4⟩ := wy_all T l (k + 1) _ wd' (some (.pu (.str x))) (some (.ref ih.length)) (some (.pu (.str y))) y6 (fun z hz => hm z (.tail _ hz)) (by omega) h1 f2 (by rw [List.length_reverse] at f4; omega)
    refine ⟨ih'', wd'', z3, z4, z5, z6, ?_, g2, g3, fun z hz => g4 z ?_⟩
    · rw [List.map_cons, dForL]
      show (match wyL [some (.pu (trP t)), some (.pu (paP t)), some (.ref 0), some (.pu (.str x)), x4, x5, x6] ih with
        | .nx env' ih' => dForL (gN 3) wyL [] (l.map sP) (wipeE [] env') ih'
        | .ct env' ih' => dForL (gN 3) wyL [] (l.map sP) (wipeE [] env') ih'
        | .bk env' ih' => .nx env' ih'
        | r => r) = _
      rw [eb]; exact g1
    · rcases hz with hz | hz
      · rcases List.mem_cons.mp hz with e | hz
        · right
          refine f3 z ?_
          rcases e5 with ⟨_, z'⟩ | z'
          · right; rw [e, z']; exact e3
          · left; rw [e]; exact List.mem_reverse.mpr z'
        · exact .inl hz
      · exact .inr (f3 z (.inr hz))
/-- the table of ways: every spot's way is in it -/
theorem ways_at (T : TOk t way) : ∃ wd : List (Key × P), pf f_ways_by [.pu (trP t)] = some (.dic wd) ∧ ∀ x, spot t x → lk wd (kS x) = some (wyP way x) := by
  have wi0 : WI t way [(kS "", D.pu (.tup []))] := by
    refine ⟨fun x v e => ?_, ?_, fun kv hkv => ?_⟩
    · rw [lk_cons] at e
      split at e
      · rename_i z
        cases e
        have : ("" : Str) = x := Sum.inr.inj z
        rw [← this]
        exact ⟨by unfold wyP; rw [T.w0]; rfl, .inl rfl⟩
      · cases e
    · rw [lk_cons, if_pos rfl]; rfl
    · rw [List.mem_singleton.mp hkv]; exact ⟨_, rfl⟩
  obtain ⟨ih', wd', y3, y4, y5, y6, g1, g2, g3, g4⟩ := wy_all T (nms t) 0 [.dic [(kS "", D.pu (.tup []))]] _ none none none none (fun x hx => hx) (by unfold nms; rw [List.length_map]; have := T.lt; omega) rfl wi0 (by simp)
  obtain ⟨wp, rfl⟩ := pur_map g3.pur
  refine ⟨wp, ?_, fun x hx => ?_⟩
  · refine pf_at (φ := f_ways_by) (ih := ih'.set 0 .dead) (dFn_rt (b := b_ways_by) ?_)
    refine (dSeq_at (dSet_at (dCallP1 rfl (parents_at T.sl T.nd)))).trans ?_
    refine (dSeq_at (dSet_at (d := .ref 0) (ih' := [.dic [(kS "", D.pu (.tup []))]]) rfl)).trans ?_
    refine (dSeq_at (env' := [some (.pu (trP t)), some (.pu (paP t)), some (.ref 0), y3, y4, y5, y6]) (ih' := ih') ?_).trans ?_
    · have es : iAny (dCallP 1 f_names_in [] [(dVar 0)]) [some (.pu (trP t)), some (.pu (paP t)), some (.ref 0), none, none, none, none] [.dic [(kS "", D.pu (.tup []))]] = .ok ((nms t).map sP, [.dic [(kS "", D.pu (.tup []))]]) := by
        unfold iAny; rw [dCallP1 rfl (names_at T.sl)]; rfl
      unfold dFor
      refine Eq.trans (congrArg (fun r => bindS _ r _) es) ?_
      exact g1
    · refine dSeq_rt (dRet_at ?_)
      unfold dFz
      show (match frz 8 ih' (.ref 0) with | some (p, ih') => R.ok (D.pu p, ih') | none => .stuck) = _
      rw [frz_dic g2]
  · have h1 : (lk (wp.map fun a => (a.1, D.pu a.2)) (kS x)).isSome = true := by
      refine g4 x ?_
      rcases hx with e | hx
      · right; rw [e]; rfl
      · exact .inl hx
    obtain ⟨v, hv⟩ := Option.isSome_iff_exists.mp h1
    obtain ⟨rfl, -⟩ := g3.val _ _ hv
    rw [lk_pus] at hv
    obtain ⟨p, hp, e⟩ := Option.map_eq_some_iff.mp hv
    cases e
    exact hp
end
/-! ### uses_by, frees_by -/
section
variable {t : List Fo} {way : Str → List Str}
/-- what a folder uses, by names and counts -/
def use (way : Str → List Str) (l : List (Str × Int)) (x : Str) : Int := (l.map fun q => q.2 * ((way q.1).count x : Int)).sum
def usC (t : List Fo) (u : Str → Int) : Cl := .dic (t.map fun f => (kS f.1, D.pu (.int (u f.1))))
theorem nd_fo (nd : (nms t).Nodup) : (t.map fun f : Fo => kS f.1).Nodup := by
  have := nd_keys nd; unfold nms at this; rwa [List.map_map] at this
theorem us_lk (nd : (nms t).Nodup) {u : Str → Int} {x : Str} (hx : x ∈ nms t) : lk (t.map fun f => (kS f.1, D.pu (.int (u f.1)))) (kS x) = some (.pu (.int (u x))) := by
  obtain ⟨f, hf, rfl⟩ := mem_nms hx
  exact lk_map (k := fun f : Fo => kS f.1) (v := fun f : Fo => D.pu (.int (u f.1))) (nd_fo nd) hf
theorem us_put {u : Str → Int} {x : Str} {w : Int} (hx : x ∈ nms t) : putP (t.map fun f => (kS f.1, D.pu (.int (u f.1)))) (kS x) (.pu (.int w)) = t.map fun f => (kS f.1, D.pu (.int (if f.1 = x then w else u f.1))) := by
  obtain ⟨f, hf, rfl⟩ := mem_nms hx
  unfold putP
  rw [if_pos (List.any_eq_true.mpr ⟨(kS f.1, D.pu (.int (u f.1))), List.mem_map.mpr ⟨f, hf, rfl⟩, decide_eq_true rfl⟩), List.map_map]
  refine List.map_congr_left fun g hg => ?_
  show (if kS g.1 = kS f.1 then (kS g.1, D.pu (.int w)) else (kS g.1, D.pu (.int (u g.1)))) = _
  by_cases e : g.1 = f.1
  · rw [if_pos (by rw [e]), if_pos e]
  · have : kS g.1 ≠ kS f.1 := fun z => e (Sum.inr.inj z)
    rw [if_neg this, if_neg e]
def usF : Ev → IH → RS := (dSeq (dPut (dVar 3) (dVar 6) (dOp addD (dOp ixD (dVar 3) (dVar 6)) (dVar 5))) dNx)
theorem us_in (nd : (nms t).Nodup) (hl : t.length < SL) (e0 e1 e2 e4 : Option D) (n : Int) : ∀ (w : List Str) (u : Str → Int) (ih : IH) (x6 : Option D), (∀ y ∈ w, y ∈ nms t) → ih[0]? = some (usC t u) →
    ∃ x6', dForL (gN 6) usF [] (w.map sP) [e0, e1, e2, some (.ref 0), e4, some (.pu (.int n)), x6] ih = .nx [e0, e1, e2, some (.ref 0), e4, some (.pu (.int n)), x6'] (ih.set 0 (usC t fun x => u x + n * (w.count x : Int)))
  | [], u, ih, x6, _, h0 => ⟨x6, by
      have : (fun x => u x + n * (([] : List Str).count x : Int)) = u := by funext x; simp
      rw [this, set_self h0]; rfl⟩
  | y :: w, u, ih, x6, hw, h0 => by
    have hy := hw y (.head _)
    have eb : usF [e0, e1, e2, some (.ref 0), e4, some (.pu (.int n)), some (.pu (.str y))] ih = .nx [e0, e1, e2, some (.ref 0), e4, some (.pu (.int n)), some (.pu (.str y))] (ih.set 0 (usC t fun x => if x = y then u y + n else u x)) := by
      refine (dSeq_at (dPut_at (v := .pu (.int (u y + n))) (dOp_at (dOp_at rfl rfl (ix_cell h0 (us_lk nd hy))) rfl rfl) rfl rfl (put_cell h0 (by rw [List.length_map]; exact hl)))).trans ?_
      rw [us_put hy]; rfl
    have h1 := fd_at (usC t fun x => if x = y then u y + n else u x) h0
    obtain ⟨x6', e⟩ := us_in nd hl e0 e1 e2 e4 n w _ _ (some (.pu (.str y))) (fun z hz => hw z (.tail _ hz)) h1
    refine ⟨x6', ?_⟩
    rw [List.map_cons, dForL]
    show (match usF [e0, e1, e2, some (.ref 0), e4, some (.pu (.int n)), some (.pu (.str y))] ih with
        | .nx env' ih' => dForL (gN 6) usF [] (w.map sP) (wipeE [] env') ih'
        | .ct env' ih' => dForL (gN 6) usF [] (w.map sP) (wipeE [] env') ih'
        | .bk env' ih' => .nx env' ih'
        | r => r) = _
    rw [eb]
    refine Eq.trans e ?_
    rw [set_again]
    have : (fun x => (if x = y then u y + n else u x) + n * (w.count x : Int)) = fun x => u x + n * ((y :: w).count x : Int) := by
      funext x
      rw [List.count_cons]
      by_cases hx : x = y
      · subst hx
        simp only [if_true, beq_self_eq_true]
        rw [Int.natCast_add, Int.mul_add]; simp; omega
      · have : (y == x) = false := beq_eq_false_iff_ne.mpr (Ne.symm hx)
        rw [if_neg hx, this]; simp
    rw [this]
def usO : Ev → IH → RS := (dSeq (dFor (gN 6) (iAny (dOp ixD (dVar 2) (dVar 4))) usF []) dNx)
theorem us_out (T : TOk t way) {wd : List (Key × P)} (hw : ∀ x, spot t x → lk wd (kS x) = some (wyP way x)) (e0 e1 : Option D) : ∀ (l : List (Str × Int)) (u : Str → Int) (ih : IH) (x4 x5 x6 : Option D), (∀ q ∈ l, q.1 ∈ nms t) → ih[0]? = some (usC t u) →
    ∃ y4 y5 y6, dForL (gT [(gN 4), (gN 5)]) usO [] (l.map fun q => .tup [.str q.1, .int q.2]) [e0, e1, some (.pu (.dic wd)), some (.ref 0), x4, x5, x6] ih = .nx [e0, e1, some (.pu (.dic wd)), some (.ref 0), y4, y5, y6] (ih.set 0 (usC t fun x => u x + use way l x))
  | [], u, ih, x4, x5, x6, _, h0 => ⟨x4, x5, x6, by
      have : (fun x => u x + use way [] x) = u := by funext x; simp [use]
      rw [this, set_self h0]; rfl⟩
  | q :: l, u, ih, x4, x5, x6, hl, h0 => by
    have hq := hl q (.head _)
    obtain ⟨x6', e⟩ := us_in T.nd (Nat.lt_of_le_of_lt T.lt (by decide)) e0 e1 (some (.pu (.dic wd))) (some (.pu (.str q.1))) q.2 (way q.1) u ih x6 (fun y hy => T.sub q.1 hq y hy) h0
    have eb : usO [e0, e1, some (.pu (.dic wd)), some (.ref 0), some (.pu (.str q.1)), some (.pu (.int q.2)), x6] ih = .nx [e0, e1, some (.pu (.dic wd)), some (.ref 0), some (.pu (.str q.1)), some (.pu (.int q.2)), x6'] (ih.set 0 (usC t fun x => u x + q.2 * ((way q.1).count x : Int))) := by
      refine (dSeq_at ?_).trans rfl
      have es : iAny (dOp ixD (dVar 2) (dVar 4)) [e0, e1, some (.pu (.dic wd)), some (.ref 0), some (.pu (.str q.1)), some (.pu (.int q.2)), x6] ih = .ok ((way q.1).map sP, ih) := by
        unfold iAny; rw [dOp_at rfl rfl (ix_dic (hw q.1 (.inr hq)))]; rfl
      unfold dFor; rw [es]; exact e
    have h1 := fd_at (usC t fun x => u x + q.2 * ((way q.1).count x : Int)) h0
    obtain ⟨y4, y5, y6, e'⟩ := us_out T hw e0 e1 l _ _ (some (.pu (.str q.1))) (some (.pu (.int q.2))) x6' (fun z hz => hl z (.tail _ hz)) h1
    refine ⟨y4, y5, y6, ?_⟩
    rw [List.map_cons, dForL]
    show (match usO [e0, e1, some (.pu (.dic wd)), some (.ref 0), some (.pu (.str q.1)), some (.pu (.int q.2)), x6] ih with
        | .nx env' ih' => dForL (gT [(gN 4), (gN 5)]) usO [] (l.map fun q : Str × Int => P.tup [.str q.1, .int q.2]) (wipeE [] env') ih'
        | .ct env' ih' => dForL (gT [(gN 4), (gN 5)]) usO [] (l.map fun q : Str × Int => P.tup [.str q.1, .int q.2]) (wipeE [] env') ih'
        | .bk env' ih' => .nx env' ih'
        | r => r) = _
    rw [eb]
    refine Eq.trans e' ?_
    rw [set_again]
    have : (fun x => u x + q.2 * ((way q.1).count x : Int) + use way l x) = fun x => u x + use way (q :: l) x := by
      funext x; simp only [use, List.map_cons, List.sum_cons]; omega
    rw [this]
theorem pairsK_map : ∀ (l : List Str), pairsK (l.map fun x => .tup [.str x, .int 0]) = some (l.map fun x => (kS x, .int 0))
  | [] => rfl
  | x :: l => by rw [List.map_cons, pairsK, pairsK_map l]; rfl
theorem merge_nd {α : Type} : ∀ (l acc : List (Key × α)), (acc ++ l).map (·.1) |>.Nodup → mergeP l acc = acc ++ l
  | [], acc, _ => by simp [mergeP]
  | a :: l, acc, h => by
    have h1 : a.1 ∉ acc.map (·.1) := by
      rw [List.map_append, List.nodup_append] at h
      intro z
      exact (h.2.2 a.1 z a.1 (by simp)) rfl
    show mergeP l (putP acc a.1 a.2) = _
    rw [putP_new h1, merge_nd l (acc ++ [(a.1, a.2)]) (by simpa using h)]
    simp
theorem uses_at (T : TOk t way) {c : List Int} (hc : c.length = t.length) : pf f_uses_by [.pu (trP t), .pu (stP c)] = some (.dic (t.map fun f => (kS f.1, .int (use way ((nms t).zip c) f.1)))) := by
  obtain ⟨wd, ew, hw⟩ := ways_at T
  obtain ⟨y4, y5, y6, eo⟩ := us_out T hw (some (.pu (trP t))) (some (.pu (stP c))) ((nms t).zip c) (fun _ => 0) [usC t fun _ => 0] none none none (fun q hq => (List.of_mem_zip hq).1) rfl
  refine pf_at (φ := f_uses_by) (ih := [.dead]) (dFn_rt (b := b_uses_by) ?_)
  refine (dSeq_at (dSet_at (dCallP1 rfl ew))).trans ?_
  refine (dSeq_at (dSet_at (d := .ref 0) (ih' := [usC t fun _ => 0]) ?_)).trans ?_
  · have e1 : dLc false (gN 4) (iAny (dCallP 1 f_names_in [] [(dVar 0)])) none (dTup [(dVar 4), (dC (.int 0))]) [4] [some (.pu (trP t)), some (.pu (stP c)), some (.pu (.dic wd)), none, none, none, none] [] = .ok (.pu (.lst ((nms t).map fun x => .tup [.str x, .int 0])), []) := by
      refine lc_all (c := sP) (fun x => [some (.pu (trP t)), some (.pu (stP c)), some (.pu (.dic wd)), none, some (.pu (.str x)), none, none]) (fun x => .tup [.str x, .int 0]) ?_ (by unfold nms; rw [List.length_map]; exact T.sl) (fun _ _ => rfl) (fun _ _ => rfl)
      unfold iAny; rw [dCallP1 rfl (names_at T.sl)]; rfl
    refine dCall_at e1 ?_
    show (match pairsK ((nms t).map fun x => .tup [.str x, .int 0]) with | some ks => R.ok (D.ref 0, [Cl.dic ((mergeP ks []).map fun kv : Key × P => (kv.1, D.pu kv.2))]) | none => .stuck) = _
    rw [pairsK_map]
    show R.ok (D.ref 0, [Cl.dic ((mergeP ((nms t).map fun x => (kS x, P.int 0)) []).map fun kv : Key × P => (kv.1, D.pu kv.2))]) = _
    rw [merge_nd _ [] (by rw [List.nil_append, List.map_map]; exact nd_keys T.nd), List.nil_append, List.map_map]
    unfold usC nms; rw [List.map_map]; rfl
  refine (dSeq_at (env' := [some (.pu (trP t)), some (.pu (stP c)), some (.pu (.dic wd)), some (.ref 0), y4, y5, y6]) (ih' := [usC t fun x => 0 + use way ((nms t).zip c) x]) ?_).trans ?_
  · have es : iItm (dCallP 2 f_counts_by [] [(dVar 0), (dVar 1)]) [some (.pu (trP t)), some (.pu (stP c)), some (.pu (.dic wd)), some (.ref 0), none, none, none] [usC t fun _ => 0] = .ok (((nms t).zip c).map fun q => .tup [.str q.1, .int q.2], [usC t fun _ => 0]) := by
      unfold iItm; rw [dCallP2 rfl rfl (counts_at T.sl T.nd hc)]
      show R.ok (List.map (fun kv : Key × P => P.tup [kP kv.1, kv.2]) (((nms t).zip c).map fun q => (kS q.1, P.int q.2)), _) = _
      rw [List.map_map]; rfl
    unfold dFor
    refine Eq.trans (congrArg (fun r => bindS _ r _) es) ?_
    exact eo
  · refine dSeq_rt (dRet_at ?_)
    unfold dFz
    show (match frz 8 [usC t fun x => 0 + use way ((nms t).zip c) x] (.ref 0) with | some (p, ih') => R.ok (D.pu p, ih') | none => .stuck) = _
    have e2 : ([usC t fun x => 0 + use way ((nms t).zip c) x] : IH)[0]? = some (.dic ((t.map fun f => (kS f.1, P.int (use way ((nms t).zip c) f.1))).map fun a => (a.1, D.pu a.2))) := by
      simp only [usC, Int.zero_add, List.map_map]; rfl
    rw [frz_dic e2]; rfl
theorem frees_at (T : TOk t way) {c : List Int} (hc : c.length = t.length) : pf f_frees_by [.pu (trP t), .pu (stP c)] = some (.dic (t.map fun f => (kS f.1, .int (f.2.2 - use way ((nms t).zip c) f.1)))) := by
  refine pf_at (ih := [] ++ [.dead]) (φ := f_frees_by) (dFn_rt (b := b_frees_by) ?_)
  refine (dSeq_at (dSet_at (dCallP1 rfl (rooms_at T.sl T.nd)))).trans (dSeq_rt (dRet_at ?_))
  refine dcF_at (c := fun f : Fo => .tup [.str f.1, .int (use way ((nms t).zip c) f.1)]) (l := t) (fun f => [some (.pu (trP t)), some (.pu (stP c)), some (.pu (.dic (t.map fun f => (kS f.1, .int f.2.2)))), some (.pu (.str f.1)), some (.pu (.int (use way ((nms t).zip c) f.1)))]) (fun f => .str f.1) (fun f => kS f.1) (fun f => .int (f.2.2 - use way ((nms t).zip c) f.1)) ?_ T.sl (fun _ _ => rfl) (fun _ _ => rfl) (fun _ _ => rfl) (fun f hf => ?_) (nd_fo T.nd)
  · unfold iItm
    rw [dCallP2 rfl rfl (uses_at T hc)]
    show R.ok (List.map (fun kv : Key × P => P.tup [kP kv.1, kv.2]) (t.map fun f => (kS f.1, P.int (use way ((nms t).zip c) f.1))), _) = _
    rw [List.map_map]; rfl
  · exact dOp_at (dOp_at rfl rfl (ix_dic (lk_map (k := fun f : Fo => kS f.1) (v := fun f : Fo => P.int f.2.2) (nd_fo T.nd) hf))) rfl rfl
end
/-! ### tree_fault: none -/
structure TG (t : List Fo) (way : Str → List Str) : Prop extends TOk t way where
  nmg : ∀ x ∈ nms t, pf f_is_name [.pu (.str x)] = some (.bl true)
  sok : ∀ x ∈ nms t, PyData.strOk x = true
  room : ∀ f ∈ t, 0 ≤ f.2.2
  asc : (nms t).Pairwise fun a b => a.cps.toList < b.cps.toList
  ascP : (nms t).Pairwise fun a b => leP (.str a) (.str b) = true
  few : t.length ≤ 60
  wl : ∀ x ∈ nms t, (way x).length ≤ t.length
  non : t ≠ []
section
variable {t : List Fo} {way : Str → List Str}
theorem TOk.way_mem (T : TOk t way) {x : Str} (h : x ∈ nms t) : x ∈ way x := by
  obtain ⟨f, hf, rfl⟩ := mem_nms h
  rw [T.w1 f hf]; exact .head _
theorem TOk.selfne (T : TOk t way) {f : Fo} (hf : f ∈ t) : f.1 ≠ f.2.1 := fun e => by
  have h := T.ndw f.1 (List.mem_map_of_mem hf)
  rw [T.w1 f hf, List.nodup_cons] at h
  exact h.1 (by rw [← e]; exact T.way_mem (List.mem_map_of_mem hf))
theorem name_ne (T : TOk t way) {x : Str} (h : x ∈ nms t) : x ≠ "" := fun e => T.ne (by rw [← e]; exact h)
theorem ne_str {x y : Str} {ih : IH} : neD (.pu (.str x)) (.pu (.str y)) ih = .ok (.pu (.bl (!decide (x = y))), ih) := rfl
theorem eq_str {x y : Str} {ih : IH} : eqD (.pu (.str x)) (.pu (.str y)) ih = .ok (.pu (.bl (decide (x = y))), ih) := rfl
theorem lk_pa (T : TOk t way) {x : Str} (h : x ∈ nms t) : (lk (t.map fun f => (kS f.1, P.str f.2.1)) (kS x)).isSome = true := by
  obtain ⟨f, hf, rfl⟩ := mem_nms h
  rw [lk_map (k := fun f : Fo => kS f.1) (v := fun f : Fo => P.str f.2.1) (nd_fo T.nd) hf]; rfl
/-! the loop over enumerate(names): nothing is found -/
theorem enum_nx {hh : P → Ev → Option Ev} {body : Ev → IH → RS} (Inv : Nat → Ev → IH → Prop) (Good : Nat → P → Prop) (step : ∀ k p env ih, Good k p → Inv k env ih → ∃ env1, hh (.tup [.int (k : Nat), p]) env = some env1 ∧ ∃ env' ih', body env1 ih = .nx env' ih' ∧ Inv (k + 1) env' ih') :
    ∀ (l : List P) (k : Nat) (env : Ev) (ih : IH), (∀ (i : Nat) p, l[i]? = some p → Good (k + i) p) → Inv k env ih → ∃ env' ih', dForL hh body [] (enumP k l) env ih = .nx env' ih' ∧ Inv (k + l.length) env' ih'
  | [], k, env, ih, _, h => ⟨env, ih, rfl, h⟩
  | p :: l, k, env, ih, g, h => by
    obtain ⟨env1, e1, env2, ih2, e2, h2⟩ := step k p env ih (g 0 p rfl) h
    obtain ⟨env3, ih3, e3, h3⟩ := enum_nx Inv Good step l (k + 1) env2 ih2 (fun i q hq => by
      have := g (i + 1) q hq
      rwa [show k + (i + 1) = k + 1 + i by omega] at this) h2
    refine ⟨env3, ih3, ?_, by rw [List.length_cons, show k + (l.length + 1) = k + 1 + l.length by omega]; exact h3⟩
    show dForL hh body [] (.tup [.int (k : Nat), p] :: enumP (k + 1) l) env ih = _
    rw [dForL, e1]
    simp only [e2]
    exact e3
theorem get_mem {α : Type} {l : List α} {i : Nat} {a : α} (h : l[i]? = some a) : a ∈ l := List.mem_of_getElem? h
theorem unp_at (T : TOk t way) : pf f_first_unparented [.pu (trP t)] = some .non := by
  obtain ⟨env', ih', e, h⟩ := enum_nx (hh := gT [(gN 2), (gN 3)]) (body := (dSeq (dIfS (dAnd (dOp neD (dOp ixD (dVar 1) (dVar 3)) (dC (.str ""))) (dOp notInKD (dOp ixD (dVar 1) (dVar 3)) (dVar 1)))
      (dSeq (dRet (dVar 2))
      dNx)
      dNx)
      dNx)) (fun _ env ih => ∃ a b, env = [some (.pu (trP t)), some (.pu (paP t)), a, b] ∧ ih = []) (fun _ p => ∃ f ∈ t, p = .str f.1) (fun k p env ih ⟨f, hf, ep⟩ ⟨a, b, ee, ei⟩ => by
        subst ep ee ei
        refine ⟨_, rfl, _, _, ?_, ⟨some (.pu (.int k)), some (.pu (.str f.1)), rfl, rfl⟩⟩
        refine (dSeq_at (Eq.trans (dIfS_at (b := false) ?_) rfl)).trans rfl
        rw [dAnd_at (dOp_at (dOp_at rfl rfl (par_at T.nd hf _)) rfl ne_str)]
        by_cases hp : f.2.1 = ""
        · rw [decide_eq_true hp]; rfl
        · rw [decide_eq_false hp]
          show dOp _ _ _ _ _ = _
          rw [dOp_at (dOp_at rfl rfl (par_at T.nd hf _)) rfl notIn_dic]
          rw [lk_pa T ((T.par f hf).resolve_left hp)]; rfl) ((nms t).map sP) 0 [some (.pu (trP t)), some (.pu (paP t)), none, none] [] (fun i p hp => by
        obtain ⟨x, hx, rfl⟩ := List.mem_map.mp (get_mem hp)
        obtain ⟨f, hf, rfl⟩ := mem_nms hx
        exact ⟨f, hf, rfl⟩) ⟨none, none, rfl, rfl⟩
  obtain ⟨a, b, rfl, rfl⟩ := h
  refine pf_at (φ := f_first_unparented) (ih := []) (dFn_rt (b := b_first_unparented) ?_)
  refine (dSeq_at (dSet_at (dCallP1 rfl (parents_at T.sl T.nd)))).trans ?_
  refine (dSeq_at (env' := [some (.pu (trP t)), some (.pu (paP t)), a, b]) (ih' := []) ?_).trans (dSeq_rt (dRet_at rfl))
  have es : iEnu (dCallP 1 f_names_in [] [(dVar 0)]) [some (.pu (trP t)), some (.pu (paP t)), none, none] [] = .ok (enumP 0 ((nms t).map sP), []) := by
    unfold iEnu; rw [dArgs1 (dCallP1 rfl (names_at T.sl))]; rfl
  unfold dFor
  exact Eq.trans (congrArg (fun r => bindS _ r _) es) e
/-! first_ringed -/
def frC : Ev → IH → R (D × IH) := (dAnd (dOp notInKD (dVar 6) (dVar 2)) (dOp notInKD (dVar 6) (dVar 5)))
def frB : Ev → IH → RS := (dSeq (dPut (dVar 5) (dVar 6) (dC (.bl true))) (dSeq (dSet 6 (dOp ixD (dVar 1) (dVar 6))) dNx))
def trueD (l : List Str) : List (Key × D) := l.map fun z => (kS z, D.pu (.bl true))
theorem lk_true {l : List Str} {x : Str} : (lk (trueD l) (kS x)).isSome = decide (x ∈ l) := by
  induction l with
  | nil => simp [trueD, lk]
  | cons a l e =>
    show (lk ((kS a, D.pu (.bl true)) :: trueD l) (kS x)).isSome = _
    rw [lk_cons]
    by_cases h : a = x
    · subst h; rw [if_pos rfl]; simp
    · have h1 : kS a ≠ kS x := fun z => h (Sum.inr.inj z)
      rw [if_neg h1, e]
      simp [Ne.symm h]
theorem fr_while (T : TOk t way) {ih : IH} {ed : List (Key × D)} (h0 : ih[0]? = some (.dic ed)) (he : (lk ed (kS "")).isSome = true) (x3 x4 : Option D) : ∀ (m k : Nat) (x : Str) (l : List Str), (way x).length ≤ m → m < k → l.length + m ≤ 1000 → spot t x → (∀ z ∈ l, z ∉ way x) → l.Nodup →
    ∃ y l', dWhile frC frB [] k [some (.pu (trP t)), some (.pu (paP t)), some (.ref 0), x3, x4, some (.ref ih.length), some (.pu (.str x))] (ih ++ [Cl.dic (trueD l)]) = .nx [some (.pu (trP t)), some (.pu (paP t)), some (.ref 0), x3, x4, some (.ref ih.length), some (.pu (.str y))] (ih ++ [Cl.dic (trueD l')]) ∧ (lk ed (kS y)).isSome = true ∧ l'.length ≤ 1000
  | m, 0, x, l, _, h, _, _, _, _ => absurd h (Nat.not_lt_zero _)
  | m, k + 1, x, l, hm, hk, hl, hx, hd, hn => by
    have h0' : (ih ++ [Cl.dic (trueD l)])[0]? = some (.dic ed) := (app_last (lt_of_at h0)).trans h0
    have ec : frC [some (.pu (trP t)), some (.pu (paP t)), some (.ref 0), x3, x4, some (.ref ih.length), some (.pu (.str x))] (ih ++ [Cl.dic (trueD l)]) = .ok (.pu (.bl (!(lk ed (kS x)).isSome && !decide (x ∈ l))), ih ++ [Cl.dic (trueD l)]) := by
      unfold frC
      rw [dAnd_at (dOp_at rfl rfl (notIn_cell h0')), dOp_at rfl rfl (notIn_cell at_last), lk_true]
      cases (lk ed (kS x)).isSome <;> rfl
    rw [dWhile, ec]
    cases hs : (lk ed (kS x)).isSome with
    | true => exact ⟨x, l, by simp [bindS, truD, truP], hs, by omega⟩
    | false =>
      have hx' : x ∈ nms t := by
        rcases hx with e | hx
        · rw [e, he] at hs; cases hs
        · exact hx
      have hxl : x ∉ l := fun z => hd x z (T.way_mem hx')
      obtain ⟨f, hf, rfl⟩ := mem_nms hx'
      have hw := T.w1 f hf
      have hnw := T.ndw f.1 hx'
      rw [hw] at hnw hd
      rw [List.nodup_cons] at hnw
      rw [hw, List.length_cons] at hm
      have eb : frB [some (.pu (trP t)), some (.pu (paP t)), some (.ref 0), x3, x4, some (.ref ih.length), some (.pu (.str f.1))] (ih ++ [Cl.dic (trueD l)]) = .nx [some (.pu (trP t)), some (.pu (paP t)), some (.ref 0), x3, x4, some (.ref ih.length), some (.pu (.str f.2.1))] (ih ++ [Cl.dic (trueD (l ++ [f.1]))]) := by
        refine (dSeq_at (dPut_at (v := .pu (.bl true)) rfl rfl rfl (put_cell at_last (by unfold trueD; rw [List.length_map]; exact sl100 (by omega))))).trans ?_
        refine (dSeq_at (dSet_at (dOp_at rfl rfl (par_at T.nd hf _)))).trans ?_
        rw [set_last, putP_new (by
          unfold trueD; rw [List.map_map]
          intro z
          obtain ⟨w, hw, e⟩ := List.mem_map.mp z
          have : w = f.1 := Sum.inr.inj e
          rw [this] at hw; exact hxl hw)]
        unfold trueD; rw [List.map_append]; rfl
      obtain ⟨y, l', e1, e2, e3⟩ := fr_while T h0 he x3 x4 (m - 1) k f.2.1 (l ++ [f.1]) (by omega) (by omega) (by simp; omega) (T.par f hf) (fun z hz => by
        rcases List.mem_append.mp hz with hz | hz
        · exact fun q => hd z hz (.tail _ q)
        · rw [List.mem_singleton.mp hz]; exact hnw.1) (by
        rw [List.nodup_append]
        exact ⟨hn, by simp, fun a ha b hb e => hxl (by rw [List.mem_singleton.mp hb] at e; rw [← e]; exact ha)⟩)
      refine ⟨y, l', ?_, e2, e3⟩
      have : (!false && !decide (f.1 ∈ l)) = true := by simp [hxl]
      rw [this]
      show (match frB _ _ with | .nx env' ih' => dWhile frC frB [] k (wipeE [] env') ih' | .ct env' ih' => dWhile frC frB [] k (wipeE [] env') ih' | .bk env' ih' => .nx env' ih' | r => r) = _
      rw [eb]; exact e1
theorem merge_emp {x : Key} : ∀ (more ed : List (Key × D)), (lk ed x).isSome = true → (lk (mergeP more ed) x).isSome = true
  | [], _, h => h
  | a :: more, ed, h => merge_emp more (putP ed a.1 a.2) (by
      rw [lk_put]; split
      · rfl
      · exact h)
theorem merge_len {α : Type} : ∀ (more ed : List (Key × α)), (mergeP more ed).length ≤ ed.length + more.length
  | [], _ => Nat.le_refl _
  | a :: more, ed => by
    have h1 := merge_len more (putP ed a.1 a.2)
    have h2 := putP_len ed a.1 a.2
    show (mergeP more (putP ed a.1 a.2)).length ≤ _
    rw [List.length_cons]; omega
def frL : Ev → IH → RS := (dSeq (dSet 5 dNewK)
    (dSeq (dSet 6 (dVar 4))
    (dSeq (dWhile frC frB [] 200)
    (dSeq (dIfS (dOp notInKD (dVar 6) (dVar 2))
    (dSeq (dRet (dVar 3))
    dNx)
    dNx)
    (dSeq (dExpr (dMe isDk updD (dVar 2) [(dVar 5)]))
    dNx)))))
theorem ring_at (T : TOk t way) : pf f_first_ringed [.pu (trP t)] = some .non := by
  obtain ⟨env', ih', e, h⟩ := enum_nx (hh := gT [(gN 3), (gN 4)]) (body := frL) (fun k env ih => ∃ a b c d ed, env = [some (.pu (trP t)), some (.pu (paP t)), some (.ref 0), a, b, c, d] ∧ ih[0]? = some (.dic ed) ∧ (lk ed (kS "")).isSome = true ∧ ed.length ≤ 1 + 1000 * k) (fun k p => k < 100 ∧ ∃ f ∈ t, p = .str f.1) (fun k p env ih ⟨hk, f, hf, ep⟩ ⟨a, b, c, d, ed, ee, h0, he, hl⟩ => by
        subst ep ee
        refine ⟨_, rfl, ?_⟩
        obtain ⟨y, l', e1, e2, e3⟩ := fr_while T h0 he (some (.pu (.int k))) (some (.pu (.str f.1))) 100 200 f.1 [] (T.len _) (by omega) (by simp) (.inr (List.mem_map_of_mem hf)) (fun z hz => by cases hz) List.nodup_nil
        have h0' : (ih ++ [Cl.dic (trueD l')])[0]? = some (.dic ed) := (app_last (lt_of_at h0)).trans h0
        refine ⟨[some (.pu (trP t)), some (.pu (paP t)), some (.ref 0), some (.pu (.int k)), some (.pu (.str f.1)), some (.ref ih.length), some (.pu (.str y))], (ih ++ [Cl.dic (trueD l')]).set 0 (.dic (mergeP (trueD l') ed)), ?_, ⟨_, _, _, _, _, rfl, fd_at _ h0', merge_emp _ _ he, ?_⟩⟩
        · refine (dSeq_at (dSet_at (d := .ref ih.length) (ih' := ih ++ [.dic []]) rfl)).trans ?_
          refine (dSeq_at (dSet_at rfl)).trans ?_
          refine (dSeq_at e1).trans ?_
          refine (dSeq_at (Eq.trans (dIfS_at (b := false) ?_) rfl)).trans ?_
          · rw [dOp_at rfl rfl (notIn_cell h0'), e2]; rfl
          · refine (dSeq_at (dExpr_at (d := .pu .non) (ih' := (ih ++ [Cl.dic (trueD l')]).set 0 (.dic (mergeP (trueD l') ed))) ?_)).trans rfl
            have ek : isDk (.ref 0) (ih ++ [Cl.dic (trueD l')]) = true := by unfold isDk; simp only [h0']
            show (if isDk (.ref 0) (ih ++ [Cl.dic (trueD l')]) = true then updD (.ref 0) [.ref ih.length] (ih ++ [Cl.dic (trueD l')]) else .stuck) = _
            rw [if_pos ek]
            unfold updD dkOf; simp only [h0', at_last]
            refine if_pos ?_
            have hp : 0 < ih.length := lt_of_at h0
            have e4 : notRef 0 (.ref ih.length) = true := by
              show (!(ih.length == 0)) = true
              have : (ih.length == 0) = false := beq_eq_false_iff_ne.mpr (by omega)
              rw [this]; rfl
            rw [e4, Bool.true_and]
            refine decide_eq_true (Nat.le_of_lt (Nat.lt_of_le_of_lt (m := 200000) ?_ (by decide)))
            unfold trueD; rw [List.length_map]; omega
        · have := merge_len (trueD l') ed
          have e5 : (trueD l').length = l'.length := by unfold trueD; rw [List.length_map]
          omega) ((nms t).map sP) 0 [some (.pu (trP t)), some (.pu (paP t)), some (.ref 0), none, none, none, none] [.dic [(kS "", D.pu (.bl true))]] (fun i p hp => by
        obtain ⟨x, hx, rfl⟩ := List.mem_map.mp (get_mem hp)
        obtain ⟨f, hf, rfl⟩ := mem_nms hx
        have := (List.getElem?_eq_some_iff.mp hp).1
        rw [List.length_map] at this
        unfold nms at this
        rw [List.length_map] at this
        have := T.lt
        exact ⟨by omega, f, hf, rfl⟩) ⟨none, none, none, none, _, rfl, rfl, rfl, by simp⟩
  obtain ⟨a, b, c, d, ed, rfl, h0, -, -⟩ := h
  refine pf_at (φ := f_first_ringed) (ih := ih') (dFn_rt (b := b_first_ringed) ?_)
  refine (dSeq_at (dSet_at (dCallP1 rfl (parents_at T.sl T.nd)))).trans ?_
  refine (dSeq_at (dSet_at (d := .ref 0) (ih' := [.dic [(kS "", D.pu (.bl true))]]) rfl)).trans ?_
  refine (dSeq_at (env' := [some (.pu (trP t)), some (.pu (paP t)), some (.ref 0), a, b, c, d]) (ih' := ih') ?_).trans (dSeq_rt (dRet_at rfl))
  have es : iEnu (dCallP 1 f_names_in [] [(dVar 0)]) [some (.pu (trP t)), some (.pu (paP t)), some (.ref 0), none, none, none, none] [.dic [(kS "", D.pu (.bl true))]] = .ok (enumP 0 ((nms t).map sP), [.dic [(kS "", D.pu (.bl true))]]) := by
    unfold iEnu; rw [dArgs1 (dCallP1 rfl (names_at T.sl))]; rfl
  unfold dFor
  exact Eq.trans (congrArg (fun r => bindS _ r _) es) e
end
section
variable {t : List Fo} {way : Str → List Str}
theorem atI_nat {α : Type} {xs : List α} {k : Nat} {a : α} (h : xs[k]? = some a) : atI xs (k : Int) = some a := by
  have hk := (List.getElem?_eq_some_iff.mp h).1
  unfold atI ixN
  rw [if_pos (by omega), if_pos (by omega)]
  show xs[(k : Int).toNat]? = _
  rw [Int.toNat_natCast]; exact h
theorem ix_tup {xs : List P} {k : Nat} {p : P} {ih : IH} (h : xs[k]? = some p) : ixD (.pu (.tup xs)) (.pu (.int (k : Int))) ih = .ok (.pu p, ih) := by
  show (match atI xs (k : Int) with | some p => R.ok (D.pu p, ih) | none => .stuck) = _
  rw [atI_nat h]
theorem ix_lst {xs : List P} {k : Nat} {p : P} {ih : IH} (h : xs[k]? = some p) : ixD (.pu (.lst xs)) (.pu (.int (k : Int))) ih = .ok (.pu p, ih) := by
  show (match atI xs (k : Int) with | some p => R.ok (D.pu p, ih) | none => .stuck) = _
  rw [atI_nat h]
theorem integer_at (i : Int) : pf f_is_integer [.pu (.int i)] = some (.bl true) := rfl
theorem number_at {i : Int} (h : 0 ≤ i) : pf f_is_number [.pu (.int i)] = some (.bl true) := by
  refine pf_at (φ := f_is_number) (ih := []) (dFn_rt (b := b_is_number) (dSeq_rt (dRet_at ?_)))
  rw [dAnd_at (dCallP1 (f := dVar 0) rfl (integer_at i))]
  show R.ok (D.pu (.bl (decide (0 ≤ i))), []) = _
  rw [decide_eq_true h]
theorem spot_name {x : Str} (h : pf f_is_name [.pu (.str x)] = some (.bl true)) : pf f_is_spot [.pu (.str x)] = some (.bl true) := by
  refine pf_at (φ := f_is_spot) (ih := []) (dFn_rt (b := b_is_spot) (dSeq_rt (dRet_at ?_)))
  rw [dOr_at (dCallP1 (f := dVar 0) rfl h)]; rfl
theorem spot_emp : pf f_is_spot [.pu (.str "")] = some (.bl true) := by kernel_rfl
theorem spot_at (T : TG t way) {x : Str} (h : spot t x) : pf f_is_spot [.pu (.str x)] = some (.bl true) := by
  rcases h with e | h
  · rw [e]; exact spot_emp
  · exact spot_name (T.nmg x h)
theorem triple_at (a b c : P) : pf f_is_triple [.pu (.tup [a, b, c])] = some (.bl true) := rfl
theorem pair_at (a b : P) : pf f_is_pair [.pu (.tup [a, b])] = some (.bl true) := rfl
theorem folder_at (T : TG t way) {f : Fo} (hf : f ∈ t) : pf f_is_folder [.pu (foP f)] = some (.bl true) := by
  have hx : f.1 ∈ nms t := List.mem_map_of_mem hf
  refine pf_at (φ := f_is_folder) (ih := []) (dFn_rt (b := b_is_folder) ?_)
  refine (dSeq_at (Eq.trans (dIfS_at (b := false) ?_) rfl)).trans (dSeq_rt (dRet_at ?_))
  · rw [dOr_at (dNot_at (dCallP1 (f := dVar 0) rfl (triple_at _ _ _)))]
    show dOr _ _ _ _ = _
    rw [dOr_at (dNot_at (dCallP1 (f := dOp ixD (dVar 0) (dC (.int 0))) (p := .str f.1) rfl (T.nmg f.1 hx)))]
    show dNot _ _ _ = _
    exact dNot_at (dCallP1 (f := dOp ixD (dVar 0) (dC (.int 1))) (p := .str f.2.1) rfl (spot_at T (T.par f hf)))
  · rw [dAnd_at (dOp_at (f := dOp ixD (dVar 0) (dC (.int 0))) (h := dOp ixD (dVar 0) (dC (.int 1))) (d1 := .pu (.str f.1)) (d2 := .pu (.str f.2.1)) rfl rfl ne_str), decide_eq_false (T.selfne hf)]
    exact dCallP1 (f := dOp ixD (dVar 0) (dC (.int 2))) (p := .int f.2.2) rfl (number_at (T.room f hf))
theorem gt_nat {k : Nat} {ih : IH} : gtD (.pu (.int (k : Int))) (.pu (.int 0)) ih = .ok (.pu (.bl (decide (0 < k))), ih) := by
  show R.ok (D.pu (.bl (decide ((0 : Int) < (k : Int)))), ih) = _
  congr 4
  simp
theorem tree_none (T : TG t way) : pf f_tree_fault [.pu (trP t)] = some .non := by
  obtain ⟨env', ih', e, h⟩ := enum_nx (hh := gT [(gN 1), (gN 2)]) (body := (dSeq (dIfS (dOr (dNot (dCallP 1 f_is_folder [] [(dVar 2)])) (dAnd (dOp gtD (dVar 1) (dC (.int 0))) (dOp leD (dOp ixD (dVar 2) (dC (.int 0))) (dOp ixD (dOp ixD (dVar 0) (dOp subD (dVar 1) (dC (.int 1)))) (dC (.int 0))))))
      (dSeq (dRet (dTup [(dC (.str "folder")), (dVar 1)]))
      dNx)
      dNx)
      dNx)) (fun _ env ih => ∃ a b, env = [some (.pu (trP t)), a, b] ∧ ih = []) (fun k p => ∃ f, t[k]? = some f ∧ p = foP f) (fun k p env ih ⟨f, hk, ep⟩ ⟨a, b, ee, ei⟩ => by
        subst ep ee ei
        refine ⟨_, rfl, _, _, ?_, ⟨some (.pu (.int k)), some (.pu (foP f)), rfl, rfl⟩⟩
        refine (dSeq_at (Eq.trans (dIfS_at (b := false) ?_) rfl)).trans rfl
        rw [dOr_at (dNot_at (dCallP1 (f := dVar 2) rfl (folder_at T (get_mem hk))))]
        show dAnd _ _ _ _ = _
        rw [dAnd_at (dOp_at rfl rfl gt_nat)]
        cases k with
        | zero => rfl
        | succ k =>
          have hk2 := (List.getElem?_eq_some_iff.mp hk).1
          have hp : t[k]? = some (t[k]'(by omega)) := List.getElem?_eq_getElem (by omega)
          have ef : f = t[k + 1]'hk2 := ((List.getElem?_eq_some_iff.mp hk).2).symm
          have asc : (t[k]'(by omega)).1.cps.toList < f.1.cps.toList := by
            have := (List.pairwise_iff_getElem.mp T.asc) k (k + 1) (by unfold nms; rw [List.length_map]; omega) (by unfold nms; rw [List.length_map]; omega) (by omega)
            unfold nms at this
            rw [List.getElem_map, List.getElem_map] at this
            rw [ef]; exact this
          show dOp _ _ _ _ _ = _
          have e1 : dOp ixD (dOp ixD (dVar 0) (dOp subD (dVar 1) (dC (.int 1)))) (dC (.int 0)) [some (.pu (trP t)), some (.pu (.int ((k + 1 : Nat) : Int))), some (.pu (foP f))] [] = .ok (.pu (.str (t[k]'(by omega)).1), []) := by
            refine dOp_at (d1 := .pu (foP (t[k]'(by omega)))) (dOp_at rfl (dOp_at rfl rfl rfl) ?_) rfl rfl
            show ixD (.pu (.tup (t.map foP))) (.pu (.int (((k + 1 : Nat) : Int) - 1))) [] = _
            rw [show ((k + 1 : Nat) : Int) - 1 = (k : Int) by omega]
            exact ix_tup (by rw [List.getElem?_map, hp]; rfl)
          refine dOp_at (d1 := .pu (.str f.1)) rfl e1 ?_
          show R.ok (D.pu (.bl (!decide ((t[k]'(by omega)).1.cps.toList < f.1.cps.toList))), []) = _
          rw [decide_eq_true asc]; rfl) (t.map foP) 0 [some (.pu (trP t)), none, none] [] (fun i p hp => by
        rw [List.getElem?_map] at hp
        obtain ⟨f, hf, rfl⟩ := Option.map_eq_some_iff.mp hp
        rw [Nat.zero_add]
        exact ⟨f, hf, rfl⟩) ⟨none, none, rfl, rfl⟩
  obtain ⟨a, b, rfl, rfl⟩ := h
  refine pf_at (φ := f_tree_fault) (ih := []) (dFn_rt (b := b_tree_fault) ?_)
  refine (dSeq_at (Eq.trans (dIfS_at (b := false) ?_) rfl)).trans ?_
  · rw [dOr_at (dNot_at (b := true) rfl)]
    show dOp _ _ _ _ _ = _
    refine dOp_at (d1 := .pu (.int ((t.map foP).length : Int))) rfl rfl ?_
    show R.ok (D.pu (.bl ((((t.map foP).length : Nat) : Int) == 0)), []) = _
    have : ((((t.map foP).length : Nat) : Int) == 0) = false := by
      rw [List.length_map]
      have : t.length ≠ 0 := fun z => T.non (List.eq_nil_of_length_eq_zero z)
      exact beq_eq_false_iff_ne.mpr (by omega)
    rw [this]
  refine (dSeq_at (env' := [some (.pu (trP t)), a, b]) (ih' := []) e).trans ?_
  refine (dSeq_at (dSet_at (dCallP1 (f := dVar 0) rfl (unp_at T.toTOk)))).trans ?_
  refine (dSeq_at (Eq.trans (dIfS_at (b := false) rfl) rfl)).trans ?_
  refine (dSeq_at (dSet_at (dCallP1 (f := dVar 0) rfl (ring_at T.toTOk)))).trans ?_
  exact dSeq_rt (dRet_at rfl)
theorem want_ok (w : Str) (a : P) : pf f_want [.pu (.bl true), .pu (.str w), .pu a] = some .non := rfl
theorem want_call {env : Ev} {ih : IH} {f g : Ev → IH → R (D × IH)} {w : Str} (e1 : f env ih = .ok (.pu (.bl true), ih)) (e2 : g env ih = .ok (.pu (.str w), ih)) : dCallP 3 f_want [.pu (.int (-1))] [f, g] env ih = .ok (.pu .non, ih) := by
  unfold dCallP; rw [dArgs2 e1 e2]
  show (match pf f_want [.pu (.bl true), .pu (.str w), .pu (.int (-1))] with | some p => R.ok (D.pu p, ih) | none => .stuck) = _
  rw [want_ok]
theorem want_tree_at (T : TG t way) : pf f_want_tree [.pu (trP t)] = some .non := by
  refine pf_at (φ := f_want_tree) (ih := []) (dFn_nx (b := b_want_tree) ((dSeq_at (dExpr_at (want_call (dOp_at (dCallP1 rfl (tree_none T)) rfl rfl) rfl))).trans rfl))
end
/-! ### stands and lots: no fault -/
def mvP (m : Str × Str) : P := .tup [.str m.1, .str m.2]
def loP (l : List (Str × Str)) : P := .tup (l.map mvP)
structure SOk (t : List Fo) (way : Str → List Str) (c : List Int) : Prop where
  len : c.length = t.length
  pos : ∀ n ∈ c, 0 ≤ n
  fit : ∀ f ∈ t, use way ((nms t).zip c) f.1 ≤ f.2.2
structure LOk (t : List Fo) (c : List Int) (l : List (Str × Str)) : Prop where
  src : ∀ m ∈ l, spot t m.1
  tgt : ∀ m ∈ l, spot t m.2
  ne : ∀ m ∈ l, m.1 ≠ m.2
  asc : l.Pairwise fun a b => leP (mvP a) (mvP b) = true
  cnt : ∀ q ∈ (nms t).zip c, ((l.countP fun m => m.1 == q.1 : Nat) : Int) ≤ q.2
  lt : l.length ≤ 100
section
variable {t : List Fo} {way : Str → List Str} {c : List Int} {l : List (Str × Str)}
theorem lc_none {α : Type} {env : Ev} {ih : IH} {hh : P → Ev → Option Ev} {src : Ev → IH → R (List P × IH)} {tt e : Ev → IH → R (D × IH)} {vs : List Nat} {cc : α → P} {ll : List α} (E : α → Ev) (hs : src env ih = .ok (ll.map cc, ih)) (hl : ll.length ≤ SL) (h1 : ∀ a ∈ ll, hh (cc a) (wipeE vs env) = some (E a)) (h2 : ∀ a ∈ ll, tt (E a) ih = .ok (.pu (.bl false), ih)) :
    dLc false hh src (some tt) e vs env ih = .ok (.pu (.lst []), ih) := by
  have r := lc_at (t := some tt) (e := e) E (fun _ => false) (fun _ => P.non) hs hl h1 (fun a ha => tests_at (h2 a ha)) (fun a ha z => by cases z)
  rw [r, List.filter_eq_nil_iff.mpr (fun _ _ z => by cases z)]; rfl
theorem eq_ints {a b : Int} {ih : IH} : eqD (.pu (.int a)) (.pu (.int b)) ih = .ok (.pu (.bl (a == b)), ih) := rfl
theorem ne_ints {a b : Int} {ih : IH} : neD (.pu (.int a)) (.pu (.int b)) ih = .ok (.pu (.bl (!(a == b))), ih) := rfl
theorem fr_lk (T : TOk t way) {v : Fo → P} {x : Str} (hx : x ∈ nms t) : ∃ f ∈ t, f.1 = x ∧ lk (t.map fun f => (kS f.1, v f)) (kS x) = some (v f) := by
  obtain ⟨f, hf, rfl⟩ := mem_nms hx
  exact ⟨f, hf, rfl, lk_map (k := fun f : Fo => kS f.1) (v := v) (nd_fo T.nd) hf⟩
theorem nms_len : (nms t).length = t.length := by unfold nms; rw [List.length_map]
theorem stand_none (T : TG t way) (S : SOk t way c) : pf f_stand_fault [.pu (trP t), .pu (stP c)] = some .non := by
  obtain ⟨env', ih', e, h⟩ := enum_nx (hh := gT [(gN 4), (gN 5)]) (body := (dSeq (dIfS (dNot (dCallP 1 f_is_number [] [(dVar 5)]))
      (dSeq (dRet (dTup [(dC (.str "count")), (dVar 4)]))
      dNx)
      dNx)
      dNx)) (fun _ env ih => ∃ a b, env = [some (.pu (trP t)), some (.pu (stP c)), none, none, a, b, none] ∧ ih = []) (fun k p => ∃ n : Int, 0 ≤ n ∧ p = .int n) (fun k p env ih ⟨n, hn, ep⟩ ⟨a, b, ee, ei⟩ => by
        subst ep ee ei
        refine ⟨_, rfl, _, _, ?_, ⟨some (.pu (.int k)), some (.pu (.int n)), rfl, rfl⟩⟩
        exact (dSeq_at (Eq.trans (dIfS_at (b := false) (dNot_at (dCallP1 (f := dVar 5) rfl (number_at hn)))) rfl)).trans rfl) (c.map .int) 0 [some (.pu (trP t)), some (.pu (stP c)), none, none, none, none, none] [] (fun i p hp => by
        obtain ⟨n, hn, rfl⟩ := List.mem_map.mp (get_mem hp)
        exact ⟨n, S.pos n hn, rfl⟩) ⟨none, none, rfl, rfl⟩
  obtain ⟨a, b, rfl, rfl⟩ := h
  refine pf_at (φ := f_stand_fault) (ih := []) (dFn_rt (b := b_stand_fault) ?_)
  refine (dSeq_at (Eq.trans (dIfS_at (b := false) ?_) rfl)).trans ?_
  · rw [dOr_at (dNot_at (b := true) rfl)]
    show dOp _ _ _ _ _ = _
    refine dOp_at (d1 := .pu (.int ((c.map P.int).length : Int))) (d2 := .pu (.int ((t.map foP).length : Int))) rfl rfl ?_
    rw [ne_ints, List.length_map, List.length_map, S.len]; simp
  refine (dSeq_at (env' := [some (.pu (trP t)), some (.pu (stP c)), none, none, a, b, none]) (ih' := []) e).trans ?_
  refine (dSeq_at (dSet_at (dCallP2 rfl rfl (frees_at T.toTOk S.len)))).trans ?_
  refine (dSeq_at (dSet_at (d := .pu (.lst [])) (ih' := []) ?_)).trans (dSeq_rt (dRet_at rfl))
  refine lc_none (cc := sP) (ll := nms t) (fun x => [some (.pu (trP t)), some (.pu (stP c)), some (.pu (.dic (t.map fun f => (kS f.1, .int (f.2.2 - use way ((nms t).zip c) f.1))))), none, a, b, some (.pu (.str x))]) ?_ (by rw [nms_len]; exact T.sl) (fun _ _ => rfl) (fun x hx => ?_)
  · unfold iAny; rw [dCallP1 rfl (names_at T.sl)]; rfl
  · obtain ⟨f, hf, rfl, e1⟩ := fr_lk T.toTOk (v := fun f => P.int (f.2.2 - use way ((nms t).zip c) f.1)) hx
    rw [dOp_at (dOp_at rfl rfl (ix_dic e1)) rfl rfl]
    show R.ok (D.pu (.bl (decide (f.2.2 - use way ((nms t).zip c) f.1 < 0))), []) = _
    have := S.fit f hf
    rw [decide_eq_false (by omega)]
theorem move_at (T : TG t way) {m : Str × Str} (h1 : spot t m.1) (h2 : spot t m.2) (h3 : m.1 ≠ m.2) : pf f_is_move [.pu (mvP m)] = some (.bl true) := by
  refine pf_at (φ := f_is_move) (ih := []) (dFn_rt (b := b_is_move) (dSeq_rt (dRet_at ?_)))
  rw [dAnd_at (dCallP1 (f := dVar 0) rfl (pair_at _ _))]
  show dAnd _ _ _ _ = _
  rw [dAnd_at (dCallP1 (f := dOp ixD (dVar 0) (dC (.int 0))) (p := .str m.1) rfl (spot_at T h1))]
  show dAnd _ _ _ _ = _
  rw [dAnd_at (dCallP1 (f := dOp ixD (dVar 0) (dC (.int 1))) (p := .str m.2) rfl (spot_at T h2))]
  show dOp _ _ _ _ _ = _
  rw [dOp_at (d1 := .pu (.str m.1)) (d2 := .pu (.str m.2)) rfl rfl ne_str, decide_eq_false h3]; rfl
theorem move_of_at (T : TG t way) {m : Str × Str} (h1 : spot t m.1) (h2 : spot t m.2) (h3 : m.1 ≠ m.2) : pf f_is_move_of [.pu (trP t), .pu (mvP m)] = some (.bl true) := by
  refine pf_at (φ := f_is_move_of) (ih := []) (dFn_rt (b := b_is_move_of) ?_)
  refine (dSeq_at (Eq.trans (dIfS_at (b := false) (dNot_at (dCallP1 (f := dVar 1) rfl (move_at T h1 h2 h3)))) rfl)).trans ?_
  refine (dSeq_at (dSet_at (dCallP1 rfl (parents_at T.sl T.nd)))).trans (dSeq_rt (dRet_at ?_))
  have e : dLc false (gN 3) (iAny (dVar 1)) none (dOr (dOp eqD (dVar 3) (dC (.str ""))) (dOp inKD (dVar 3) (dVar 2))) [3] [some (.pu (trP t)), some (.pu (mvP m)), some (.pu (paP t)), none] [] = .ok (.pu (.lst ([m.1, m.2].map fun _ => .bl true)), []) := by
    refine lc_all (c := sP) (l := [m.1, m.2]) (fun x => [some (.pu (trP t)), some (.pu (mvP m)), some (.pu (paP t)), some (.pu (.str x))]) (fun _ => .bl true) rfl (Nat.le_of_lt (sl100 (by simp))) (fun _ _ => rfl) (fun x hx => ?_)
    have hs : spot t x := by
      rcases List.mem_cons.mp hx with e | hx
      · rw [e]; exact h1
      · rw [List.mem_singleton.mp hx]; exact h2
    rw [dOr_at (dOp_at (d1 := .pu (.str x)) rfl rfl eq_str)]
    rcases hs with e | hx
    · rw [decide_eq_true e]; rfl
    · rw [decide_eq_false (name_ne T.toTOk hx)]
      show dOp _ _ _ _ _ = _
      rw [dOp_at (d1 := .pu (.str x)) rfl rfl in_dic, lk_pa T.toTOk hx]
  exact dCall_at e rfl
theorem sok_spot (T : TG t way) {x : Str} (h : spot t x) : PyData.strOk x = true := by
  rcases h with e | h
  · rw [e]; decide +kernel
  · exact T.sok x h
theorem shp_mv (T : TG t way) {m : Str × Str} (h1 : spot t m.1) (h2 : spot t m.2) : shp (mvP m) = true := by
  show (((PyData.strOk m.1) && ((PyData.strOk m.2) && true)) && decide _) = true
  rw [sok_spot T h1, sok_spot T h2]; rfl
theorem lt_mv (T : TG t way) {a b : Str × Str} {ih : IH} (a1 : spot t a.1) (a2 : spot t a.2) (b1 : spot t b.1) (b2 : spot t b.2) : ltD (.pu (mvP a)) (.pu (mvP b)) ih = .ok (.pu (.bl (!leP (mvP b) (mvP a))), ih) := by
  show (if (PySem.W.alike (pd (mvP a)) (pd (mvP b)) && (shp (mvP a) && shp (mvP b))) = true then R.ok (D.pu (.bl (PySem.W.dataLt (pd (mvP a)) (pd (mvP b)))), ih) else .stuck) = _
  have al : PySem.W.alike (pd (mvP a)) (pd (mvP b)) = true := by
    first | rfl | (unfold mvP pd pds pd pds; simp [PySem.W.alike])
  rw [shp_mv T a1 a2, shp_mv T b1 b2, al]
  refine Eq.trans (if_pos (by rfl)) ?_
  unfold leP; rw [Bool.not_not]
theorem moves_none (T : TG t way) (L : LOk t c l) : pf f_moves_fault [.pu (trP t), .pu (loP l)] = some .non := by
  obtain ⟨env', ih', e, h⟩ := enum_nx (hh := gT [(gN 2), (gN 3)]) (body := (dSeq (dIfS (dOr (dNot (dCallP 2 f_is_move_of [] [(dVar 0), (dVar 3)])) (dAnd (dOp gtD (dVar 2) (dC (.int 0))) (dOp ltD (dVar 3) (dOp ixD (dVar 1) (dOp subD (dVar 2) (dC (.int 1)))))))
      (dSeq (dRet (dTup [(dC (.str "move")), (dVar 2)]))
      dNx)
      dNx)
      dNx)) (fun _ env ih => ∃ a b, env = [some (.pu (trP t)), some (.pu (loP l)), a, b] ∧ ih = []) (fun k p => ∃ m, l[k]? = some m ∧ p = mvP m) (fun k p env ih ⟨m, hk, ep⟩ ⟨a, b, ee, ei⟩ => by
        subst ep ee ei
        have hm := get_mem hk
        refine ⟨_, rfl, _, _, ?_, ⟨some (.pu (.int k)), some (.pu (mvP m)), rfl, rfl⟩⟩
        refine (dSeq_at (Eq.trans (dIfS_at (b := false) ?_) rfl)).trans rfl
        rw [dOr_at (dNot_at (dCallP2 (f1 := dVar 0) (f2 := dVar 3) rfl rfl (move_of_at T (L.src m hm) (L.tgt m hm) (L.ne m hm))))]
        show dAnd _ _ _ _ = _
        rw [dAnd_at (dOp_at rfl rfl gt_nat)]
        cases k with
        | zero => rfl
        | succ k =>
          have hk2 := (List.getElem?_eq_some_iff.mp hk).1
          have hp : l[k]? = some (l[k]'(by omega)) := List.getElem?_eq_getElem (by omega)
          have hpm := get_mem hp
          have ef : m = l[k + 1]'hk2 := ((List.getElem?_eq_some_iff.mp hk).2).symm
          have asc : leP (mvP (l[k]'(by omega))) (mvP m) = true := by
            have := (List.pairwise_iff_getElem.mp L.asc) k (k + 1) (by omega) hk2 (by omega)
            rw [ef]; exact this
          show dOp _ _ _ _ _ = _
          have e1 : dOp ixD (dVar 1) (dOp subD (dVar 2) (dC (.int 1))) [some (.pu (trP t)), some (.pu (loP l)), some (.pu (.int ((k + 1 : Nat) : Int))), some (.pu (mvP m))] [] = .ok (.pu (mvP (l[k]'(by omega))), []) := by
            refine dOp_at rfl (dOp_at rfl rfl rfl) ?_
            show ixD (.pu (.tup (l.map mvP))) (.pu (.int (((k + 1 : Nat) : Int) - 1))) [] = _
            rw [show ((k + 1 : Nat) : Int) - 1 = (k : Int) by omega]
            exact ix_tup (by rw [List.getElem?_map, hp]; rfl)
          refine Eq.trans (dOp_at (d1 := .pu (mvP m)) rfl e1 (lt_mv T (L.src m hm) (L.tgt m hm) (L.src _ hpm) (L.tgt _ hpm))) ?_
          rw [asc]; rfl) (l.map mvP) 0 [some (.pu (trP t)), some (.pu (loP l)), none, none] [] (fun i p hp => by
        rw [List.getElem?_map] at hp
        obtain ⟨m, hm, rfl⟩ := Option.map_eq_some_iff.mp hp
        rw [Nat.zero_add]
        exact ⟨m, hm, rfl⟩) ⟨none, none, rfl, rfl⟩
  obtain ⟨a, b, rfl, rfl⟩ := h
  refine pf_at (φ := f_moves_fault) (ih := []) (dFn_rt (b := b_moves_fault) ?_)
  refine (dSeq_at (Eq.trans (dIfS_at (b := false) (dNot_at (b := true) rfl)) rfl)).trans ?_
  exact (dSeq_at (env' := [some (.pu (trP t)), some (.pu (loP l)), a, b]) (ih' := []) e).trans (dSeq_rt (dRet_at rfl))
theorem shp_strs : ∀ {xs : List Str}, (∀ x ∈ xs, PyData.strOk x = true) → PyData.canLayAll0 (pds (xs.map .str)) = true ∧ PyData.depthAll (pds (xs.map .str)) = 0
  | [], _ => ⟨rfl, rfl⟩
  | x :: xs, h => by
    obtain ⟨a, b⟩ := shp_strs fun y hy => h y (.tail _ hy)
    refine ⟨?_, ?_⟩
    · show (PyData.strOk x && PyData.canLayAll0 (pds (xs.map .str))) = true
      rw [h x (.head _), a]; rfl
    · show max 0 (PyData.depthAll (pds (xs.map .str))) = 0
      rw [b]; rfl
theorem shp_lst {xs : List Str} (h : ∀ x ∈ xs, PyData.strOk x = true) : shp (.lst (xs.map .str)) = true := by
  obtain ⟨a, b⟩ := shp_strs h
  show (PyData.canLayAll0 (pds (xs.map .str)) && decide (PyData.depthAll (pds (xs.map .str)) + 1 ≤ 64)) = true
  rw [a, b]; rfl
theorem zip_has (hc : c.length = t.length) {x : Str} (hx : x ∈ nms t) : ∃ q ∈ (nms t).zip c, q.1 = x := by
  have e : ((nms t).zip c).map Prod.fst = nms t := List.map_fst_zip (by rw [nms_len]; omega)
  rw [← e] at hx
  obtain ⟨q, hq, rfl⟩ := List.mem_map.mp hx
  exact ⟨q, hq, rfl⟩
theorem zip_nd (T : TOk t way) (hc : c.length = t.length) : (((nms t).zip c).map fun q => kS q.1).Nodup := by
  have : ((nms t).zip c).map (fun q => kS q.1) = (nms t).map kS := by
    rw [show (fun q : Str × Int => kS q.1) = kS ∘ Prod.fst from rfl, ← List.map_map, List.map_fst_zip (by rw [nms_len]; omega)]
  rw [this]; exact nd_keys T.nd
theorem lot_none (T : TG t way) (S : SOk t way c) (L : LOk t c l) : pf f_lot_fault [.pu (trP t), .pu (stP c), .pu (loP l)] = some .non := by
  refine pf_at (φ := f_lot_fault) (ih := []) (dFn_rt (b := b_lot_fault) ?_)
  refine (dSeq_at (dSet_at (dCallP2 rfl rfl (moves_none T L)))).trans ?_
  refine (dSeq_at (Eq.trans (dIfS_at (b := false) rfl) rfl)).trans ?_
  refine (dSeq_at (dSet_at (dCallP2 rfl rfl (counts_at T.sl T.nd S.len)))).trans ?_
  refine (dSeq_at (dSet_at (d := .pu (.lst (l.map fun m => .str m.1))) (ih' := []) ?_)).trans ?_
  · exact lc_all (c := mvP) (l := l) (fun m => [some (.pu (trP t)), some (.pu (stP c)), some (.pu (loP l)), some (.pu .non), some (.pu (.dic (((nms t).zip c).map fun q => (kS q.1, .int q.2)))), none, none, none, some (.pu (.str m.1)), some (.pu (.str m.2))]) (fun m => .str m.1) rfl (Nat.le_of_lt (sl100 (by have := L.lt; omega))) (fun _ _ => rfl) (fun _ _ => rfl)
  refine (dSeq_at (dSet_at (d := .pu (.lst [])) (ih' := []) ?_)).trans (dSeq_rt (dRet_at rfl))
  refine lc_none (cc := sP) (ll := nms t) (fun x => [some (.pu (trP t)), some (.pu (stP c)), some (.pu (loP l)), some (.pu .non), some (.pu (.dic (((nms t).zip c).map fun q => (kS q.1, .int q.2)))), some (.pu (.lst (l.map fun m => .str m.1))), none, some (.pu (.str x)), none, none]) ?_ (by rw [nms_len]; exact T.sl) (fun _ _ => rfl) (fun x hx => ?_)
  · unfold iAny; rw [dCallP1 rfl (names_at T.sl)]; rfl
  · obtain ⟨q, hq, rfl⟩ := zip_has S.len hx
    have e1 := lk_map (k := fun q : Str × Int => kS q.1) (v := fun q : Str × Int => P.int q.2) (zip_nd T.toTOk S.len) hq
    have e2 : cntL (.pu (.lst (l.map fun m => .str m.1))) [.pu (.str q.1)] [] = .ok (.pu (.int ((l.countP fun m => m.1 == q.1 : Nat) : Int)), []) := by
      have s1 : shp (.lst (l.map fun m => .str m.1)) = true := by
        have := shp_lst (xs := l.map (·.1)) (fun x hx => by
          obtain ⟨m, hm, rfl⟩ := List.mem_map.mp hx
          exact sok_spot T (L.src m hm))
        rwa [List.map_map] at this
      have s2 : shp (.str q.1) = true := by
        show (PyData.strOk q.1 && decide (0 ≤ 64)) = true
        rw [T.sok q.1 hx]; rfl
      show (if (shp (.lst (l.map fun m => .str m.1)) && shp (.str q.1)) = true then R.ok (D.pu (.int (((l.map fun m => P.str m.1).countP fun z => eqP z (.str q.1) : Nat) : Int)), []) else .stuck) = _
      rw [s1, s2]
      refine Eq.trans (if_pos (by rfl)) ?_
      rw [List.countP_map]; rfl
    have e3 : dMe isL cntL (dVar 5) [(dVar 7)] [some (.pu (trP t)), some (.pu (stP c)), some (.pu (loP l)), some (.pu .non), some (.pu (.dic (((nms t).zip c).map fun q => (kS q.1, .int q.2)))), some (.pu (.lst (l.map fun m => .str m.1))), none, some (.pu (.str q.1)), none, none] [] = .ok (.pu (.int ((l.countP fun m => m.1 == q.1 : Nat) : Int)), []) := e2
    rw [dOp_at e3 (dOp_at rfl rfl (ix_dic e1)) gt_i]
    have := L.cnt q hq
    rw [decide_eq_false (by omega)]
theorem want_lots_at (T : TG t way) (S : SOk t way c) (L : LOk t c l) : pf f_want_lots [.pu (trP t), .pu (stP c), .pu (loP l)] = some .non := by
  have e1 : pf f_want_stand [.pu (trP t), .pu (stP c)] = some .non := pf_at (φ := f_want_stand) (ih := []) (dFn_nx (b := b_want_stand) ((dSeq_at (dExpr_at (want_call (dOp_at (dCallP2 rfl rfl (stand_none T S)) rfl rfl) rfl))).trans rfl))
  have e2 : pf f_want_case [.pu (trP t), .pu (stP c)] = some .non := pf_at (φ := f_want_case) (ih := []) (dFn_nx (b := b_want_case) ((dSeq_at (dExpr_at (dCallP1 rfl (want_tree_at T)))).trans ((dSeq_at (dExpr_at (dCallP2 rfl rfl e1))).trans rfl)))
  have e3 : pf f_want_lot [.pu (trP t), .pu (stP c), .pu (loP l)] = some .non := pf_at (φ := f_want_lot) (ih := []) (dFn_nx (b := b_want_lot) ((dSeq_at (dExpr_at (want_call (dOp_at (dCallP3 rfl rfl rfl (lot_none T S L)) rfl rfl) rfl))).trans rfl))
  exact pf_at (φ := f_want_lots) (ih := []) (dFn_nx (b := b_want_lots) ((dSeq_at (dExpr_at (dCallP2 rfl rfl e2))).trans ((dSeq_at (dExpr_at (dCallP3 rfl rfl rfl e3))).trans rfl)))
end
/-! ### ends -/
section
variable {t : List Fo} {way : Str → List Str} {c : List Int} {l : List (Str × Str)}
/-- the stand behind a move -/
def mvS (t : List Fo) (c : List Int) (m : Str × Str) : List Int := ((nms t).zip c).map fun q => q.2 + (if q.1 = m.2 then 1 else 0) - (if q.1 = m.1 then 1 else 0)
theorem mvS_len {m : Str × Str} (hc : c.length = t.length) : (mvS t c m).length = t.length := by
  unfold mvS; rw [List.length_map, List.length_zip, nms_len]; omega
def endS (t : List Fo) (c : List Int) (l : List (Str × Str)) : List Int := l.foldl (mvS t) c
theorem endS_len : ∀ {l : List (Str × Str)} {c : List Int}, c.length = t.length → (endS t c l).length = t.length
  | [], _, h => h
  | m :: l, c, h => endS_len (l := l) (mvS_len h)
theorem if_at {env : Ev} {ih : IH} {f g : Ev → IH → R (D × IH)} {x y : Str} (e1 : f env ih = .ok (.pu (.str x), ih)) (e2 : g env ih = .ok (.pu (.str y), ih)) : dIf (dOp eqD f g) (dC (.int 1)) (dC (.int 0)) env ih = .ok (.pu (.int (if x = y then 1 else 0)), ih) := by
  rw [dIf_at (dOp_at e1 e2 eq_str)]
  by_cases h : x = y
  · rw [decide_eq_true h, if_pos h]; rfl
  · rw [decide_eq_false h, if_neg h]; rfl
def sbB : Ev → IH → RS := (dSeq (dExpr (dMe isL appD (dVar 3) [(dOp subD (dOp addD (dVar 7) (dIf (dOp eqD (dVar 6) (dVar 5)) (dC (.int 1)) (dC (.int 0)))) (dIf (dOp eqD (dVar 6) (dVar 4)) (dC (.int 1)) (dC (.int 0))))])) dNx)
theorem sb_loop (e0 e1 e2 : Option D) (m : Str × Str) : ∀ (zs : List (Str × Int)) (acc : List Int) (x6 x7 : Option D), acc.length + zs.length ≤ 1000 →
    ∃ y6 y7, dForL (gT [(gN 6), (gN 7)]) sbB [] (zs.map fun q => .tup [.str q.1, .int q.2]) [e0, e1, e2, some (.ref 0), some (.pu (.str m.1)), some (.pu (.str m.2)), x6, x7] [.lst (acc.map fun n => .pu (.int n))] = .nx [e0, e1, e2, some (.ref 0), some (.pu (.str m.1)), some (.pu (.str m.2)), y6, y7] [.lst ((acc ++ zs.map fun q : Str × Int => q.2 + (if q.1 = m.2 then 1 else 0) - (if q.1 = m.1 then 1 else 0)).map fun n => .pu (.int n))]
  | [], acc, x6, x7, _ => ⟨x6, x7, by rw [List.map_nil, List.map_nil, List.append_nil]; rfl⟩
  | q :: zs, acc, x6, x7, h => by
    rw [List.length_cons] at h
    have eb : sbB [e0, e1, e2, some (.ref 0), some (.pu (.str m.1)), some (.pu (.str m.2)), some (.pu (.str q.1)), some (.pu (.int q.2))] [.lst (acc.map fun n => .pu (.int n))] = .nx [e0, e1, e2, some (.ref 0), some (.pu (.str m.1)), some (.pu (.str m.2)), some (.pu (.str q.1)), some (.pu (.int q.2))] [.lst ((acc ++ [q.2 + (if q.1 = m.2 then 1 else 0) - (if q.1 = m.1 then 1 else 0)]).map fun n => .pu (.int n))] := by
      refine (dSeq_at (dExpr_at (app_at (ih := []) (d := .pu (.int (q.2 + (if q.1 = m.2 then 1 else 0) - (if q.1 = m.1 then 1 else 0)))) rfl (dOp_at (dOp_at rfl (if_at rfl rfl) rfl) (if_at rfl rfl) rfl) ?_))).trans ?_
      · rw [List.length_map]; exact sl100 (by omega)
      · rw [List.map_append]; rfl
    obtain ⟨y6, y7, e⟩ := sb_loop e0 e1 e2 m zs (acc ++ [q.2 + (if q.1 = m.2 then 1 else 0) - (if q.1 = m.1 then 1 else 0)]) (some (.pu (.str q.1))) (some (.pu (.int q.2))) (by simp; omega)
    refine ⟨y6, y7, ?_⟩
    rw [List.map_cons, dForL]
    show (match sbB [e0, e1, e2, some (.ref 0), some (.pu (.str m.1)), some (.pu (.str m.2)), some (.pu (.str q.1)), some (.pu (.int q.2))] [.lst (acc.map fun n => .pu (.int n))] with
        | .nx env' ih' => dForL (gT [(gN 6), (gN 7)]) sbB [] (zs.map fun q : Str × Int => P.tup [.str q.1, .int q.2]) (wipeE [] env') ih'
        | .ct env' ih' => dForL (gT [(gN 6), (gN 7)]) sbB [] (zs.map fun q : Str × Int => P.tup [.str q.1, .int q.2]) (wipeE [] env') ih'
        | .bk env' ih' => .nx env' ih'
        | r => r) = _
    rw [eb, List.map_cons]
    rw [List.append_assoc] at e
    exact e
theorem stand_by_at (T : TOk t way) {m : Str × Str} (hc : c.length = t.length) : pf f_stand_by [.pu (trP t), .pu (stP c), .pu (mvP m)] = some (stP (mvS t c m)) := by
  obtain ⟨y6, y7, e⟩ := sb_loop (some (.pu (trP t))) (some (.pu (stP c))) (some (.pu (mvP m))) m ((nms t).zip c) [] none none (by rw [List.length_zip, nms_len]; have := T.lt; simp; omega)
  refine pf_at (φ := f_stand_by) (ih := [.dead]) (dFn_rt (b := b_stand_by) ?_)
  refine (dSeq_at (env' := [some (.pu (trP t)), some (.pu (stP c)), some (.pu (mvP m)), none, some (.pu (.str m.1)), some (.pu (.str m.2)), none, none]) (ih' := []) rfl).trans ?_
  refine (dSeq_at (dSet_at (d := .ref 0) (ih' := [.lst []]) rfl)).trans ?_
  refine (dSeq_at (env' := [some (.pu (trP t)), some (.pu (stP c)), some (.pu (mvP m)), some (.ref 0), some (.pu (.str m.1)), some (.pu (.str m.2)), y6, y7]) (ih' := [.lst ((mvS t c m).map fun n => .pu (.int n))]) ?_).trans ?_
  · have es : Dn.iZip (dCallP 1 f_names_in [] [(dVar 0)]) (dVar 1) [some (.pu (trP t)), some (.pu (stP c)), some (.pu (mvP m)), some (.ref 0), some (.pu (.str m.1)), some (.pu (.str m.2)), none, none] [.lst []] = .ok (((nms t).zip c).map fun q => .tup [.str q.1, .int q.2], [.lst []]) := by
      unfold Dn.iZip
      rw [dArgs2 (dCallP1 rfl (names_at T.sl)) (show dVar 1 _ [Cl.lst []] = .ok (.pu (stP c), [.lst []]) from rfl)]
      show R.ok (zipP ((nms t).map sP) (c.map .int), [Cl.lst []]) = _
      rw [zip_PP]
    unfold dFor
    refine Eq.trans (congrArg (fun r => bindS _ r _) es) ?_
    exact e
  · have e2 : ([.lst ((mvS t c m).map fun n => .pu (.int n))] : IH)[0]? = some (.lst (((mvS t c m).map P.int).map .pu)) := by rw [List.map_map]; rfl
    refine dSeq_rt ((dSeq_at (env' := [some (.pu (trP t)), some (.pu (stP c)), some (.pu (mvP m)), some (.pu (.lst ((mvS t c m).map P.int))), some (.pu (.str m.1)), some (.pu (.str m.2)), y6, y7]) (ih' := [.dead]) ?_).trans (dRet_at rfl))
    show (match frz 8 [.lst ((mvS t c m).map fun n => .pu (.int n))] (.ref 0) with | some (p, ih') => RS.nx _ ih' | none => .stuck) = _
    rw [frz_lst e2]; rfl
theorem counts_end (T : TOk t way) : ∀ (l : List (Str × Str)) (c : List Int) (e2 x3 : Option D), c.length = t.length → ∃ y3, dForL (gN 3) (dSeq (dSet 1 (dCallP 3 f_stand_by [] [(dVar 0), (dVar 1), (dVar 3)])) dNx) [] (l.map mvP) [some (.pu (trP t)), some (.pu (stP c)), e2, x3] [] = .nx [some (.pu (trP t)), some (.pu (stP (endS t c l))), e2, y3] []
  | [], c, e2, x3, _ => ⟨x3, rfl⟩
  | m :: l, c, e2, x3, hc => by
    obtain ⟨y3, e⟩ := counts_end T l (mvS t c m) e2 (some (.pu (mvP m))) (mvS_len hc)
    refine ⟨y3, ?_⟩
    rw [List.map_cons, dForL]
    show (match (dSeq (dSet 1 (dCallP 3 f_stand_by [] [(dVar 0), (dVar 1), (dVar 3)])) dNx) [some (.pu (trP t)), some (.pu (stP c)), e2, some (.pu (mvP m))] [] with
        | .nx env' ih' => dForL (gN 3) (dSeq (dSet 1 (dCallP 3 f_stand_by [] [(dVar 0), (dVar 1), (dVar 3)])) dNx) [] (l.map mvP) (wipeE [] env') ih'
        | .ct env' ih' => dForL (gN 3) (dSeq (dSet 1 (dCallP 3 f_stand_by [] [(dVar 0), (dVar 1), (dVar 3)])) dNx) [] (l.map mvP) (wipeE [] env') ih'
        | .bk env' ih' => .nx env' ih'
        | r => r) = _
    rw [(dSeq_at (dSet_at (dCallP3 rfl rfl rfl (stand_by_at T hc)))).trans rfl]
    exact e
theorem counts_at_at (T : TOk t way) (hc : c.length = t.length) : pf f_counts_at [.pu (trP t), .pu (stP c), .pu (loP l)] = some (stP (endS t c l)) := by
  obtain ⟨y3, e⟩ := counts_end T l c (some (.pu (loP l))) none hc
  refine pf_at (φ := f_counts_at) (ih := []) (dFn_rt (b := b_counts_at) ?_)
  exact (dSeq_at (env' := [some (.pu (trP t)), some (.pu (stP (endS t c l))), some (.pu (loP l)), y3]) (ih' := []) e).trans (dSeq_rt (dRet_at rfl))
theorem isort_id {α : Type} {le : α → α → Bool} : ∀ {xs : List α}, xs.Pairwise (fun a b => le a b = true) → isort le xs = xs
  | [], _ => rfl
  | x :: xs, h => by
    rw [List.pairwise_cons] at h
    show insP le x (isort le xs) = _
    rw [isort_id h.2]
    cases xs with
    | nil => rfl
    | cons y ys =>
      show (if le x y then x :: y :: ys else y :: insP le x ys) = _
      rw [if_pos (h.1 y (.head _))]
theorem ddp_id {κ : Type} [DecidableEq κ] : ∀ {xs : List κ}, xs.Nodup → ddp xs = xs
  | [], _ => rfl
  | x :: xs, h => by
    rw [List.nodup_cons] at h
    unfold ddp; rw [if_neg h.1, ddp_id h.2]
theorem strs_map : ∀ xs : List Str, strsP (xs.map .str) = some xs
  | [] => rfl
  | x :: xs => by rw [List.map_cons, strsP, strs_map xs]; rfl
theorem canSort_strs {xs : List Str} (h : ∀ x ∈ xs, PyData.strOk x = true) : canSort (xs.map .str) = true := by
  unfold canSort
  simp only [Bool.and_eq_true, Bool.or_eq_true, List.all_eq_true]
  refine ⟨⟨fun p hp q hq => ?_, .inr fun p hp => ?_⟩, fun p hp => ?_⟩
  · obtain ⟨a, _, rfl⟩ := List.mem_map.mp hp
    obtain ⟨b, _, rfl⟩ := List.mem_map.mp hq
    rfl
  · obtain ⟨a, _, rfl⟩ := List.mem_map.mp hp
    rfl
  · obtain ⟨a, ha, rfl⟩ := List.mem_map.mp hp
    show (PyData.strOk a && decide (0 ≤ 64)) = true
    rw [h a ha]; rfl
theorem sos_at {env : Ev} {ih : IH} {f : Ev → IH → R (D × IH)} {xs : List Str} (e : f env ih = .ok (.pu (.lst (xs.map .str)), ih)) (h1 : xs.length < 64) (h2 : ∀ x ∈ xs, PyData.strOk x = true) (h3 : xs.Nodup) (h4 : xs.Pairwise fun a b => leP (.str a) (.str b) = true) : dSoS f env ih = .ok (.pu (.lst (xs.map .str)), ih) := by
  have e1 : sosP (xs.map .str) = some (xs.map .str) := by
    unfold sosP
    rw [List.length_map, decide_eq_true h1, canSort_strs h2, strs_map]
    show some (isort leP ((ddp xs).map .str)) = _
    rw [ddp_id h3]
    rw [isort_id (List.pairwise_map.mpr h4)]
  unfold dSoS; rw [e]
  show (match sosP (xs.map .str) with | some qs => R.ok (D.pu (.lst qs), ih) | none => .stuck) = _
  rw [e1]
/-- the folders that use too much at the end -/
def mis (t : List Fo) (way : Str → List Str) (c : List Int) : List Str := (t.filter fun f => decide (f.2.2 < use way ((nms t).zip c) f.1)).map (·.1)
theorem nd_sub {α β : Type} {f : α → β} {p : α → Bool} : ∀ {l : List α}, (l.map f).Nodup → ((l.filter p).map f).Nodup
  | [], _ => List.nodup_nil
  | a :: l, h => by
    rw [List.map_cons, List.nodup_cons] at h
    rw [List.filter_cons]
    split
    · rw [List.map_cons, List.nodup_cons]
      refine ⟨fun m => h.1 ?_, nd_sub h.2⟩
      obtain ⟨b, hb, e⟩ := List.mem_map.mp m
      rw [← e]; exact List.mem_map_of_mem (List.mem_filter.mp hb).1
    · exact nd_sub h.2
theorem misfits_at_at (T : TG t way) (hc : c.length = t.length) : pf f_misfits_at [.pu (trP t), .pu (stP c), .pu (loP l)] = some (nmsP (mis t way (endS t c l))) := by
  have he := endS_len (l := l) hc
  refine pf_at (φ := f_misfits_at) (ih := []) (dFn_rt (b := b_misfits_at) ?_)
  refine (dSeq_at (dSet_at (dCallP2 (f1 := dVar 0) rfl (dCallP3 rfl rfl rfl (counts_at_at T.toTOk hc)) (frees_at T.toTOk he)))).trans (dSeq_rt (dRet_at ?_))
  have e1 : dLc false (gN 4) (iAny (dCall listA [(dVar 3)])) (some (dOp ltD (dOp ixD (dVar 3) (dVar 4)) (dC (.int 0)))) (dVar 4) [4] [some (.pu (trP t)), some (.pu (stP c)), some (.pu (loP l)), some (.pu (.dic (t.map fun f => (kS f.1, .int (f.2.2 - use way ((nms t).zip (endS t c l)) f.1))))), none] [] = .ok (.pu (.lst ((mis t way (endS t c l)).map .str)), []) := by
    have r := lc_at (hh := gN 4) (src := iAny (dCall listA [(dVar 3)])) (t := some (dOp ltD (dOp ixD (dVar 3) (dVar 4)) (dC (.int 0)))) (e := dVar 4) (vs := [4]) (env := [some (.pu (trP t)), some (.pu (stP c)), some (.pu (loP l)), some (.pu (.dic (t.map fun f => (kS f.1, .int (f.2.2 - use way ((nms t).zip (endS t c l)) f.1))))), none]) (ih := []) (c := fun f : Fo => P.str f.1) (l := t) (fun f => [some (.pu (trP t)), some (.pu (stP c)), some (.pu (loP l)), some (.pu (.dic (t.map fun f => (kS f.1, .int (f.2.2 - use way ((nms t).zip (endS t c l)) f.1))))), some (.pu (.str f.1))]) (fun f => decide (f.2.2 < use way ((nms t).zip (endS t c l)) f.1)) (fun f => .str f.1) (by
        show R.ok (List.map (fun kv : Key × P => kP kv.1) (t.map fun f => (kS f.1, P.int (f.2.2 - use way ((nms t).zip (endS t c l)) f.1))), []) = _
        rw [List.map_map]; rfl) T.sl (fun _ _ => rfl) (fun f hf => tests_at (by
          rw [dOp_at (dOp_at rfl rfl (ix_dic (lk_map (k := fun f : Fo => kS f.1) (v := fun f : Fo => P.int (f.2.2 - use way ((nms t).zip (endS t c l)) f.1)) (nd_fo T.nd) hf))) rfl rfl]
          show R.ok (D.pu (.bl (decide (f.2.2 - use way ((nms t).zip (endS t c l)) f.1 < 0))), []) = _
          congr 4
          exact decide_eq_decide.mpr (by omega))) (fun _ _ _ => rfl)
    rw [r]; unfold mis; rw [List.map_map]; rfl
  have hsub : ∀ x ∈ mis t way (endS t c l), x ∈ nms t := fun x hx => by
    obtain ⟨f, hf, rfl⟩ := List.mem_map.mp hx
    exact List.mem_map_of_mem (List.mem_filter.mp hf).1
  refine dCall_at (sos_at e1 ?_ (fun x hx => T.sok x (hsub x hx)) (nd_sub T.nd) ?_) ?_
  · have h1 := List.length_filter_le (fun f : Fo => decide (f.2.2 < use way ((nms t).zip (endS t c l)) f.1)) t
    unfold mis; rw [List.length_map]; have := T.few; omega
  · have := T.ascP
    unfold nms at this
    rw [List.pairwise_map] at this
    unfold mis
    rw [List.pairwise_map]
    exact this.filter _
  · rfl
theorem end_counts_at (T : TG t way) (S : SOk t way c) (L : LOk t c l) : pf f_end_counts [.pu (trP t), .pu (stP c), .pu (loP l)] = some (stP (endS t c l)) :=
  pf_at (φ := f_end_counts) (ih := []) (dFn_rt (b := b_end_counts) ((dSeq_at (dExpr_at (dCallP3 rfl rfl rfl (want_lots_at T S L)))).trans (dSeq_rt (dRet_at (dCallP3 rfl rfl rfl (counts_at_at T.toTOk S.len))))))
theorem misfits_at' (T : TG t way) (S : SOk t way c) (L : LOk t c l) : pf f_misfits [.pu (trP t), .pu (stP c), .pu (loP l)] = some (nmsP (mis t way (endS t c l))) :=
  pf_at (φ := f_misfits) (ih := []) (dFn_rt (b := b_misfits) ((dSeq_at (dExpr_at (dCallP3 rfl rfl rfl (want_lots_at T S L)))).trans (dSeq_rt (dRet_at (dCallP3 rfl rfl rfl (misfits_at_at T S.len))))))
theorem shp_tup {xs : List Str} (h : ∀ x ∈ xs, PyData.strOk x = true) : shp (.tup (xs.map .str)) = true := by
  obtain ⟨a, b⟩ := shp_strs h
  show (PyData.canLayAll0 (pds (xs.map .str)) && decide (PyData.depthAll (pds (xs.map .str)) + 1 ≤ 64)) = true
  rw [a, b]; rfl
theorem mis_ok (T : TG t way) (c : List Int) : ∀ x ∈ mis t way c, PyData.strOk x = true := fun x hx => by
  obtain ⟨f, hf, rfl⟩ := List.mem_map.mp hx
  exact T.sok _ (List.mem_map_of_mem (List.mem_filter.mp hf).1)
theorem eq_nil_tup {xs : List Str} : eqP (.tup (xs.map .str)) (.tup []) = xs.isEmpty := by
  cases xs with
  | nil => rfl
  | cons x xs =>
    show PyData.eqv (.tuple (pd (.str x) :: pds (xs.map .str))) (.tuple []) = false
    unfold PyData.eqv PyData.eqvAll; rfl
theorem fits_at (T : TG t way) (S : SOk t way c) (L : LOk t c l) : pf f_fits [.pu (trP t), .pu (stP c), .pu (loP l)] = some (.bl (mis t way (endS t c l)).isEmpty) := by
  refine pf_at (φ := f_fits) (ih := []) (dFn_rt (b := b_fits) (dSeq_rt (dRet_at (dOp_at (dCallP3 rfl rfl rfl (misfits_at' T S L)) rfl ?_))))
  show (if (shp (nmsP (mis t way (endS t c l))) && shp (.tup [])) = true then R.ok (D.pu (.bl (eqP (nmsP (mis t way (endS t c l))) (.tup []))), []) else .stuck) = _
  have e1 : shp (nmsP (mis t way (endS t c l))) = true := shp_tup (mis_ok T _)
  rw [e1]
  refine Eq.trans (if_pos (by rfl)) ?_
  have e2 : eqP (nmsP (mis t way (endS t c l))) (.tup []) = (mis t way (endS t c l)).isEmpty := eq_nil_tup
  rw [e2]
end
/-! ### the law's own reading of a tree -/
section
variable {t : List Fo} {way : Str → List Str} {c : List Int} {l : List (Str × Str)}
theorem in_any {x : Str} {ys : List Str} : ((ys.map sP).any fun y => eqP y (.str x)) = decide (x ∈ ys) := by
  induction ys with
  | nil => simp
  | cons y ys e =>
    rw [List.map_cons, List.any_cons, e]
    show ((y == x) || decide (x ∈ ys)) = _
    by_cases h : y = x
    · subst h; simp
    · have : (y == x) = false := beq_eq_false_iff_ne.mpr h
      rw [this]; simp [Ne.symm h]
theorem flats (ys : List Str) : (ys.map sP).all flatP = true := by
  induction ys with
  | nil => rfl
  | cons y ys e => rw [List.map_cons, List.all_cons, e]; rfl
theorem in_lst {x : Str} {ys : List Str} {ih : IH} : inKD (.pu (.str x)) (.pu (.lst (ys.map sP))) ih = .ok (.pu (.bl (decide (x ∈ ys))), ih) := by
  show (if (flatP (.str x) && (ys.map sP).all flatP) = true then inF id (.pu (.str x)) (.pu (.lst (ys.map sP))) ih else _) = _
  have h : (flatP (.str x) && (ys.map sP).all flatP) = true := by rw [flats]; rfl
  rw [if_pos h]
  show (if (flatP (.str x) && (ys.map sP).all flatP) = true then R.ok (D.pu (.bl ((ys.map sP).any fun y => eqP y (.str x))), ih) else .stuck) = _
  rw [if_pos h, in_any]
theorem in_tup {x : Str} {ys : List Str} {ih : IH} : inKD (.pu (.str x)) (.pu (.tup (ys.map sP))) ih = .ok (.pu (.bl (decide (x ∈ ys))), ih) := by
  show (if (flatP (.str x) && (ys.map sP).all flatP) = true then inF id (.pu (.str x)) (.pu (.tup (ys.map sP))) ih else _) = _
  have h : (flatP (.str x) && (ys.map sP).all flatP) = true := by rw [flats]; rfl
  rw [if_pos h]
  show (if (flatP (.str x) && (ys.map sP).all flatP) = true then R.ok (D.pu (.bl ((ys.map sP).any fun y => eqP y (.str x))), ih) else .stuck) = _
  rw [if_pos h, in_any]
theorem notIn_lst {x : Str} {ys : List Str} {ih : IH} : notInKD (.pu (.str x)) (.pu (.lst (ys.map sP))) ih = .ok (.pu (.bl (!decide (x ∈ ys))), ih) := by
  show (if (flatP (.str x) && (ys.map sP).all flatP) = true then inF not (.pu (.str x)) (.pu (.lst (ys.map sP))) ih else _) = _
  have h : (flatP (.str x) && (ys.map sP).all flatP) = true := by rw [flats]; rfl
  rw [if_pos h]
  show (if (flatP (.str x) && (ys.map sP).all flatP) = true then R.ok (D.pu (.bl (!((ys.map sP).any fun y => eqP y (.str x)))), ih) else .stuck) = _
  rw [if_pos h, in_any]
theorem fo_eq (nd : (nms t).Nodup) {f g : Fo} (hf : f ∈ t) (hg : g ∈ t) (e : g.1 = f.1) : g = f := by
  induction t with
  | nil => cases hf
  | cons a t ihh =>
    unfold nms at nd
    rw [List.map_cons, List.nodup_cons] at nd
    rcases List.mem_cons.mp hf with e1 | h1
    · rcases List.mem_cons.mp hg with e2 | h2
      · rw [e1, e2]
      · rw [e1] at e
        exact absurd (show a.1 ∈ t.map (·.1) by rw [← e]; exact List.mem_map_of_mem h2) nd.1
    · rcases List.mem_cons.mp hg with e2 | h2
      · rw [e2] at e
        exact absurd (show a.1 ∈ t.map (·.1) by rw [e]; exact List.mem_map_of_mem h1) nd.1
      · exact ihh nd.2 h1 h2
theorem first_at (nd : (nms t).Nodup) {f : Fo} (hf : f ∈ t) : ((t.filter fun g => decide (g.1 = f.1)).map fun g => P.str g.2.1)[0]? = some (.str f.2.1) := by
  cases e : t.filter fun g => decide (g.1 = f.1) with
  | nil =>
    have : f ∈ t.filter fun g => decide (g.1 = f.1) := List.mem_filter.mpr ⟨hf, decide_eq_true rfl⟩
    rw [e] at this; cases this
  | cons g r =>
    have h : g ∈ t.filter fun g => decide (g.1 = f.1) := by rw [e]; exact .head _
    obtain ⟨hg, e1⟩ := List.mem_filter.mp h
    rw [fo_eq nd hf hg (of_decide_eq_true e1)]; rfl
def arB : Ev → IH → RS := (dSeq (dIfS (dOp eqD (dVar 4) (dC (.str "")))
    (dSeq dBk
    dNx)
    dNx)
    (dSeq (dExpr (dMe isL appD (dVar 3) [(dVar 4)]))
    (dSeq (dSet 4 (dOp ixD (dLc false (gN 5) (iAny (dVar 0)) (some (dOp eqD (dOp ixD (dVar 5) (dC (.int 0))) (dVar 4))) (dOp ixD (dVar 5) (dC (.int 1))) [5]) (dC (.int 0))))
    dNx)))
theorem ar_loop (T : TOk t way) (e1 : Option D) : ∀ (ps : List P) (x : Str) (acc : List Str) (x2 : Option D), (way x).length ≤ ps.length → acc.length + ps.length ≤ 1000 → spot t x →
    ∃ y2 y4, dForL (gN 2) arB [] ps [some (.pu (trP t)), e1, x2, some (.ref 0), some (.pu (.str x)), none] [.lst (acc.map fun z => .pu (.str z))] = .nx [some (.pu (trP t)), e1, y2, some (.ref 0), y4, none] [.lst ((acc ++ way x).map fun z => .pu (.str z))]
  | [], x, acc, x2, h, _, _ => ⟨x2, some (.pu (.str x)), by
      have : way x = [] := List.eq_nil_of_length_eq_zero (Nat.le_zero.mp h)
      rw [this, List.append_nil]; rfl⟩
  | p :: ps, x, acc, x2, h, hl, hx => by
    rw [List.length_cons] at h hl
    by_cases hx0 : x = ""
    · refine ⟨some (.pu p), some (.pu (.str x)), ?_⟩
      have eb : arB [some (.pu (trP t)), e1, some (.pu p), some (.ref 0), some (.pu (.str x)), none] [.lst (acc.map fun z => .pu (.str z))] = .bk [some (.pu (trP t)), e1, some (.pu p), some (.ref 0), some (.pu (.str x)), none] [.lst (acc.map fun z => .pu (.str z))] := by
        unfold arB dSeq
        rw [dIfS_at (dOp_at (d1 := .pu (.str x)) rfl rfl eq_str), decide_eq_true hx0]; rfl
      rw [dForL]
      show (match arB [some (.pu (trP t)), e1, some (.pu p), some (.ref 0), some (.pu (.str x)), none] [.lst (acc.map fun z => .pu (.str z))] with
        | .nx env' ih' => dForL (gN 2) arB [] ps (wipeE [] env') ih'
        | .ct env' ih' => dForL (gN 2) arB [] ps (wipeE [] env') ih'
        | .bk env' ih' => .nx env' ih'
        | r => r) = _
      rw [eb, hx0, T.w0, List.append_nil]
    · have hx' := hx.resolve_left hx0
      obtain ⟨f, hf, rfl⟩ := mem_nms hx'
      have hw := T.w1 f hf
      rw [hw, List.length_cons] at h
      have eb : arB [some (.pu (trP t)), e1, some (.pu p), some (.ref 0), some (.pu (.str f.1)), none] [.lst (acc.map fun z => .pu (.str z))] = .nx [some (.pu (trP t)), e1, some (.pu p), some (.ref 0), some (.pu (.str f.2.1)), none] [.lst ((acc ++ [f.1]).map fun z => .pu (.str z))] := by
        refine (dSeq_at (Eq.trans (dIfS_at (b := false) ?_) rfl)).trans ?_
        · rw [dOp_at (d1 := .pu (.str f.1)) rfl rfl eq_str, decide_eq_false hx0]
        refine (dSeq_at (dExpr_at (app_at (ih := []) rfl rfl (by rw [List.length_map]; exact sl100 (by omega))))).trans ?_
        have el : dLc false (gN 5) (iAny (dVar 0)) (some (dOp eqD (dOp ixD (dVar 5) (dC (.int 0))) (dVar 4))) (dOp ixD (dVar 5) (dC (.int 1))) [5] [some (.pu (trP t)), e1, some (.pu p), some (.ref 0), some (.pu (.str f.1)), none] ([] ++ [.lst (acc.map (fun z => .pu (.str z)) ++ [.pu (.str f.1)])]) = .ok (.pu (.lst ((t.filter fun g => decide (g.1 = f.1)).map fun g => .str g.2.1)), [] ++ [.lst (acc.map (fun z => .pu (.str z)) ++ [.pu (.str f.1)])]) := by
          refine lc_at (c := foP) (l := t) (fun g => [some (.pu (trP t)), e1, some (.pu p), some (.ref 0), some (.pu (.str f.1)), some (.pu (foP g))]) (fun g => decide (g.1 = f.1)) (fun g => .str g.2.1) rfl T.sl (fun _ _ => rfl) (fun g _ => tests_at ?_) (fun _ _ _ => rfl)
          exact dOp_at (d1 := .pu (.str g.1)) rfl rfl eq_str
        refine (dSeq_at (dSet_at (dOp_at el rfl (ix_lst (k := 0) (first_at T.nd hf))))).trans ?_
        rw [List.map_append]; rfl
      obtain ⟨y2, y4, e⟩ := ar_loop T e1 ps f.2.1 (acc ++ [f.1]) (some (.pu p)) (by omega) (by simp; omega) (T.par f hf)
      refine ⟨y2, y4, ?_⟩
      rw [dForL]
      show (match arB [some (.pu (trP t)), e1, some (.pu p), some (.ref 0), some (.pu (.str f.1)), none] [.lst (acc.map fun z => .pu (.str z))] with
        | .nx env' ih' => dForL (gN 2) arB [] ps (wipeE [] env') ih'
        | .ct env' ih' => dForL (gN 2) arB [] ps (wipeE [] env') ih'
        | .bk env' ih' => .nx env' ih'
        | r => r) = _
      rw [eb, hw]
      rw [List.append_assoc] at e
      exact e
theorem iota_range : ∀ (n : Nat) (k : Int), iotaP k n = (List.range n).map fun i : Nat => P.int (k + (i : Int))
  | 0, _ => rfl
  | n + 1, k => by
    rw [iotaP, iota_range n (k + 1), List.range_succ_eq_map, List.map_cons, List.map_map]
    congr 1
    · simp
    · refine List.map_congr_left fun i _ => ?_
      show P.int (k + 1 + (i : Int)) = P.int (k + ((i + 1 : Nat) : Int))
      congr 1; omega
theorem rb : ∀ n : Nat, n < 101 → (decide (-4611686018427387904 ≤ (n : Int)) && decide ((n : Int) < 4611686018427387904)) = true := by decide +kernel
theorem rb2 (n : Int) (h : (decide (-4611686018427387904 ≤ n) && decide (n < 4611686018427387904)) = true) (env : Ev) (ih : IH) (f : Ev → IH → R (D × IH)) (e : dArgs [f] env ih = .ok ([.pu (.int n)], ih)) : iR1 f env ih = .ok (iotaP 0 n.toNat, ih) := by
  unfold iR1; rw [e]; exact if_pos h
theorem range_at {env : Ev} {ih : IH} {f : Ev → IH → R (D × IH)} {n : Nat} (e : f env ih = .ok (.pu (.int (n : Int)), ih)) (h : n ≤ 100) : iR1 f env ih = .ok ((List.range n).map fun i : Nat => P.int (i : Int), ih) := by
  have e2 : iotaP 0 (n : Int).toNat = (List.range n).map fun i : Nat => P.int (i : Int) := by
    rw [Int.toNat_natCast, iota_range]
    exact List.map_congr_left fun i _ => by rw [Int.zero_add]
  rw [rb2 (n : Int) (rb n (by omega)) env ih f (dArgs1 e), e2]
theorem around_at (T : TG t way) {x : Str} (hx : spot t x) : pf f__law_around [.pu (trP t), .pu (.str x)] = some (.lst ((way x).map sP)) := by
  have hwl : (way x).length ≤ t.length := by
    rcases hx with e | hx
    · rw [e, T.w0]; simp
    · exact T.wl x hx
  obtain ⟨y2, y4, e⟩ := ar_loop T.toTOk (some (.pu (.str x))) ((List.range t.length).map fun i : Nat => P.int (i : Int)) x [] none (by simp; exact hwl) (by have := T.few; simp; omega) hx
  refine pf_at (φ := f__law_around) (ih := [.dead]) (dFn_rt (b := b__law_around) ?_)
  refine (dSeq_at (env' := [some (.pu (trP t)), some (.pu (.str x)), none, some (.ref 0), some (.pu (.str x)), none]) (ih' := [.lst []]) rfl).trans ?_
  refine (dSeq_at (env' := [some (.pu (trP t)), some (.pu (.str x)), y2, some (.ref 0), y4, none]) (ih' := [.lst ((way x).map fun z => .pu (.str z))]) ?_).trans (dSeq_rt (dRet_at ?_))
  · have es : iR1 (dCall lenD [(dVar 0)]) [some (.pu (trP t)), some (.pu (.str x)), none, some (.ref 0), some (.pu (.str x)), none] [.lst []] = .ok ((List.range t.length).map fun i : Nat => P.int (i : Int), [.lst []]) := by
      refine range_at ?_ (by have := T.few; omega)
      show R.ok (D.pu (.int ((t.map foP).length : Int)), _) = _
      rw [List.length_map]
    unfold dFor
    refine Eq.trans (congrArg (fun r => bindS _ r _) es) ?_
    exact e
  · have e2 : ([.lst ((way x).map fun z => .pu (.str z))] : IH)[0]? = some (.lst (((way x).map sP).map .pu)) := by rw [List.map_map]; rfl
    unfold dFz
    show (match frz 8 [.lst ((way x).map fun z => .pu (.str z))] (.ref 0) with | some (p, ih') => R.ok (D.pu p, ih') | none => .stuck) = _
    rw [frz_lst e2]; rfl
/-! counting by places -/
theorem mem_rz {α : Type} {zs : List α} {k : Nat} {a : α} (h : (k, a) ∈ (List.range zs.length).zip zs) : zs[k]? = some a := by
  obtain ⟨i, hi, e⟩ := List.getElem_of_mem h
  rw [List.getElem_zip, List.getElem_range] at e
  have e1 := congrArg Prod.fst e
  have e2 := congrArg Prod.snd e
  simp only at e1 e2
  subst e1
  rw [← e2]
  exact List.getElem?_eq_getElem _
theorem rz_map {α : Type} (zs : List α) : ((List.range zs.length).zip zs).map (fun a => P.int (a.1 : Int)) = (List.range zs.length).map fun i : Nat => P.int (i : Int) := by
  rw [show (fun a : Nat × α => P.int (a.1 : Int)) = (fun i : Nat => P.int (i : Int)) ∘ Prod.fst from rfl, ← List.map_map, List.map_fst_zip (by simp)]
theorem rz_snd {α : Type} (zs : List α) : ((List.range zs.length).zip zs).map (·.2) = zs := List.map_snd_zip (by simp)
theorem zs_at (hc : c.length = t.length) {k : Nat} {q : Str × Int} (h : ((nms t).zip c)[k]? = some q) : (∃ f, t[k]? = some f ∧ f.1 = q.1) ∧ c[k]? = some q.2 := by
  rw [List.getElem?_zip_eq_some] at h
  refine ⟨?_, h.2⟩
  have h1 := h.1
  unfold nms at h1
  rw [List.getElem?_map] at h1
  obtain ⟨f, hf, e⟩ := Option.map_eq_some_iff.mp h1
  exact ⟨f, hf, e⟩
theorem ints_map : ∀ (ns : List Int), intsP (ns.map .int) = some ns
  | [] => rfl
  | n :: ns => by
    have e := ints_map ns
    show (intsP (ns.map .int)).map (n :: ·) = _
    rw [e]; rfl
theorem sum_use (T : TOk t way) {x : Str} : ∀ (zs : List (Nat × (Str × Int))), (∀ a ∈ zs, a.2.1 ∈ nms t) → (((zs.filter fun a => decide (x ∈ way a.2.1)).map fun a => a.2.2).sum : Int) = use way (zs.map (·.2)) x
  | [], _ => rfl
  | a :: zs, h => by
    have e := sum_use T (x := x) zs fun b hb => h b (.tail _ hb)
    rw [List.map_cons]
    unfold use at e ⊢
    rw [List.map_cons, List.sum_cons, ← e, List.filter_cons]
    by_cases hx : x ∈ way a.2.1
    · rw [decide_eq_true hx, if_pos rfl, List.map_cons, List.sum_cons]
      have : (way a.2.1).count x = 1 := by
        have h1 := List.nodup_iff_count.mp (T.ndw _ (h a (.head _))) x
        have h2 := List.count_pos_iff.mpr hx
        omega
      rw [this]; simp
    · rw [decide_eq_false hx]
      have : (way a.2.1).count x = 0 := List.count_eq_zero_of_not_mem hx
      rw [this]; simp
theorem use_at (T : TG t way) (hc : c.length = t.length) {x : Str} : pf f__law_use [.pu (trP t), .pu (stP c), .pu (.str x)] = some (.int (use way ((nms t).zip c) x)) := by
  have hz : ((nms t).zip c).length = t.length := by rw [List.length_zip, nms_len]; omega
  refine pf_at (φ := f__law_use) (ih := []) (dFn_rt (b := b__law_use) (dSeq_rt (dRet_at ?_)))
  have e : dLc false (gN 3) (iR1 (dCall lenD [(dVar 0)])) (some (dOp inKD (dVar 2) (dCallP 2 f__law_around [] [(dVar 0), (dOp ixD (dOp ixD (dVar 0) (dVar 3)) (dC (.int 0)))]))) (dOp ixD (dVar 1) (dVar 3)) [3] (ent 4 [.pu (trP t), .pu (stP c), .pu (.str x)]) [] = .ok (.pu (.lst ((((List.range ((nms t).zip c).length).zip ((nms t).zip c)).filter fun a => decide (x ∈ way a.2.1)).map fun a => .int a.2.2)), []) := by
    refine lc_at (c := fun a : Nat × (Str × Int) => P.int (a.1 : Int)) (fun a => [some (.pu (trP t)), some (.pu (stP c)), some (.pu (.str x)), some (.pu (.int (a.1 : Int)))]) (fun a => decide (x ∈ way a.2.1)) (fun a => .int a.2.2) ?_ ?_ (fun _ _ => rfl) (fun a ha => tests_at ?_) (fun a ha _ => ?_)
    · rw [rz_map, hz]
      refine range_at ?_ (by have := T.few; omega)
      show R.ok (D.pu (.int ((t.map foP).length : Int)), _) = _
      rw [List.length_map]
    · rw [List.length_zip, List.length_range, hz]; have := T.few; exact Nat.le_of_lt (sl100 (by omega))
    · obtain ⟨⟨f, hf, ef⟩, _⟩ := zs_at hc (mem_rz (k := a.1) (a := a.2) ha)
      have e1 : dOp ixD (dOp ixD (dVar 0) (dVar 3)) (dC (.int 0)) [some (.pu (trP t)), some (.pu (stP c)), some (.pu (.str x)), some (.pu (.int (a.1 : Int)))] [] = .ok (.pu (.str a.2.1), []) := by
        refine dOp_at (d1 := .pu (foP f)) (dOp_at rfl rfl (ix_tup (by rw [List.getElem?_map, hf]; rfl))) rfl ?_
        rw [← ef]; rfl
      exact dOp_at (d1 := .pu (.str x)) rfl (dCallP2 rfl e1 (around_at T (.inr (by rw [← ef]; exact List.mem_map_of_mem (get_mem hf))))) in_lst
    · obtain ⟨_, hcv⟩ := zs_at hc (mem_rz (k := a.1) (a := a.2) ha)
      exact dOp_at rfl rfl (ix_tup (by rw [List.getElem?_map, hcv]; rfl))
  refine dCall_at e ?_
  have h1 := sum_use T.toTOk (x := x) ((List.range ((nms t).zip c).length).zip ((nms t).zip c)) (fun a ha => by
    obtain ⟨⟨f, hf, ef⟩, _⟩ := zs_at hc (mem_rz (k := a.1) (a := a.2) ha)
    rw [← ef]; exact List.mem_map_of_mem (get_mem hf))
  rw [rz_snd] at h1
  have h2 := ints_map ((((List.range ((nms t).zip c).length).zip ((nms t).zip c)).filter fun a => decide (x ∈ way a.2.1)).map fun a => a.2.2)
  rw [List.map_map] at h2
  show (match (intsP ((((List.range ((nms t).zip c).length).zip ((nms t).zip c)).filter fun a => decide (x ∈ way a.2.1)).map fun a => P.int a.2.2)).map fun ns => P.int ns.sum with | some p => R.ok (D.pu p, []) | none => .stuck) = _
  rw [show (fun a : Nat × (Str × Int) => P.int a.2.2) = P.int ∘ fun a => a.2.2 from rfl, h2]
  show R.ok (D.pu (.int _), []) = _
  rw [h1]
theorem uses_law (T : TG t way) (hc : c.length = t.length) : pf f__law_uses [.pu (trP t), .pu (stP c)] = some (.lst (t.map fun f => .int (use way ((nms t).zip c) f.1))) := by
  refine pf_at (φ := f__law_uses) (ih := []) (dFn_rt (b := b__law_uses) (dSeq_rt (dRet_at ?_)))
  exact lc_all (c := foP) (l := t) (fun f => [some (.pu (trP t)), some (.pu (stP c)), some (.pu (foP f))]) (fun f => .int (use way ((nms t).zip c) f.1)) rfl T.sl (fun _ _ => rfl) (fun f hf => dCallP3 rfl rfl (dOp_at (d1 := .pu (foP f)) rfl rfl rfl) (use_at T hc))
/-- what a move enters -/
def ent' (way : Str → List Str) (m : Str × Str) : List Str := isort (fun a b => leP (.str a) (.str b)) ((way m.2).filter fun x => !decide (x ∈ way m.1))
theorem mem_ent {m : Str × Str} {x : Str} : x ∈ ent' way m ↔ x ∈ way m.2 ∧ x ∉ way m.1 := by
  unfold ent'
  rw [(isort_perm _).mem_iff, List.mem_filter]
  simp
theorem enters_at (T : TG t way) {m : Str × Str} (h1 : spot t m.1) (h2 : spot t m.2) : pf f__law_enters [.pu (trP t), .pu (mvP m)] = some (.tup ((ent' way m).map sP)) := by
  refine pf_at (φ := f__law_enters) (ih := []) (dFn_rt (b := b__law_enters) ?_)
  refine (dSeq_at (dSet_at (dCallP2 rfl (dOp_at (d1 := .pu (mvP m)) rfl rfl rfl) (around_at T h1)))).trans (dSeq_rt (dRet_at ?_))
  have e : dLc false (gN 3) (iAny (dCallP 2 f__law_around [] [(dVar 0), (dOp ixD (dVar 1) (dC (.int 1)))])) (some (dOp notInKD (dVar 3) (dVar 2))) (dVar 3) [3] [some (.pu (trP t)), some (.pu (mvP m)), some (.pu (.lst ((way m.1).map sP))), none] [] = .ok (.pu (.lst (((way m.2).filter fun x => !decide (x ∈ way m.1)).map .str)), []) := by
    refine lc_at (c := sP) (l := way m.2) (fun x => [some (.pu (trP t)), some (.pu (mvP m)), some (.pu (.lst ((way m.1).map sP))), some (.pu (.str x))]) (fun x => !decide (x ∈ way m.1)) (fun x => .str x) ?_ (Nat.le_of_lt (sl100 (by have := T.len m.2; omega))) (fun _ _ => rfl) (fun x _ => tests_at (dOp_at rfl rfl notIn_lst)) (fun _ _ _ => rfl)
    unfold iAny; rw [dCallP2 rfl (dOp_at (d1 := .pu (mvP m)) rfl rfl rfl) (around_at T h2)]; rfl
  have cs : canSort (((way m.2).filter fun x => !decide (x ∈ way m.1)).map .str) = true := canSort_strs fun x hx => T.sok x (T.sub' h2 (List.mem_filter.mp hx).1)
  have es : dCall srtA [dLc false (gN 3) (iAny (dCallP 2 f__law_around [] [(dVar 0), (dOp ixD (dVar 1) (dC (.int 1)))])) (some (dOp notInKD (dVar 3) (dVar 2))) (dVar 3) [3]] [some (.pu (trP t)), some (.pu (mvP m)), some (.pu (.lst ((way m.1).map sP))), none] [] = .ok (.pu (.lst ((ent' way m).map sP)), []) := by
    refine dCall_at e ?_
    show (if canSort (((way m.2).filter fun x => !decide (x ∈ way m.1)).map .str) = true then R.ok (D.pu (.lst (isort leP (((way m.2).filter fun x => !decide (x ∈ way m.1)).map .str))), []) else .stuck) = _
    rw [if_pos cs]
    unfold ent'
    rw [isort_map (le := fun a b => leP (.str a) (.str b)) (s := leP) sP (fun _ _ => rfl)]; rfl
  exact dCall_at es rfl
theorem leaves_at (T : TG t way) {m : Str × Str} (h1 : spot t m.1) (h2 : spot t m.2) : pf f__law_leaves [.pu (trP t), .pu (mvP m)] = some (.tup ((ent' way (m.2, m.1)).map sP)) :=
  pf_at (φ := f__law_leaves) (ih := []) (dFn_rt (b := b__law_leaves) (dSeq_rt (dRet_at (dCallP2 (p2 := mvP (m.2, m.1)) rfl rfl (enters_at T (m := (m.2, m.1)) h2 h1)))))
end
section
variable {t : List Fo} {way : Str → List Str} {c : List Int} {l : List (Str × Str)}
def stepL (t : List Fo) (c : List Int) (x : Str) (d : Int) : List Int := ((nms t).zip c).map fun q => q.2 + (if q.1 = x then d else 0)
theorem stepL_len {x : Str} {d : Int} (hc : c.length = t.length) : (stepL t c x d).length = t.length := by
  unfold stepL; rw [List.length_map, List.length_zip, nms_len]; omega
theorem stepL_get {x : Str} {d : Int} (hc : c.length = t.length) {i : Nat} (hi : i < t.length) : (stepL t c x d)[i]'(by rw [stepL_len hc]; exact hi) = c[i]'(by omega) + (if (nms t)[i]'(by rw [nms_len]; exact hi) = x then d else 0) := by
  unfold stepL; rw [List.getElem_map, List.getElem_zip]
theorem mvS_get {m : Str × Str} (hc : c.length = t.length) {i : Nat} (hi : i < t.length) : (mvS t c m)[i]'(by rw [mvS_len hc]; exact hi) = c[i]'(by omega) + (if (nms t)[i]'(by rw [nms_len]; exact hi) = m.2 then 1 else 0) - (if (nms t)[i]'(by rw [nms_len]; exact hi) = m.1 then 1 else 0) := by
  unfold mvS; rw [List.getElem_map, List.getElem_zip]
theorem mvS_step {m : Str × Str} (hc : c.length = t.length) : mvS t c m = stepL t (stepL t c m.1 (-1)) m.2 1 := by
  have h1 := stepL_len (x := m.1) (d := -1) hc
  refine List.ext_getElem (by rw [mvS_len hc, stepL_len h1]) fun i hi hj => ?_
  have hi' : i < t.length := by rw [mvS_len hc] at hi; exact hi
  rw [stepL_get h1 hi', stepL_get hc hi', mvS_get hc hi']
  split <;> split <;> omega
theorem step_none (T : TOk t way) {d : Int} (hc : c.length = t.length) : stepL t c "" d = c := by
  refine List.ext_getElem (by rw [stepL_len hc, hc]) fun i hi hj => ?_
  have hi' : i < t.length := by rw [stepL_len hc] at hi; exact hi
  rw [stepL_get hc hi', if_neg (name_ne T (List.getElem_mem _))]; omega
theorem step_set (T : TOk t way) {x : Str} {d : Int} (hc : c.length = t.length) {j : Nat} (hj : (nms t)[j]? = some x) : ∃ h : j < c.length, c.set j (c[j] + d) = stepL t c x d := by
  obtain ⟨h1, h2⟩ := List.getElem?_eq_some_iff.mp hj
  rw [nms_len] at h1
  refine ⟨by omega, List.ext_getElem (by rw [List.length_set, stepL_len hc, hc]) fun i hi hi2 => ?_⟩
  have hi' : i < t.length := by rw [stepL_len hc] at hi2; exact hi2
  rw [stepL_get hc hi', List.getElem_set]
  by_cases e : j = i
  · subst e; rw [if_pos rfl, if_pos h2]
  · rw [if_neg e, if_neg (fun z => e ?_)]
    · omega
    · exact (List.getElem_inj T.nd).mp (h2.trans z.symm)
theorem place_at {x : Str} : ∀ {ys : List Str}, x ∈ ys → ∃ j, placeB (fun z => eqP z (.str x)) (ys.map sP) = some j ∧ ys[j]? = some x
  | [], h => by cases h
  | y :: ys, h => by
    by_cases e : y = x
    · refine ⟨0, ?_, by rw [e]; rfl⟩
      rw [List.map_cons, placeB]
      have : eqP (sP y) (.str x) = true := by show (y == x) = true; rw [e]; simp
      rw [if_pos this]
    · have hm : x ∈ ys := by
        rcases List.mem_cons.mp h with z | z
        · exact absurd z.symm e
        · exact z
      obtain ⟨j, e1, e2⟩ := place_at hm
      refine ⟨j + 1, ?_, e2⟩
      rw [List.map_cons, placeB]
      have : eqP (sP y) (.str x) = false := by show (y == x) = false; exact beq_eq_false_iff_ne.mpr e
      rw [if_neg (by rw [this]; exact Bool.false_ne_true), e1]; rfl
theorem index_at {env : Ev} {ih : IH} {f g : Ev → IH → R (D × IH)} {x : Str} {ys : List Str} (h1 : f env ih = .ok (.pu (.lst (ys.map sP)), ih)) (h2 : g env ih = .ok (.pu (.str x), ih)) (hs : ∀ y ∈ ys, PyData.strOk y = true) (hx : x ∈ ys) : ∃ j : Nat, dMe isL idxL f [g] env ih = .ok (.pu (.int (j : Int)), ih) ∧ ys[j]? = some x := by
  obtain ⟨j, e1, e2⟩ := place_at hx
  refine ⟨j, ?_, e2⟩
  have s1 : shp (.lst (ys.map sP)) = true := shp_lst hs
  have s2 : shp (.str x) = true := by
    show (PyData.strOk x && decide (0 ≤ 64)) = true
    rw [hs x hx]; rfl
  unfold dMe; rw [h1]
  show (dArgs [g] env ih).bind (fun r => idxL (.pu (.lst (ys.map sP))) r.1 r.2) = _
  rw [dArgs1 h2]
  show (if (shp (.lst (ys.map sP)) && shp (.str x)) = true then (match placeB (fun z => eqP z (.str x)) (ys.map sP) with | some j => R.ok (D.pu (.int (j : Nat)), ih) | none => .stuck) else .stuck) = _
  rw [s1, s2]
  refine Eq.trans (if_pos (by rfl)) ?_
  rw [e1]
theorem ix_box {n : Nat} {ih : IH} {c : List Int} (h : ih[n]? = some (.lst (c.map fun z => .pu (.int z)))) {j : Nat} (hj : j < c.length) : ixD (.ref n) (.pu (.int (j : Int))) ih = .ok (.pu (.int c[j]), ih) := by
  unfold ixD; simp only [h]; unfold ixL; simp only [h]
  rw [atI_nat (k := j) (a := .pu (.int c[j])) (by rw [List.getElem?_map, List.getElem?_eq_getElem hj]; rfl)]
theorem put_box {n : Nat} {ih : IH} {c : List Int} (h : ih[n]? = some (.lst (c.map fun z => .pu (.int z)))) {j : Nat} (hj : j < c.length) (v : Int) : putC (.ref n) (.pu (.int (j : Int))) (.pu (.int v)) ih = some (ih.set n (.lst ((c.set j v).map fun z => .pu (.int z)))) := by
  unfold putC; simp only [h]
  have : ixN (c.map fun z => D.pu (.int z)).length (j : Int) = some j := by
    unfold ixN; rw [List.length_map, if_pos (by omega), if_pos (by omega), Int.toNat_natCast]
  simp only [this, List.map_set]
theorem dPar_at2 {i j : Nat} {env : Ev} {ih ih1 ih2 : IH} {f h : Ev → IH → R (D × IH)} {d1 d2 : D} (e1 : f env ih = .ok (d1, ih1)) (e2 : h env ih1 = .ok (d2, ih2)) : dPar i j f h env ih = .nx ((env.set i (some d1)).set j (some d2)) ih2 := by
  unfold dPar; rw [dArgs2 e1 e2]; rfl
theorem moved_at (T : TG t way) {m : Str × Str} (hc : c.length = t.length) (h1 : spot t m.1) (h2 : spot t m.2) : pf f__law_moved [.pu (trP t), .pu (stP c), .pu (mvP m)] = some (stP (mvS t c m)) := by
  have hl1 := stepL_len (x := m.1) (d := -1) hc
  have hl2 := stepL_len (x := m.2) (d := 1) hl1
  refine pf_at (φ := f__law_moved) (ih := [.dead]) (dFn_rt (b := b__law_moved) ?_)
  have e1 : dLc false (gN 6) (iAny (dVar 0)) none (dOp ixD (dVar 6) (dC (.int 0))) [6] (ent 7 [.pu (trP t), .pu (stP c), .pu (mvP m)]) [] = .ok (.pu (.lst ((nms t).map sP)), []) := by
    have r := lc_all (hh := gN 6) (src := iAny (dVar 0)) (e := dOp ixD (dVar 6) (dC (.int 0))) (vs := [6]) (env := ent 7 [.pu (trP t), .pu (stP c), .pu (mvP m)]) (ih := []) (c := foP) (l := t) (fun f => [some (.pu (trP t)), some (.pu (stP c)), some (.pu (mvP m)), none, none, none, some (.pu (foP f))]) (fun f => .str f.1) rfl T.sl (fun _ _ => rfl) (fun _ _ => rfl)
    rw [r]; unfold nms; rw [List.map_map]; rfl
  refine (dSeq_at (dPar_at2 e1 (d2 := .ref 0) (ih2 := [.lst (c.map fun z => .pu (.int z))]) ?_)).trans ?_
  · show R.ok (D.ref 0, [Cl.lst ((c.map P.int).map .pu)]) = _
    rw [List.map_map]; rfl
  have go1 : ∃ y5, (dIfS (dOp neD (dOp ixD (dVar 2) (dC (.int 0))) (dC (.str "")))
      (dSeq (dSet 5 (dMe isL idxL (dVar 3) [(dOp ixD (dVar 2) (dC (.int 0)))]))
      (dSeq (dPut (dVar 4) (dVar 5) (dOp subD (dOp ixD (dVar 4) (dVar 5)) (dC (.int 1))))
      dNx))
      dNx) [some (.pu (trP t)), some (.pu (stP c)), some (.pu (mvP m)), some (.pu (.lst ((nms t).map sP))), some (.ref 0), none, none] [.lst (c.map fun z => .pu (.int z))] = .nx [some (.pu (trP t)), some (.pu (stP c)), some (.pu (mvP m)), some (.pu (.lst ((nms t).map sP))), some (.ref 0), y5, none] [.lst ((stepL t c m.1 (-1)).map fun z => .pu (.int z))] := by
    rw [dIfS_at (dOp_at (d1 := .pu (.str m.1)) (dOp_at (d1 := .pu (mvP m)) rfl rfl rfl) rfl ne_str)]
    by_cases hm : m.1 = ""
    · refine ⟨none, ?_⟩
      rw [decide_eq_true hm, hm, step_none T.toTOk hc]; rfl
    · rw [decide_eq_false hm]
      obtain ⟨j, ej, hj⟩ := index_at (f := dVar 3) (g := dOp ixD (dVar 2) (dC (.int 0))) (env := [some (.pu (trP t)), some (.pu (stP c)), some (.pu (mvP m)), some (.pu (.lst ((nms t).map sP))), some (.ref 0), none, none]) (ih := [.lst (c.map fun z => .pu (.int z))]) (x := m.1) (ys := nms t) rfl (dOp_at (d1 := .pu (mvP m)) rfl rfl rfl) T.sok (h1.resolve_left hm)
      obtain ⟨hjc, es⟩ := step_set T.toTOk (d := -1) hc hj
      refine ⟨some (.pu (.int j)), ?_⟩
      refine (dSeq_at (dSet_at ej)).trans ((dSeq_at (dPut_at (v := .pu (.int (c[j] + -1))) (dOp_at (dOp_at rfl rfl (ix_box rfl hjc)) rfl rfl) rfl rfl (put_box rfl hjc _))).trans ?_)
      rw [es]; rfl
  obtain ⟨y5, go1⟩ := go1
  refine (dSeq_at go1).trans ?_
  have go2 : ∃ z5, (dIfS (dOp neD (dOp ixD (dVar 2) (dC (.int 1))) (dC (.str "")))
      (dSeq (dSet 5 (dMe isL idxL (dVar 3) [(dOp ixD (dVar 2) (dC (.int 1)))]))
      (dSeq (dPut (dVar 4) (dVar 5) (dOp addD (dOp ixD (dVar 4) (dVar 5)) (dC (.int 1))))
      dNx))
      dNx) [some (.pu (trP t)), some (.pu (stP c)), some (.pu (mvP m)), some (.pu (.lst ((nms t).map sP))), some (.ref 0), y5, none] [.lst ((stepL t c m.1 (-1)).map fun z => .pu (.int z))] = .nx [some (.pu (trP t)), some (.pu (stP c)), some (.pu (mvP m)), some (.pu (.lst ((nms t).map sP))), some (.ref 0), z5, none] [.lst ((mvS t c m).map fun z => .pu (.int z))] := by
    rw [dIfS_at (dOp_at (d1 := .pu (.str m.2)) (dOp_at (d1 := .pu (mvP m)) rfl rfl rfl) rfl ne_str), mvS_step hc]
    by_cases hm : m.2 = ""
    · refine ⟨y5, ?_⟩
      rw [decide_eq_true hm, hm, step_none T.toTOk hl1]; rfl
    · rw [decide_eq_false hm]
      obtain ⟨j, ej, hj⟩ := index_at (f := dVar 3) (g := dOp ixD (dVar 2) (dC (.int 1))) (env := [some (.pu (trP t)), some (.pu (stP c)), some (.pu (mvP m)), some (.pu (.lst ((nms t).map sP))), some (.ref 0), y5, none]) (ih := [.lst ((stepL t c m.1 (-1)).map fun z => .pu (.int z))]) (x := m.2) (ys := nms t) rfl (dOp_at (d1 := .pu (mvP m)) rfl rfl rfl) T.sok (h2.resolve_left hm)
      obtain ⟨hjc, es⟩ := step_set T.toTOk (d := 1) hl1 hj
      refine ⟨some (.pu (.int j)), ?_⟩
      refine (dSeq_at (dSet_at ej)).trans ((dSeq_at (dPut_at (v := .pu (.int ((stepL t c m.1 (-1))[j] + 1))) (dOp_at (dOp_at rfl rfl (ix_box rfl hjc)) rfl rfl) rfl rfl (put_box rfl hjc _))).trans ?_)
      rw [es]; rfl
  obtain ⟨z5, go2⟩ := go2
  refine (dSeq_at go2).trans ?_
  have e2 : ([.lst ((mvS t c m).map fun n => .pu (.int n))] : IH)[0]? = some (.lst (((mvS t c m).map P.int).map .pu)) := by rw [List.map_map]; rfl
  refine dSeq_rt ((dSeq_at (env' := [some (.pu (trP t)), some (.pu (stP c)), some (.pu (mvP m)), some (.pu (.lst ((nms t).map sP))), some (.pu (.lst ((mvS t c m).map P.int))), z5, none]) (ih' := [.dead]) ?_).trans (dRet_at rfl))
  show (match frz 8 [.lst ((mvS t c m).map fun n => .pu (.int n))] (.ref 0) with | some (p, ih') => RS.nx _ ih' | none => .stuck) = _
  rw [frz_lst e2]; rfl
theorem law_end (T : TG t way) : ∀ (l : List (Str × Str)) (c : List Int) (e2 x3 : Option D), c.length = t.length → (∀ m ∈ l, spot t m.1 ∧ spot t m.2) → ∃ y3, dForL (gN 3) (dSeq (dSet 1 (dCallP 3 f__law_moved [] [(dVar 0), (dVar 1), (dVar 3)])) dNx) [] (l.map mvP) [some (.pu (trP t)), some (.pu (stP c)), e2, x3] [] = .nx [some (.pu (trP t)), some (.pu (stP (endS t c l))), e2, y3] []
  | [], c, e2, x3, _, _ => ⟨x3, rfl⟩
  | m :: l, c, e2, x3, hc, hs => by
    obtain ⟨y3, e⟩ := law_end T l (mvS t c m) e2 (some (.pu (mvP m))) (mvS_len hc) (fun z hz => hs z (.tail _ hz))
    refine ⟨y3, ?_⟩
    rw [List.map_cons, dForL]
    show (match (dSeq (dSet 1 (dCallP 3 f__law_moved [] [(dVar 0), (dVar 1), (dVar 3)])) dNx) [some (.pu (trP t)), some (.pu (stP c)), e2, some (.pu (mvP m))] [] with
        | .nx env' ih' => dForL (gN 3) (dSeq (dSet 1 (dCallP 3 f__law_moved [] [(dVar 0), (dVar 1), (dVar 3)])) dNx) [] (l.map mvP) (wipeE [] env') ih'
        | .ct env' ih' => dForL (gN 3) (dSeq (dSet 1 (dCallP 3 f__law_moved [] [(dVar 0), (dVar 1), (dVar 3)])) dNx) [] (l.map mvP) (wipeE [] env') ih'
        | .bk env' ih' => .nx env' ih'
        | r => r) = _
    rw [(dSeq_at (dSet_at (dCallP3 rfl rfl rfl (moved_at T hc (hs m (.head _)).1 (hs m (.head _)).2)))).trans rfl]
    exact e
theorem end_at (T : TG t way) (hc : c.length = t.length) (hs : ∀ m ∈ l, spot t m.1 ∧ spot t m.2) : pf f__law_end [.pu (trP t), .pu (stP c), .pu (loP l)] = some (stP (endS t c l)) := by
  obtain ⟨y3, e⟩ := law_end T l c (some (.pu (loP l))) none hc hs
  refine pf_at (φ := f__law_end) (ih := []) (dFn_rt (b := b__law_end) ?_)
  exact (dSeq_at (env' := [some (.pu (trP t)), some (.pu (stP (endS t c l))), some (.pu (loP l)), y3]) (ih' := []) e).trans (dSeq_rt (dRet_at rfl))
/-! ### the sum of what enters and leaves -/
theorem use_step (T : TOk t way) {x y : Str} {d : Int} (hc : c.length = t.length) (hx : spot t x) : use way ((nms t).zip (stepL t c x d)) y = use way ((nms t).zip c) y + d * ((way x).count y : Int) := by
  have key : ∀ (ns : List Str) (cs : List Int), ns.Nodup → cs.length = ns.length → use way (ns.zip ((ns.zip cs).map fun q => q.2 + (if q.1 = x then d else 0))) y = use way (ns.zip cs) y + d * (if x ∈ ns then ((way x).count y : Int) else 0) := by
    intro ns
    induction ns with
    | nil => intro cs _ _; simp [use]
    | cons n ns e =>
      intro cs nd hl
      cases cs with
      | nil => simp at hl
      | cons a cs =>
        rw [List.nodup_cons] at nd
        have r := e cs nd.2 (by simpa using hl)
        simp only [List.zip_cons_cons, List.map_cons, use, List.sum_cons] at r ⊢
        rw [r]
        by_cases hn : n = x
        · subst hn
          rw [if_pos rfl, if_neg nd.1, if_pos (List.mem_cons_self)]
          rw [Int.add_mul]; omega
        · rw [if_neg hn]
          by_cases hm : x ∈ ns
          · rw [if_pos hm, if_pos (List.mem_cons_of_mem _ hm)]; simp; omega
          · rw [if_neg hm, if_neg (fun z => by rcases List.mem_cons.mp z with q | q; exact hn q.symm; exact hm q)]; simp
  have r := key (nms t) c T.nd (by rw [nms_len]; exact hc)
  show use way ((nms t).zip (((nms t).zip c).map fun q => q.2 + (if q.1 = x then d else 0))) y = _
  rw [r]
  rcases hx with e | hx
  · rw [e, T.w0]; simp
  · rw [if_pos hx]
theorem count01 (T : TOk t way) {x y : Str} (hx : spot t x) : ((way x).count y : Int) = if y ∈ way x then 1 else 0 := by
  have nd : (way x).Nodup := by
    rcases hx with e | hx
    · rw [e, T.w0]; exact List.nodup_nil
    · exact T.ndw x hx
  by_cases h : y ∈ way x
  · rw [if_pos h]
    have h1 := List.nodup_iff_count.mp nd y
    have h2 := List.count_pos_iff.mpr h
    omega
  · rw [if_neg h, List.count_eq_zero_of_not_mem h]; rfl
theorem use_end (T : TOk t way) {y : Str} : ∀ (l : List (Str × Str)) (c : List Int), c.length = t.length → (∀ m ∈ l, spot t m.1 ∧ spot t m.2) →
    use way ((nms t).zip (endS t c l)) y = use way ((nms t).zip c) y + ((l.filter fun m => decide (y ∈ ent' way m)).length : Int) - ((l.filter fun m => decide (y ∈ ent' way (m.2, m.1))).length : Int)
  | [], c, _, _ => by simp [endS]
  | m :: l, c, hc, hs => by
    obtain ⟨s1, s2⟩ := hs m (.head _)
    have r := use_end T (y := y) l (mvS t c m) (mvS_len hc) (fun z hz => hs z (.tail _ hz))
    have h1 := stepL_len (x := m.1) (d := -1) hc
    rw [mvS_step hc, use_step T h1 s2, use_step T hc s1, count01 T s1, count01 T s2] at r
    rw [← mvS_step hc] at r
    show use way ((nms t).zip (endS t (mvS t c m) l)) y = _
    rw [r, List.filter_cons, List.filter_cons]
    have e1 : decide (y ∈ ent' way m) = (decide (y ∈ way m.2) && !decide (y ∈ way m.1)) := by
      rw [← decide_not, ← Bool.decide_and]; exact decide_eq_decide.mpr mem_ent
    have e2 : decide (y ∈ ent' way (m.2, m.1)) = (decide (y ∈ way m.1) && !decide (y ∈ way m.2)) := by
      rw [← decide_not, ← Bool.decide_and]; exact decide_eq_decide.mpr mem_ent
    rw [e1, e2]
    by_cases a : y ∈ way m.1 <;> by_cases b : y ∈ way m.2 <;> simp [a, b] <;> omega
end
/-! ### data that can be shown -/
structure GD (p : P) (k w : Nat) : Prop where
  lay : PyData.canLay0 (pd p) = true
  dep : PyData.depth (pd p) ≤ k
  sht : PyData.intsShort 310 (pd p) = true
  sho : PyData.showable (pd p) = true
  wt : PyData.weight (pd p) ≤ w
theorem GD.int {i : Int} (h : i.natAbs.log2 < 300) : GD (.int i) 0 301 := by
  refine ⟨rfl, Nat.le_refl _, ?_, ?_, ?_⟩
  · show decide ((PyData.shown (.int i)).length ≤ 310) = true
    refine decide_eq_true ?_
    have h1 := int_text_length_le (a := i) (k := 300) (by decide) h
    have e : (PyData.shown (.int i)).length = (toString i).length := by
      exact PySem.ofString_length _
    omega
  · show decide (i.natAbs.log2 < 1920) = true
    exact decide_eq_true (by omega)
  · show (if i == 0 then 0 else i.natAbs.log2 + 1) ≤ 301
    split <;> omega
theorem GD.str {x : Str} (h : PyData.strOk x = true) (hs : x.cps.size ≤ 10) : GD (.str x) 0 10 := ⟨h, Nat.le_refl _, rfl, rfl, hs⟩
theorem GD.bl {b : Bool} : GD (.bl b) 0 0 := ⟨rfl, Nat.le_refl _, rfl, rfl, Nat.le_refl _⟩
theorem GD.mono {p : P} {k w k' w' : Nat} (g : GD p k w) (hk : k ≤ k') (hw : w ≤ w') : GD p k' w' := ⟨g.lay, Nat.le_trans g.dep hk, g.sht, g.sho, Nat.le_trans g.wt hw⟩
theorem GD.all : ∀ {ps : List P} {k w : Nat}, (∀ p ∈ ps, GD p k w) → PyData.canLayAll0 (pds ps) = true ∧ PyData.depthAll (pds ps) ≤ k ∧ PyData.intsShortAll 310 (pds ps) = true ∧ PyData.showableAll (pds ps) = true ∧ PyData.weightAll (pds ps) ≤ (w + 1) * ps.length
  | [], k, w, _ => ⟨rfl, Nat.zero_le _, rfl, rfl, Nat.zero_le _⟩
  | p :: ps, k, w, h => by
    obtain ⟨a, b, c, d, e⟩ := GD.all (ps := ps) fun q hq => h q (.tail _ hq)
    have g := h p (.head _)
    refine ⟨?_, ?_, ?_, ?_, ?_⟩
    · show (PyData.canLay0 (pd p) && PyData.canLayAll0 (pds ps)) = true
      rw [g.lay, a]; rfl
    · show max (PyData.depth (pd p)) (PyData.depthAll (pds ps)) ≤ k
      exact Nat.max_le.mpr ⟨g.dep, b⟩
    · show (PyData.intsShort 310 (pd p) && PyData.intsShortAll 310 (pds ps)) = true
      rw [g.sht, c]; rfl
    · show (PyData.showable (pd p) && PyData.showableAll (pds ps)) = true
      rw [g.sho, d]; rfl
    · show PyData.weight (pd p) + 1 + PyData.weightAll (pds ps) ≤ (w + 1) * (ps.length + 1)
      have := g.wt
      rw [Nat.mul_add]; omega
theorem GD.tup {ps : List P} {k w : Nat} (h : ∀ p ∈ ps, GD p k w) : GD (.tup ps) (k + 1) ((w + 1) * ps.length) := by
  obtain ⟨a, b, c, d, e⟩ := GD.all h
  exact ⟨a, Nat.succ_le_succ b, c, d, e⟩
theorem GD.lst {ps : List P} {k w : Nat} (h : ∀ p ∈ ps, GD p k w) : GD (.lst ps) (k + 1) ((w + 1) * ps.length) := by
  obtain ⟨a, b, c, d, e⟩ := GD.all h
  exact ⟨a, Nat.succ_le_succ b, c, d, e⟩
theorem GD.shp {p : P} {k w : Nat} (g : GD p k w) (hk : k ≤ 64) : shp p = true := by
  show (PyData.canLay0 (pd p) && decide (PyData.depth (pd p) ≤ 64)) = true
  rw [g.lay, decide_eq_true (Nat.le_trans g.dep hk)]; rfl
theorem GD.rep {p : P} {k w : Nat} (g : GD p k w) (hk : k ≤ 64) (hw : w ≤ 53000) {ih : IH} : repD [.pu p] ih = .ok (.pu (.str (pd p).shown), ih) := by
  have hl := PyData.shown_le 310 (by decide) (pd p) (PyData.leavesShort_of_canLay0 310 (pd p) g.lay g.sht)
  have hz : (pd p).shown.length ≤ SL := by
    have h1 := g.wt
    have h2 : (310 + 2) * (pd p).weight ≤ 312 * 53000 := Nat.mul_le_mul_left _ (by omega)
    show _ ≤ 16777216
    omega
  show (if (Dn.shp p && ((pd p).showable && decide ((pd p).shown.length ≤ SL))) = true then R.ok (D.pu (.str (pd p).shown), ih) else .stuck) = _
  rw [g.shp hk, g.sho, decide_eq_true hz]
  exact if_pos (by rfl)

/-! ### what is known of a case -/
structure CG (t : List Fo) (c : List Int) (l : List (Str × Str)) : Prop where
  few : t.length ≤ 12
  nsz : ∀ x ∈ nms t, x.cps.size ≤ 10
  rsz : ∀ f ∈ t, f.2.2.natAbs.log2 < 300
  csz : ∀ n ∈ c, n.natAbs ≤ 1000
section
variable {t : List Fo} {way : Str → List Str} {c : List Int} {l : List (Str × Str)}
theorem log_small {n : Int} (h : n.natAbs ≤ 100000) : n.natAbs.log2 < 300 := by
  have : n.natAbs.log2 ≤ n.natAbs := Nat.log2_le_self _
  rcases Nat.eq_zero_or_pos n.natAbs with z | z
  · rw [z]; decide
  · refine (Nat.log2_lt (by omega)).mpr (Nat.lt_of_le_of_lt h ?_)
    decide +kernel
theorem GD.spot (T : TG t way) (C : CG t c l) {x : Str} (h : spot t x) : GD (.str x) 0 10 := by
  refine GD.str (sok_spot T h) ?_
  rcases h with e | h
  · rw [e]; decide +kernel
  · exact C.nsz x h
theorem GD.tr (T : TG t way) (C : CG t c l) : GD (trP t) 2 11000 := by
  have h := GD.tup (ps := t.map foP) (k := 1) (w := 906) (fun p hp => by
    obtain ⟨f, hf, rfl⟩ := List.mem_map.mp hp
    refine (GD.tup (ps := [.str f.1, .str f.2.1, .int f.2.2]) (k := 0) (w := 301) (fun q hq => ?_)).mono (by decide) (by simp)
    rcases List.mem_cons.mp hq with e | hq
    · rw [e]; exact (GD.spot T C (.inr (List.mem_map_of_mem hf))).mono (Nat.le_refl _) (by decide)
    rcases List.mem_cons.mp hq with e | hq
    · rw [e]; exact (GD.spot T C (T.par f hf)).mono (Nat.le_refl _) (by decide)
    · rw [List.mem_singleton.mp hq]; exact GD.int (C.rsz f hf))
  refine h.mono (by decide) ?_
  rw [List.length_map]
  have := C.few
  have h2 : (906 + 1) * t.length ≤ 907 * 12 := Nat.mul_le_mul_left _ this
  omega
theorem GD.st {e : List Int} (hl : e.length ≤ 12) (h : ∀ n ∈ e, n.natAbs ≤ 100000) : GD (stP e) 1 4000 := by
  have g := GD.tup (ps := e.map P.int) (k := 0) (w := 301) (fun p hp => by
    obtain ⟨n, hn, rfl⟩ := List.mem_map.mp hp
    exact GD.int (log_small (h n hn)))
  refine g.mono (by decide) ?_
  rw [List.length_map]
  have h2 : (301 + 1) * e.length ≤ 302 * 12 := Nat.mul_le_mul_left _ hl
  omega
theorem GD.lo (T : TG t way) (C : CG t c l) (L : LOk t c l) : GD (loP l) 2 3000 := by
  have h := GD.tup (ps := l.map mvP) (k := 1) (w := 22) (fun p hp => by
    obtain ⟨m, hm, rfl⟩ := List.mem_map.mp hp
    refine (GD.tup (ps := [.str m.1, .str m.2]) (k := 0) (w := 10) (fun q hq => ?_)).mono (by decide) (by simp)
    rcases List.mem_cons.mp hq with e | hq
    · rw [e]; exact GD.spot T C (L.src m hm)
    · rw [List.mem_singleton.mp hq]; exact GD.spot T C (L.tgt m hm))
  refine h.mono (by decide) ?_
  rw [List.length_map]
  have h2 : (22 + 1) * l.length ≤ 23 * 100 := Nat.mul_le_mul_left _ L.lt
  omega
theorem GD.nm (T : TG t way) (C : CG t c l) (e : List Int) : GD (nmsP (mis t way e)) 1 200 := by
  have h := GD.tup (ps := (mis t way e).map sP) (k := 0) (w := 10) (fun p hp => by
    obtain ⟨x, hx, rfl⟩ := List.mem_map.mp hp
    obtain ⟨f, hf, rfl⟩ := List.mem_map.mp hx
    exact GD.spot T C (.inr (List.mem_map_of_mem (List.mem_filter.mp hf).1)))
  refine h.mono (by decide) ?_
  rw [List.length_map]
  have h1 := List.length_filter_le (fun f : Fo => decide (f.2.2 < use way ((nms t).zip e) f.1)) t
  have h3 : (mis t way e).length ≤ 12 := by unfold mis; rw [List.length_map]; have := C.few; omega
  have h2 : (10 + 1) * (mis t way e).length ≤ 11 * 12 := Nat.mul_le_mul_left _ h3
  omega
theorem endS_abs (hc : c.length = t.length) : ∀ (l : List (Str × Str)) (c : List Int) (B : Nat), (∀ n ∈ c, n.natAbs ≤ B) → ∀ n ∈ endS t c l, n.natAbs ≤ B + l.length
  | [], c, B, h => h
  | m :: l, c, B, h => fun n hn => by
    have h1 : ∀ n ∈ mvS t c m, n.natAbs ≤ B + 1 := fun n hn => by
      obtain ⟨q, hq, rfl⟩ := List.mem_map.mp hn
      have := h q.2 (List.of_mem_zip hq).2
      split <;> split <;> omega
    have := endS_abs hc l (mvS t c m) (B + 1) h1 n hn
    rw [List.length_cons]; omega
theorem same_at {p : P} {k w : Nat} (g : GD p k w) (hk : k ≤ 64) (hw : w ≤ 53000) : pf f__law_same [.pu p, .pu p] = some (.bl true) := by
  refine pf_at (φ := f__law_same) (ih := []) (dFn_rt (b := b__law_same) (dSeq_rt (dRet_at ?_)))
  rw [dOp_at (dCall_at (f := dVar 0) rfl (g.rep hk hw)) (dCall_at (f := dVar 1) rfl (g.rep hk hw)) eq_str, decide_eq_true rfl]
end
section
variable {t : List Fo} {way : Str → List Str} {c : List Int} {l : List (Str × Str)}
theorem dCallKP3 {pm : List Nat} {env : Ev} {ih : IH} {f1 f2 f3 : Ev → IH → R (D × IH)} {φ : List D → IH → R (D × IH)} {p1 p2 p3 q1 q2 q3 q : P} (e1 : f1 env ih = .ok (.pu p1, ih)) (e2 : f2 env ih = .ok (.pu p2, ih)) (e3 : f3 env ih = .ok (.pu p3, ih)) (hp : pick pm [D.pu p1, .pu p2, .pu p3] = [.pu q1, .pu q2, .pu q3]) (e4 : pf φ [.pu q1, .pu q2, .pu q3] = some q) : dCallKP 3 pm φ [f1, f2, f3] env ih = .ok (.pu q, ih) := by
  unfold dCallKP; rw [dArgs3 e1 e2 e3]
  show (if (apB (pick pm [D.pu p1, .pu p2, .pu p3]) && decide ((pick pm [D.pu p1, .pu p2, .pu p3]).length = 3)) = true then (match pf φ (pick pm [D.pu p1, .pu p2, .pu p3]) with | some p => R.ok (D.pu p, ih) | none => .stuck) else .stuck) = _
  rw [hp]
  show (match pf φ [.pu q1, .pu q2, .pu q3] with | some p => R.ok (D.pu p, ih) | none => .stuck) = _
  rw [e4]
def irB : Ev → IH → RS := (dSeq (dSet 10 (dOp ixD (dOp ixD (dVar 0) (dVar 3)) (dC (.int 0))))
    (dSeq (dSet 11 (dCall lenD [(dLc false (gN 13) (iAny (dVar 2)) (some (dOp inKD (dVar 10) (dCallP 2 f__law_enters [] [(dVar 0), (dVar 13)]))) (dVar 13) [13])]))
    (dSeq (dSet 12 (dCall lenD [(dLc false (gN 13) (iAny (dVar 2)) (some (dOp inKD (dVar 10) (dCallP 2 f__law_leaves [] [(dVar 0), (dVar 13)]))) (dVar 13) [13])]))
    (dSeq (dIfS (dOp neD (dOp ixD (dVar 8) (dVar 3)) (dOp subD (dOp addD (dCallP 3 f__law_use [] [(dVar 0), (dVar 1), (dVar 10)]) (dVar 11)) (dVar 12)))
    (dSeq (dRet (dC (.bl false)))
    dNx)
    dNx)
    (dSeq (dIfS (dOp gtD (dOp ixD (dVar 8) (dVar 3)) (dOp ixD (dOp ixD (dVar 0) (dVar 3)) (dC (.int 2))))
    (dSeq (dExpr (dMe isL appD (dVar 9) [(dVar 10)]))
    dNx)
    dNx)
    dNx)))))
def usP (t : List Fo) (way : Str → List Str) (e : List Int) : P := .lst (t.map fun f => .int (use way ((nms t).zip e) f.1))
theorem ir_loop (T : TG t way) (hc : c.length = t.length) (L : LOk t c l) (k6 k7 : Option D) : ∀ (zs : List (Nat × Fo)) (acc : List Str) (x3 x10 x11 x12 : Option D), (∀ a ∈ zs, t[a.1]? = some a.2) → acc.length + zs.length ≤ 1000 →
    ∃ y3 y10 y11 y12, dForL (gN 3) irB [] (zs.map fun a => .int (a.1 : Int)) [some (.pu (trP t)), some (.pu (stP c)), some (.pu (loP l)), x3, none, none, k6, k7, some (.pu (usP t way (endS t c l))), some (.ref 0), x10, x11, x12, none] [.lst (acc.map fun z => .pu (.str z))] = .nx [some (.pu (trP t)), some (.pu (stP c)), some (.pu (loP l)), y3, none, none, k6, k7, some (.pu (usP t way (endS t c l))), some (.ref 0), y10, y11, y12, none] [.lst ((acc ++ ((zs.map (·.2)).filter fun f => decide (f.2.2 < use way ((nms t).zip (endS t c l)) f.1)).map (·.1)).map fun z => .pu (.str z))]
  | [], acc, x3, x10, x11, x12, _, _ => ⟨x3, x10, x11, x12, by simp [dForL]⟩
  | a :: zs, acc, x3, x10, x11, x12, hz, hl => by
    rw [List.length_cons] at hl
    have hf := hz a (.head _)
    have hmem := get_mem hf
    have sp : ∀ m ∈ l, spot t m.1 ∧ spot t m.2 := fun m hm => ⟨L.src m hm, L.tgt m hm⟩
    have e0 : ∀ (n10 n11 n12 : Option D) (ih : IH), dOp ixD (dOp ixD (dVar 0) (dVar 3)) (dC (.int 0)) [some (.pu (trP t)), some (.pu (stP c)), some (.pu (loP l)), some (.pu (.int (a.1 : Int))), none, none, k6, k7, some (.pu (usP t way (endS t c l))), some (.ref 0), n10, n11, n12, none] ih = .ok (.pu (.str a.2.1), ih) := fun n10 n11 n12 ih => dOp_at (d1 := .pu (foP a.2)) (dOp_at rfl rfl (ix_tup (by rw [List.getElem?_map, hf]; rfl))) rfl rfl
    have eu : ∀ (n10 n11 n12 : Option D) (ih : IH), dOp ixD (dVar 8) (dVar 3) [some (.pu (trP t)), some (.pu (stP c)), some (.pu (loP l)), some (.pu (.int (a.1 : Int))), none, none, k6, k7, some (.pu (usP t way (endS t c l))), some (.ref 0), n10, n11, n12, none] ih = .ok (.pu (.int (use way ((nms t).zip (endS t c l)) a.2.1)), ih) := fun n10 n11 n12 ih => dOp_at rfl rfl (ix_lst (by rw [List.getElem?_map, hf]; rfl))
    have el : ∀ (n11 n12 : Option D) (ih : IH), dLc false (gN 13) (iAny (dVar 2)) (some (dOp inKD (dVar 10) (dCallP 2 f__law_enters [] [(dVar 0), (dVar 13)]))) (dVar 13) [13] [some (.pu (trP t)), some (.pu (stP c)), some (.pu (loP l)), some (.pu (.int (a.1 : Int))), none, none, k6, k7, some (.pu (usP t way (endS t c l))), some (.ref 0), some (.pu (.str a.2.1)), n11, n12, none] ih = .ok (.pu (.lst ((l.filter fun m => decide (a.2.1 ∈ ent' way m)).map mvP)), ih) := fun n11 n12 ih =>
      lc_at (c := mvP) (l := l) (fun m => [some (.pu (trP t)), some (.pu (stP c)), some (.pu (loP l)), some (.pu (.int (a.1 : Int))), none, none, k6, k7, some (.pu (usP t way (endS t c l))), some (.ref 0), some (.pu (.str a.2.1)), n11, n12, some (.pu (mvP m))]) (fun m => decide (a.2.1 ∈ ent' way m)) mvP rfl (Nat.le_of_lt (sl100 (by have := L.lt; omega))) (fun _ _ => rfl) (fun m hm => tests_at (dOp_at (d1 := .pu (.str a.2.1)) rfl (dCallP2 rfl rfl (enters_at T (L.src m hm) (L.tgt m hm))) in_tup)) (fun _ _ _ => rfl)
    have er : ∀ (n11 n12 : Option D) (ih : IH), dLc false (gN 13) (iAny (dVar 2)) (some (dOp inKD (dVar 10) (dCallP 2 f__law_leaves [] [(dVar 0), (dVar 13)]))) (dVar 13) [13] [some (.pu (trP t)), some (.pu (stP c)), some (.pu (loP l)), some (.pu (.int (a.1 : Int))), none, none, k6, k7, some (.pu (usP t way (endS t c l))), some (.ref 0), some (.pu (.str a.2.1)), n11, n12, none] ih = .ok (.pu (.lst ((l.filter fun m => decide (a.2.1 ∈ ent' way (m.2, m.1))).map mvP)), ih) := fun n11 n12 ih =>
      lc_at (c := mvP) (l := l) (fun m => [some (.pu (trP t)), some (.pu (stP c)), some (.pu (loP l)), some (.pu (.int (a.1 : Int))), none, none, k6, k7, some (.pu (usP t way (endS t c l))), some (.ref 0), some (.pu (.str a.2.1)), n11, n12, some (.pu (mvP m))]) (fun m => decide (a.2.1 ∈ ent' way (m.2, m.1))) mvP rfl (Nat.le_of_lt (sl100 (by have := L.lt; omega))) (fun _ _ => rfl) (fun m hm => tests_at (dOp_at (d1 := .pu (.str a.2.1)) rfl (dCallP2 rfl rfl (leaves_at T (L.src m hm) (L.tgt m hm))) in_tup)) (fun _ _ _ => rfl)
    have main : ∃ y10 y11 y12, irB [some (.pu (trP t)), some (.pu (stP c)), some (.pu (loP l)), some (.pu (.int (a.1 : Int))), none, none, k6, k7, some (.pu (usP t way (endS t c l))), some (.ref 0), x10, x11, x12, none] [.lst (acc.map fun z => .pu (.str z))] = .nx [some (.pu (trP t)), some (.pu (stP c)), some (.pu (loP l)), some (.pu (.int (a.1 : Int))), none, none, k6, k7, some (.pu (usP t way (endS t c l))), some (.ref 0), y10, y11, y12, none] [.lst ((acc ++ if a.2.2.2 < use way ((nms t).zip (endS t c l)) a.2.1 then [a.2.1] else []).map fun z => .pu (.str z))] := by
      refine ⟨some (.pu (.str a.2.1)), some (.pu (.int ((((l.filter fun m => decide (a.2.1 ∈ ent' way m)).map mvP).length : Nat) : Int))), some (.pu (.int ((((l.filter fun m => decide (a.2.1 ∈ ent' way (m.2, m.1))).map mvP).length : Nat) : Int))), ?_⟩
      refine (dSeq_at (dSet_at (e0 _ _ _ _))).trans ?_
      refine (dSeq_at (dSet_at (dCall_at (el _ _ _) rfl))).trans ?_
      refine (dSeq_at (dSet_at (dCall_at (er _ _ _) rfl))).trans ?_
      refine (dSeq_at (Eq.trans (dIfS_at (b := false) ?_) rfl)).trans ?_
      · refine dOp_at (eu _ _ _ _) (dOp_at (dOp_at (dCallP3 rfl rfl rfl (use_at T hc)) rfl rfl) rfl rfl) ?_
        rw [ne_ints]
        have := use_end T.toTOk (y := a.2.1) l c hc sp
        rw [List.length_map, List.length_map, ← this]; simp
      have eg : dOp gtD (dOp ixD (dVar 8) (dVar 3)) (dOp ixD (dOp ixD (dVar 0) (dVar 3)) (dC (.int 2))) [some (.pu (trP t)), some (.pu (stP c)), some (.pu (loP l)), some (.pu (.int (a.1 : Int))), none, none, k6, k7, some (.pu (usP t way (endS t c l))), some (.ref 0), some (.pu (.str a.2.1)), some (.pu (.int ((((l.filter fun m => decide (a.2.1 ∈ ent' way m)).map mvP).length : Nat) : Int))), some (.pu (.int ((((l.filter fun m => decide (a.2.1 ∈ ent' way (m.2, m.1))).map mvP).length : Nat) : Int))), none] [.lst (acc.map fun z => .pu (.str z))] = .ok (.pu (.bl (decide (a.2.2.2 < use way ((nms t).zip (endS t c l)) a.2.1))), [.lst (acc.map fun z => .pu (.str z))]) :=
        dOp_at (eu _ _ _ _) (dOp_at (d1 := .pu (foP a.2)) (dOp_at rfl rfl (ix_tup (by rw [List.getElem?_map, hf]; rfl))) rfl rfl) gt_i
      refine (dSeq_at (env' := [some (.pu (trP t)), some (.pu (stP c)), some (.pu (loP l)), some (.pu (.int (a.1 : Int))), none, none, k6, k7, some (.pu (usP t way (endS t c l))), some (.ref 0), some (.pu (.str a.2.1)), some (.pu (.int ((((l.filter fun m => decide (a.2.1 ∈ ent' way m)).map mvP).length : Nat) : Int))), some (.pu (.int ((((l.filter fun m => decide (a.2.1 ∈ ent' way (m.2, m.1))).map mvP).length : Nat) : Int))), none]) (ih' := [.lst ((acc ++ if a.2.2.2 < use way ((nms t).zip (endS t c l)) a.2.1 then [a.2.1] else []).map fun z => .pu (.str z))]) (Eq.trans (dIfS_at eg) ?_)).trans rfl
      by_cases h : a.2.2.2 < use way ((nms t).zip (endS t c l)) a.2.1
      · rw [decide_eq_true h, if_pos h]
        refine (dSeq_at (dExpr_at (app_at (ih := []) rfl rfl (by rw [List.length_map]; exact sl100 (by omega))))).trans ?_
        rw [List.map_append]; rfl
      · rw [decide_eq_false h, if_neg h, List.append_nil]; rfl
    obtain ⟨y10, y11, y12, em⟩ := main
    obtain ⟨w3, w10, w11, w12, e⟩ := ir_loop T hc L k6 k7 zs (acc ++ if a.2.2.2 < use way ((nms t).zip (endS t c l)) a.2.1 then [a.2.1] else []) (some (.pu (.int (a.1 : Int)))) y10 y11 y12 (fun b hb => hz b (.tail _ hb)) (by split <;> simp <;> omega)
    refine ⟨w3, w10, w11, w12, ?_⟩
    rw [List.map_cons, dForL]
    show (match irB [some (.pu (trP t)), some (.pu (stP c)), some (.pu (loP l)), some (.pu (.int (a.1 : Int))), none, none, k6, k7, some (.pu (usP t way (endS t c l))), some (.ref 0), x10, x11, x12, none] [.lst (acc.map fun z => .pu (.str z))] with
        | .nx env' ih' => dForL (gN 3) irB [] (zs.map fun a : Nat × Fo => P.int (a.1 : Int)) (wipeE [] env') ih'
        | .ct env' ih' => dForL (gN 3) irB [] (zs.map fun a : Nat × Fo => P.int (a.1 : Int)) (wipeE [] env') ih'
        | .bk env' ih' => .nx env' ih'
        | r => r) = _
    rw [em]
    refine Eq.trans e ?_
    rw [List.map_cons, List.filter_cons]
    by_cases h : a.2.2.2 < use way ((nms t).zip (endS t c l)) a.2.1
    · rw [if_pos h, if_pos (decide_eq_true h), List.append_assoc]; rfl
    · rw [if_neg h, if_neg (by simpa using h), List.append_nil]
theorem is_right_at (T : TG t way) (S : SOk t way c) (L : LOk t c l) (C : CG t c l) : pf f__law_is_right [.pu (trP t), .pu (stP c), .pu (loP l)] = some (.bl true) := by
  have sp : ∀ m ∈ l, spot t m.1 ∧ spot t m.2 := fun m hm => ⟨L.src m hm, L.tgt m hm⟩
  have he := endS_len (l := l) S.len
  have gA : GD (.lst [trP t, stP c, loP l]) 3 33003 := by
    refine (GD.lst (ps := [trP t, stP c, loP l]) (k := 2) (w := 11000) (fun p hp => ?_)).mono (by decide) (by simp)
    rcases List.mem_cons.mp hp with e | hp
    · rw [e]; exact GD.tr T C
    rcases List.mem_cons.mp hp with e | hp
    · rw [e]; exact (GD.st (by rw [S.len]; exact C.few) (fun n hn => by have := C.csz n hn; omega)).mono (by decide) (by decide)
    · rw [List.mem_singleton.mp hp]; exact (GD.lo T C L).mono (by decide) (by decide)
  have gE : GD (stP (endS t c l)) 1 4000 := GD.st (by rw [he]; exact C.few) (fun n hn => by
    have := endS_abs S.len l c 1000 C.csz n hn
    have := L.lt
    omega)
  have gW := GD.nm T C (endS t c l)
  have gB : GD (.lst [stP (endS t c l), .bl (mis t way (endS t c l)).isEmpty, nmsP (mis t way (endS t c l)), stP (endS t c l), .bl (mis t way (endS t c l)).isEmpty, nmsP (mis t way (endS t c l))]) 2 24006 := by
    refine (GD.lst (k := 1) (w := 4000) (fun p hp => ?_)).mono (by decide) (by simp)
    simp only [List.mem_cons, List.not_mem_nil, or_false] at hp
    rcases hp with e | e | e | e | e | e <;> rw [e] <;> first
      | exact gE
      | exact GD.bl.mono (by decide) (by decide)
      | exact gW.mono (by decide) (by decide)
  obtain ⟨y3, y10, y11, y12, eo⟩ := ir_loop T S.len L (some (.pu (.str (pd (.lst [trP t, stP c, loP l])).shown))) (some (.pu (stP (endS t c l)))) ((List.range t.length).zip t) [] none none none none (fun a ha => mem_rz ha) (by have := C.few; simp; omega)
  rw [rz_snd, rz_map] at eo
  have ew : ((t.filter fun f => decide (f.2.2 < use way ((nms t).zip (endS t c l)) f.1)).map (·.1)) = mis t way (endS t c l) := rfl
  rw [ew, List.nil_append] at eo
  refine pf_at (φ := f__law_is_right) (ih := [.dead, .dead]) (dFn_rt (b := b__law_is_right) ?_)
  refine (dSeq_at (dPar_at (dCall_at (f := dLst [(dVar 0), (dVar 1), (dVar 2)]) (d := .pu (.lst [trP t, stP c, loP l])) rfl (gA.rep (by decide) (by decide))) (dCallP3 rfl rfl rfl (end_at T S.len sp)))).trans ?_
  refine (dSeq_at (dPar_at2 (dCallP2 rfl rfl (uses_law T he)) (d2 := .ref 0) (ih2 := [.lst []]) rfl)).trans ?_
  refine (dSeq_at (env' := [some (.pu (trP t)), some (.pu (stP c)), some (.pu (loP l)), y3, none, none, some (.pu (.str (pd (.lst [trP t, stP c, loP l])).shown)), some (.pu (stP (endS t c l))), some (.pu (usP t way (endS t c l))), some (.ref 0), y10, y11, y12, none]) (ih' := [.lst ((mis t way (endS t c l)).map fun z => .pu (.str z))]) ?_).trans ?_
  · have es : iR1 (dCall lenD [(dVar 0)]) [some (.pu (trP t)), some (.pu (stP c)), some (.pu (loP l)), none, none, none, some (.pu (.str (pd (.lst [trP t, stP c, loP l])).shown)), some (.pu (stP (endS t c l))), some (.pu (usP t way (endS t c l))), some (.ref 0), none, none, none, none] [.lst []] = .ok ((List.range t.length).map fun i : Nat => P.int (i : Int), [.lst []]) := by
      refine range_at ?_ (by have := C.few; omega)
      show R.ok (D.pu (.int ((t.map foP).length : Int)), _) = _
      rw [List.length_map]
    unfold dFor
    refine Eq.trans (congrArg (fun r => bindS _ r _) es) ?_
    exact eo
  let w0 : Cl := .lst ((mis t way (endS t c l)).map fun z => .pu (.str z))
  refine (dSeq_at (dSet_at (d := .ref 1) (ih' := [w0, .lst ([stP (endS t c l), .bl (mis t way (endS t c l)).isEmpty, nmsP (mis t way (endS t c l))].map .pu)]) ?_)).trans ?_
  · unfold dBox
    rw [dArgs3 (dCallP3 rfl rfl rfl (end_counts_at T S L)) (dCallP3 rfl rfl rfl (fits_at T S L)) (dCallP3 rfl rfl rfl (misfits_at' T S L))]
    rfl
  refine (dSeq_at (dExpr_at (app_at (ih := [w0]) (l := [stP (endS t c l), .bl (mis t way (endS t c l)).isEmpty, nmsP (mis t way (endS t c l))].map .pu) rfl (dCallKP3 rfl rfl rfl rfl (end_counts_at T S L)) (sl100 (by simp))))).trans ?_
  refine (dSeq_at (env' := [some (.pu (trP t)), some (.pu (stP c)), some (.pu (loP l)), y3, some (.pu (.lst [stP (endS t c l), .bl (mis t way (endS t c l)).isEmpty, nmsP (mis t way (endS t c l)), stP (endS t c l), .bl (mis t way (endS t c l)).isEmpty, nmsP (mis t way (endS t c l))])), none, some (.pu (.str (pd (.lst [trP t, stP c, loP l])).shown)), some (.pu (stP (endS t c l))), some (.pu (usP t way (endS t c l))), some (.ref 0), y10, y11, y12, none]) (ih' := [w0, .dead]) ?_).trans ?_
  · refine (dSeq_at (env' := [some (.pu (trP t)), some (.pu (stP c)), some (.pu (loP l)), y3, some (.pu (.lst [stP (endS t c l), .bl (mis t way (endS t c l)).isEmpty, nmsP (mis t way (endS t c l)), stP (endS t c l)])), none, some (.pu (.str (pd (.lst [trP t, stP c, loP l])).shown)), some (.pu (stP (endS t c l))), some (.pu (usP t way (endS t c l))), some (.ref 0), y10, y11, y12, none]) (ih' := [w0, .dead]) rfl).trans ?_
    refine dSet_at (dOp_at rfl (d2 := .pu (.lst [.bl (mis t way (endS t c l)).isEmpty, nmsP (mis t way (endS t c l))])) ?_ rfl)
    unfold dLst
    rw [dArgs2 (dCallKP3 rfl rfl rfl rfl (fits_at T S L)) (dCallKP3 rfl rfl rfl rfl (misfits_at' T S L))]
    rfl
  have e9 : ([w0, .dead] : IH)[0]? = some (.lst (((mis t way (endS t c l)).map sP).map .pu)) := by
    show some w0 = _
    rw [List.map_map]; rfl
  have eqn : eqP (.lst ((mis t way (endS t c l)).map .str)) (.lst []) = (mis t way (endS t c l)).isEmpty := by
    cases mis t way (endS t c l) with
    | nil => rfl
    | cons x xs =>
      show PyData.eqv (.list (pd (.str x) :: pds (xs.map .str))) (.list []) = false
      unfold PyData.eqv PyData.eqvAll; rfl
  refine (dSeq_at (env' := [some (.pu (trP t)), some (.pu (stP c)), some (.pu (loP l)), y3, some (.pu (.lst [stP (endS t c l), .bl (mis t way (endS t c l)).isEmpty, nmsP (mis t way (endS t c l)), stP (endS t c l), .bl (mis t way (endS t c l)).isEmpty, nmsP (mis t way (endS t c l))])), some (.pu (.lst [stP (endS t c l), .bl (mis t way (endS t c l)).isEmpty, nmsP (mis t way (endS t c l))])), some (.pu (.str (pd (.lst [trP t, stP c, loP l])).shown)), some (.pu (stP (endS t c l))), some (.pu (usP t way (endS t c l))), some (.pu (.lst ((mis t way (endS t c l)).map sP))), y10, y11, y12, none]) (ih' := [.dead, .dead]) ?_).trans ?_
  · refine (dSeq_at (env' := [some (.pu (trP t)), some (.pu (stP c)), some (.pu (loP l)), y3, some (.pu (.lst [stP (endS t c l), .bl (mis t way (endS t c l)).isEmpty, nmsP (mis t way (endS t c l)), stP (endS t c l), .bl (mis t way (endS t c l)).isEmpty, nmsP (mis t way (endS t c l))])), none, some (.pu (.str (pd (.lst [trP t, stP c, loP l])).shown)), some (.pu (stP (endS t c l))), some (.pu (usP t way (endS t c l))), some (.pu (.lst ((mis t way (endS t c l)).map sP))), y10, y11, y12, none]) (ih' := [.dead, .dead]) ?_).trans ?_
    · show (match frz 8 [w0, .dead] (.ref 0) with | some (p, ih') => RS.nx _ ih' | none => .stuck) = _
      rw [frz_lst e9]; rfl
    · refine dSet_at ?_
      unfold dLst
      rw [dArgs3 (d1 := .pu (stP (endS t c l))) (d2 := .pu (.bl (mis t way (endS t c l)).isEmpty)) (d3 := .pu (nmsP (mis t way (endS t c l)))) (ih1 := [.dead, .dead]) (ih2 := [.dead, .dead]) (ih' := [.dead, .dead]) rfl (dOp_at (d1 := .pu (.lst ((mis t way (endS t c l)).map sP))) (d2 := .pu (.lst [])) rfl rfl ?_) rfl]
      · rfl
      · show (if (shp (.lst ((mis t way (endS t c l)).map sP)) && shp (.lst [])) = true then R.ok (D.pu (.bl (eqP (.lst ((mis t way (endS t c l)).map sP)) (.lst []))), _) else .stuck) = _
        have s1 : shp (.lst ((mis t way (endS t c l)).map sP)) = true := shp_lst (mis_ok T _)
        rw [s1]
        refine Eq.trans (if_pos (by rfl)) ?_
        have eqn' : eqP (.lst ((mis t way (endS t c l)).map sP)) (.lst []) = (mis t way (endS t c l)).isEmpty := eqn
        rw [eqn']
  refine dSeq_rt (dRet_at ?_)
  rw [dAnd_at (dCallP2 (p1 := .lst [stP (endS t c l), .bl (mis t way (endS t c l)).isEmpty, nmsP (mis t way (endS t c l)), stP (endS t c l), .bl (mis t way (endS t c l)).isEmpty, nmsP (mis t way (endS t c l))]) (p2 := .lst [stP (endS t c l), .bl (mis t way (endS t c l)).isEmpty, nmsP (mis t way (endS t c l)), stP (endS t c l), .bl (mis t way (endS t c l)).isEmpty, nmsP (mis t way (endS t c l))]) rfl rfl (same_at gB (by decide) (by decide)))]
  show dOp _ _ _ _ _ = _
  rw [dOp_at (dCall_at (f := dLst [(dVar 0), (dVar 1), (dVar 2)]) (d := .pu (.lst [trP t, stP c, loP l])) rfl (gA.rep (by decide) (by decide))) rfl eq_str, decide_eq_true rfl]
end
/-! ### what is drawn -/
theorem draw22 {ih : IH} {ns : List Int} {x y z s : Int} (h : ih[0]? = some (fdC ns x y z)) (h0 : 0 < s) (h1 : s < 1073741824) :
    ∃ (d : Int) (c : Cl), (0 ≤ d ∧ d < s) ∧ (∃ x' y' z', c = fdC ns x' y' z') ∧ f__law_draw [.ref 0, .pu (.int s)] ih = .ok (.pu (.int d), ih.set 0 c) := by
  obtain ⟨d, x', y', z', hd, e⟩ := draw_ok (c0 := 5381) (c1 := 1999999517) (c2 := 70181) (c3 := 709) (c4 := 2147483579) (c5 := 6700861) (c6 := 2309) (c7 := 2147483563) (c8 := 1193) (c9 := 2147483549) (c10 := 16) (by decide) h h0 h1
  exact ⟨d, _, hd, ⟨x', y', z', rfl⟩, e⟩
/-- the feed lies in the first cell -/
def FD (ns : List Int) (ih : IH) : Prop := ∃ x y z, ih[0]? = some (fdC ns x y z)
def isFd (ns : List Int) (c : Cl) : Prop := ∃ x y z, c = fdC ns x y z
theorem FD.set {ns : List Int} {ih : IH} (h : FD ns ih) {c : Cl} (hc : isFd ns c) : FD ns (ih.set 0 c) := by
  obtain ⟨x, y, z, h⟩ := h
  obtain ⟨x', y', z', rfl⟩ := hc
  exact ⟨x', y', z', fd_at _ h⟩
theorem FD.pos {ns : List Int} {ih : IH} (h : FD ns ih) : 0 < ih.length := by
  obtain ⟨x, y, z, h⟩ := h
  exact lt_of_at h
theorem FD.app {ns : List Int} {ih : IH} (h : FD ns ih) (l : IH) : FD ns (ih ++ l) := by
  obtain ⟨x, y, z, h⟩ := h
  exact ⟨x, y, z, (List.getElem?_append_left (lt_of_at h)).trans h⟩
theorem set_app {ih l : IH} {c : Cl} (h : 0 < ih.length) : (ih ++ l).set 0 c = ih.set 0 c ++ l := by
  cases ih with
  | nil => cases h
  | cons a ih => rfl
section
variable {env : Ev} {ih ih1 ih2 ih' : IH} {f1 f2 f3 f4 : Ev → IH → R (D × IH)} {φ : List D → IH → R (D × IH)} {d1 d2 d3 d4 : D} {r : D × IH}
theorem dCallF1 (e1 : f1 env ih = .ok (d1, ih1)) (e : φ [d1] ih1 = .ok r) : dCallF 1 φ [] [f1] env ih = .ok r := by
  unfold dCallF; rw [dArgs1 e1]
  show noX (φ [d1] ih1) = _
  rw [e]; rfl
theorem dCallF2 (e1 : f1 env ih = .ok (d1, ih1)) (e2 : f2 env ih1 = .ok (d2, ih2)) (e : φ [d1, d2] ih2 = .ok r) : dCallF 2 φ [] [f1, f2] env ih = .ok r := by
  unfold dCallF; rw [dArgs2 e1 e2]
  show noX (φ [d1, d2] ih2) = _
  rw [e]; rfl
theorem dArgs4 {ih3 ih4 : IH} (e1 : f1 env ih = .ok (d1, ih1)) (e2 : f2 env ih1 = .ok (d2, ih2)) (e3 : f3 env ih2 = .ok (d3, ih3)) (e4 : f4 env ih3 = .ok (d4, ih4)) : dArgs [f1, f2, f3, f4] env ih = .ok ([d1, d2, d3, d4], ih4) := by
  unfold dArgs; rw [e1]; show (dArgs [f2, f3, f4] env ih1).bind _ = _; rw [dArgs3 e2 e3 e4]; rfl
theorem dCallF4 {ih3 ih4 : IH} (e1 : f1 env ih = .ok (d1, ih1)) (e2 : f2 env ih1 = .ok (d2, ih2)) (e3 : f3 env ih2 = .ok (d3, ih3)) (e4 : f4 env ih3 = .ok (d4, ih4)) (e : φ [d1, d2, d3, d4] ih4 = .ok r) : dCallF 4 φ [] [f1, f2, f3, f4] env ih = .ok r := by
  unfold dCallF; rw [dArgs4 e1 e2 e3 e4]
  show noX (φ [d1, d2, d3, d4] ih4) = _
  rw [e]; rfl
theorem dOp_at2 {od : D → D → IH → R (D × IH)} {rr : R (D × IH)} (e1 : f1 env ih = .ok (d1, ih1)) (e2 : f2 env ih1 = .ok (d2, ih2)) (e3 : od d1 d2 ih2 = rr) : dOp od f1 f2 env ih = rr := by
  unfold dOp; rw [e1]; show (f2 env ih1).bind _ = _; rw [e2]; exact e3
end
theorem any_at {ns : List Int} {ih : IH} (F : FD ns ih) {ps : List P} (h0 : ps ≠ []) (h1 : ps.length ≤ 1000) : ∃ p c, p ∈ ps ∧ isFd ns c ∧ f__law_any [.ref 0, .pu (.lst ps)] ih = .ok (.pu p, ih.set 0 c) := by
  obtain ⟨x, y, z, h⟩ := F
  have hl : 0 < ps.length := List.length_pos_iff.mpr h0
  obtain ⟨d, c, hd, hc, e⟩ := draw22 (s := (ps.length : Int)) h (by omega) (by omega)
  obtain ⟨k, rfl⟩ := Int.eq_ofNat_of_zero_le hd.1
  have hk : k < ps.length := by omega
  refine ⟨ps[k], c, List.getElem_mem _, hc, dFn_rt (b := b__law_any) (dSeq_rt (dRet_at ?_))⟩
  exact dOp_at2 (d1 := .pu (.lst ps)) rfl (dCallF2 (d1 := .ref 0) rfl (d2 := .pu (.int (ps.length : Int))) rfl e) (ix_lst (List.getElem?_eq_getElem hk))
/-! ### the wood -/
def pool : List Str := ["top", "a", "ab", "b", "in", "zz", "abcdefgh", "c", "room", "m", "x", "ba"]
def prP (q : Str × Str) : P := .tup [.str q.1, .str q.2]
def pn (s : Int) (k : Nat) : Str := pool.getD ((s + 5 * (k : Int)) % 12).toNat ""
/-- the pairs so far: names by the pool, each parent outside or an earlier name -/
structure WG (s : Int) (fl : List (Str × Str)) : Prop where
  nm : ∀ i (h : i < fl.length), fl[i].1 = pn s i
  par : ∀ i (h : i < fl.length), fl[i].2 = "" ∨ ∃ j, ∃ h2 : j < i, fl[i].2 = (fl[j]'(by omega)).1
theorem WG.snoc {s : Int} {fl : List (Str × Str)} (g : WG s fl) {w : Str} (hw : w = "" ∨ w ∈ fl.map (·.1)) : WG s (fl ++ [(pn s fl.length, w)]) := by
  refine ⟨fun i h => ?_, fun i h => ?_⟩
  · by_cases hi : i < fl.length
    · rw [List.getElem_append_left hi]; exact g.nm i hi
    · have : i = fl.length := by simp at h; omega
      subst this; simp
  · by_cases hi : i < fl.length
    · rw [List.getElem_append_left hi]
      rcases g.par i hi with e | ⟨j, hj, e⟩
      · exact .inl e
      · exact .inr ⟨j, hj, by rw [List.getElem_append_left (by omega)]; exact e⟩
    · have : i = fl.length := by simp at h; omega
      subst this
      rcases hw with e | hm
      · left; simp [e]
      · right
        obtain ⟨q, hq, e⟩ := List.mem_map.mp hm
        obtain ⟨j, hj, e2⟩ := List.getElem_of_mem hq
        refine ⟨j, hj, ?_⟩
        rw [List.getElem_append_left hj, e2, e]; simp
def wdB : Ev → IH → RS := (dSeq (dSet 6 (dOp addD (dLst [(dC (.str ""))]) (dLcB false (gN 7) (dVar 5) none (dOp ixD (dVar 7) (dC (.int 0))) [7])))
    (dSeq (dExpr (dMe isL appD (dVar 5) [(dTup [(dOp ixD (dVar 2) (dOp modD (dCall intD [(dOp addD (dVar 4) (dOp mulD (dC (.int 5)) (dVar 3)))]) (dC (.int 12)))), (dCallF 2 f__law_any [] [(dVar 0), (dOp addD (dVar 6) (dSl (dVar 6) (some (negD (dC (.int 1)))) none))])])]))
    dNx))
theorem pool_at (s : Int) (k : Nat) (ih : IH) : ixD (.pu (.lst (pool.map sP))) (.pu (.int ((s + 5 * (k : Int)) % 12))) ih = .ok (.pu (.str (pn s k)), ih) := by
  have h1 := Int.emod_nonneg (s + 5 * (k : Int)) (b := 12) (by decide)
  have h2 := Int.emod_lt_of_pos (s + 5 * (k : Int)) (b := 12) (by decide)
  obtain ⟨j, hj⟩ := Int.eq_ofNat_of_zero_le h1
  have hj2 : j < 12 := by omega
  have e : (pool.map sP)[j]? = some (.str (pool.getD j "")) := by
    rw [List.getElem?_map, List.getD_eq_getElem?_getD, List.getElem?_eq_getElem (show j < pool.length from hj2)]; rfl
  unfold pn
  rw [hj, Int.toNat_natCast]
  exact ix_lst e
theorem cut_mem' {xs : List P} {lo hi : Option Int} {p : P} (h : p ∈ cutP xs lo hi) : p ∈ xs := List.mem_of_mem_drop (List.mem_of_mem_take h)
theorem cut_len' {xs : List P} {lo hi : Option Int} : (cutP xs lo hi).length ≤ xs.length := by
  unfold cutP; rw [List.length_take, List.length_drop]; omega
theorem lcB_all {α : Type} {env : Ev} {ih : IH} {hh : P → Ev → Option Ev} {f e : Ev → IH → R (D × IH)} {vs : List Nat} {n : Nat} {c : α → P} {l : List α} (E : α → Ev) (v : α → P) (hf : f env ih = .ok (.ref n, ih)) (hn : ih[n]? = some (.lst ((l.map c).map .pu))) (hl : l.length ≤ SL) (h1 : ∀ a ∈ l, hh (c a) (wipeE vs env) = some (E a)) (h3 : ∀ a ∈ l, e (E a) ih = .ok (.pu (v a), ih)) :
    dLcB false hh f none e vs env ih = .ok (.pu (.lst (l.map v)), ih) := by
  unfold dLcB; rw [hf]
  have eb : boxP (.ref n) ih = some (l.map c) := by unfold boxP; simp only [hn, allPu_pus]
  simp only [R.bind, eb]
  rw [List.length_map, if_pos hl, lcL_at (t := none) c E (fun _ => true) v l h1 (fun _ _ => rfl) (fun a ha _ => h3 a ha), List.filter_eq_self.mpr (fun _ _ => rfl)]
  show (match allPu ((l.map v).map .pu) with | some ps => R.ok (D.pu (.lst ps), ih) | none => .stuck) = _
  rw [allPu_pus]
theorem app_at2 {env : Ev} {ih0 ih : IH} {l : List D} {f g : Ev → IH → R (D × IH)} {d : D} {n : Nat} (hn : n = ih.length) (hf : f env ih0 = .ok (.ref n, ih0)) (hi : isL (.ref n) ih0 = true) (hg : g env ih0 = .ok (d, ih ++ [.lst l])) (hl : l.length < SL) : dMe isL appD f [g] env ih0 = .ok (.pu .non, ih ++ [.lst (l ++ [d])]) := by
  subst hn
  unfold dMe; rw [hf]
  show (if isL (.ref ih.length) ih0 = true then (dArgs [g] env ih0).bind fun r => appD (.ref ih.length) r.1 r.2 else .stuck) = _
  rw [if_pos hi, dArgs1 hg]
  show appD (.ref ih.length) [d] (ih ++ [.lst l]) = _
  unfold appD; simp only [at_last, if_pos hl, set_last]
theorem tup2_at {env : Ev} {ih ih1 ih2 : IH} {f g : Ev → IH → R (D × IH)} {p q : P} (e1 : f env ih = .ok (.pu p, ih1)) (e2 : g env ih1 = .ok (.pu q, ih2)) : dTup [f, g] env ih = .ok (.pu (.tup [p, q]), ih2) := by
  unfold dTup; rw [dArgs2 e1 e2]; rfl
theorem add_lst {xs ys : List P} {ih : IH} (h : xs.length + ys.length ≤ 1000) : addD (.pu (.lst xs)) (.pu (.lst ys)) ih = .ok (.pu (.lst (xs ++ ys)), ih) := by
  show (if xs.length + ys.length ≤ SL then _ else _) = _
  exact if_pos (Nat.le_of_lt (sl100 (by omega)))
theorem isL_last {ih : IH} {l : List D} : isL (.ref ih.length) (ih ++ [.lst l]) = true := by unfold isL; simp only [at_last]
theorem wd_loop {ns : List Int} (m2 : Option D) (s : Int) : ∀ (m : Nat) (fl : List (Str × Str)) (ih : IH) (x3 x6 : Option D), fl.length + m ≤ 12 → FD ns ih → WG s fl →
    ∃ fl' c y3 y6, WG s fl' ∧ fl'.length = fl.length + m ∧ isFd ns c ∧ dForL (gN 3) wdB [] ((List.range m).map fun i : Nat => P.int ((fl.length + i : Nat) : Int)) [some (.ref 0), m2, some (.pu (.lst (pool.map sP))), x3, some (.pu (.int s)), some (.ref ih.length), x6, none] (ih ++ [.lst ((fl.map prP).map .pu)]) = .nx [some (.ref 0), m2, some (.pu (.lst (pool.map sP))), y3, some (.pu (.int s)), some (.ref ih.length), y6, none] (ih.set 0 c ++ [.lst ((fl'.map prP).map .pu)])
  | 0, fl, ih, x3, x6, _, F, g => by
    obtain ⟨x, y, z, h⟩ := F
    exact ⟨fl, _, x3, x6, g, rfl, ⟨x, y, z, rfl⟩, by rw [set_self h]; rfl⟩
  | m + 1, fl, ih, x3, x6, hl, F, g => by
    let W : List P := .str "" :: fl.map fun q => .str q.1
    have hW : W.length ≤ 13 := by show (fl.map fun q => P.str q.1).length + 1 ≤ 13; rw [List.length_map]; omega
    have F1 : FD ns (ih ++ [.lst ((fl.map prP).map .pu)]) := F.app _
    obtain ⟨p, c, hp, hc, ea⟩ := any_at F1 (ps := W ++ cutP W (some (-1)) none) (by simp [W]) (by rw [List.length_append]; have := cut_len' (xs := W) (lo := some (-1)) (hi := none); omega)
    rw [set_app F.pos] at ea
    have hpW : p ∈ W := by
      rcases List.mem_append.mp hp with h | h
      · exact h
      · exact cut_mem' h
    have hw : ∃ w : Str, p = .str w ∧ (w = "" ∨ w ∈ fl.map (·.1)) := by
      rcases List.mem_cons.mp hpW with e | h
      · exact ⟨"", e, .inl rfl⟩
      · obtain ⟨q, hq, rfl⟩ := List.mem_map.mp h
        exact ⟨q.1, rfl, .inr (List.mem_map_of_mem hq)⟩
    obtain ⟨w, rfl, hw⟩ := hw
    have eb : wdB [some (.ref 0), m2, some (.pu (.lst (pool.map sP))), some (.pu (.int (fl.length : Int))), some (.pu (.int s)), some (.ref ih.length), x6, none] (ih ++ [.lst ((fl.map prP).map .pu)]) = .nx [some (.ref 0), m2, some (.pu (.lst (pool.map sP))), some (.pu (.int (fl.length : Int))), some (.pu (.int s)), some (.ref ih.length), some (.pu (.lst W)), none] (ih.set 0 c ++ [.lst (((fl ++ [(pn s fl.length, w)]).map prP).map .pu)]) := by
      have e1 : dLcB false (gN 7) (dVar 5) none (dOp ixD (dVar 7) (dC (.int 0))) [7] [some (.ref 0), m2, some (.pu (.lst (pool.map sP))), some (.pu (.int (fl.length : Int))), some (.pu (.int s)), some (.ref ih.length), x6, none] (ih ++ [.lst ((fl.map prP).map .pu)]) = .ok (.pu (.lst (fl.map fun q => .str q.1)), ih ++ [.lst ((fl.map prP).map .pu)]) :=
        lcB_all (n := ih.length) (c := prP) (fun q => [some (.ref 0), m2, some (.pu (.lst (pool.map sP))), some (.pu (.int (fl.length : Int))), some (.pu (.int s)), some (.ref ih.length), x6, some (.pu (prP q))]) (fun q => .str q.1) rfl at_last (Nat.le_of_lt (sl100 (by omega))) (fun _ _ => rfl) (fun _ _ => rfl)
      refine (dSeq_at (dSet_at (dOp_at (d1 := .pu (.lst [.str ""])) rfl e1 (add_lst (by simp; omega))))).trans ?_
      have e2 : dOp addD (dVar 6) (dSl (dVar 6) (some (negD (dC (.int 1)))) none) [some (.ref 0), m2, some (.pu (.lst (pool.map sP))), some (.pu (.int (fl.length : Int))), some (.pu (.int s)), some (.ref ih.length), some (.pu (.lst W)), none] (ih ++ [.lst ((fl.map prP).map .pu)]) = .ok (.pu (.lst (W ++ cutP W (some (-1)) none)), ih ++ [.lst ((fl.map prP).map .pu)]) :=
        dOp_at (d1 := .pu (.lst W)) (d2 := .pu (.lst (cutP W (some (-1)) none))) rfl rfl (add_lst (by have := cut_len' (xs := W) (lo := some (-1)) (hi := none); omega))
      have e3 : dTup [(dOp ixD (dVar 2) (dOp modD (dCall intD [(dOp addD (dVar 4) (dOp mulD (dC (.int 5)) (dVar 3)))]) (dC (.int 12)))), (dCallF 2 f__law_any [] [(dVar 0), (dOp addD (dVar 6) (dSl (dVar 6) (some (negD (dC (.int 1)))) none))])] [some (.ref 0), m2, some (.pu (.lst (pool.map sP))), some (.pu (.int (fl.length : Int))), some (.pu (.int s)), some (.ref ih.length), some (.pu (.lst W)), none] (ih ++ [.lst ((fl.map prP).map .pu)]) = .ok (.pu (prP (pn s fl.length, w)), ih.set 0 c ++ [.lst ((fl.map prP).map .pu)]) :=
        tup2_at (dOp_at rfl (dOp_at (dCall_at (dOp_at rfl (dOp_at rfl rfl (mul_i (by decide))) rfl) rfl) rfl (mod_i (by decide))) (pool_at s fl.length _)) (dCallF2 rfl e2 ea)
      refine (dSeq_at (dExpr_at (app_at2 (ih := ih.set 0 c) (by simp) rfl isL_last e3 ?_))).trans ?_
      · rw [List.length_map, List.length_map]; exact sl100 (by omega)
      · rw [List.map_append, List.map_append]; rfl
    obtain ⟨fl', c', y3, y6, g1, g2, g3, g4⟩ := wd_loop m2 s m (fl ++ [(pn s fl.length, w)]) (ih.set 0 c) (some (.pu (.int (fl.length : Int)))) (some (.pu (.lst W))) (by simp; omega) (F.set hc) (g.snoc hw)
    refine ⟨fl', c', y3, y6, g1, by rw [g2]; simp; omega, g3, ?_⟩
    rw [List.range_succ_eq_map, List.map_cons, List.map_map, dForL]
    show (match wdB [some (.ref 0), m2, some (.pu (.lst (pool.map sP))), some (.pu (.int ((fl.length + 0 : Nat) : Int))), some (.pu (.int s)), some (.ref ih.length), x6, none] (ih ++ [.lst ((fl.map prP).map .pu)]) with
        | .nx env' ih' => dForL (gN 3) wdB [] ((List.range m).map ((fun i : Nat => P.int ((fl.length + i : Nat) : Int)) ∘ Nat.succ)) (wipeE [] env') ih'
        | .ct env' ih' => dForL (gN 3) wdB [] ((List.range m).map ((fun i : Nat => P.int ((fl.length + i : Nat) : Int)) ∘ Nat.succ)) (wipeE [] env') ih'
        | .bk env' ih' => .nx env' ih'
        | r => r) = _
    rw [Nat.add_zero, eb]
    rw [set_again, List.length_set] at g4
    refine Eq.trans ?_ g4
    have : (List.range m).map ((fun i : Nat => P.int ((fl.length + i : Nat) : Int)) ∘ Nat.succ) = (List.range m).map fun i : Nat => P.int (((fl ++ [(pn s fl.length, w)]).length + i : Nat) : Int) := by
      refine List.map_congr_left fun i _ => ?_
      show P.int ((fl.length + (i + 1) : Nat) : Int) = _
      rw [List.length_append, List.length_singleton]
      congr 2; omega
    rw [this]; rfl
theorem canSort_prs {l : List (Str × Str)} (h : ∀ q ∈ l, PyData.strOk q.1 = true ∧ PyData.strOk q.2 = true) : canSort (l.map prP) = true := by
  unfold canSort
  simp only [Bool.and_eq_true, Bool.or_eq_true, List.all_eq_true]
  refine ⟨⟨fun p hp q hq => ?_, .inl fun p hp => ?_⟩, fun p hp => ?_⟩
  · obtain ⟨a, _, rfl⟩ := List.mem_map.mp hp
    obtain ⟨b, _, rfl⟩ := List.mem_map.mp hq
    rfl
  · obtain ⟨a, _, rfl⟩ := List.mem_map.mp hp
    rfl
  · obtain ⟨a, ha, rfl⟩ := List.mem_map.mp hp
    show (((PyData.strOk a.1) && ((PyData.strOk a.2) && true)) && decide _) = true
    rw [(h a ha).1, (h a ha).2]; rfl
theorem pool_ok : ∀ x ∈ pool, PyData.strOk x = true := by decide +kernel
theorem pn_mem (s : Int) (k : Nat) : pn s k ∈ pool := by
  have h1 := Int.emod_nonneg (s + 5 * (k : Int)) (b := 12) (by decide)
  have h2 := Int.emod_lt_of_pos (s + 5 * (k : Int)) (b := 12) (by decide)
  have hj : ((s + 5 * (k : Int)) % 12).toNat < pool.length := by show _ < 12; omega
  unfold pn
  rw [List.getD_eq_getElem?_getD, List.getElem?_eq_getElem hj]
  exact List.getElem_mem _
theorem WG.sok {s : Int} {fl : List (Str × Str)} (g : WG s fl) : ∀ q ∈ fl, q.1 ∈ pool ∧ (q.2 = "" ∨ q.2 ∈ pool) := fun q hq => by
  obtain ⟨i, hi, rfl⟩ := List.getElem_of_mem hq
  refine ⟨by rw [g.nm i hi]; exact pn_mem _ _, ?_⟩
  rcases g.par i hi with e | ⟨j, hj, e⟩
  · exact .inl e
  · right; rw [e, g.nm j (by omega)]; exact pn_mem _ _
theorem wood_at {ns : List Int} {ih : IH} (F : FD ns ih) {n : Nat} (hn : n ≤ 12) : ∃ s fl c, WG s fl ∧ fl.length = n ∧ isFd ns c ∧ (0 ≤ s ∧ s < 12) ∧ f__law_wood [.ref 0, .pu (.int (n : Int))] ih = .ok (.pu (.lst (isort leP (fl.map prP))), ih.set 0 c ++ [.dead]) := by
  obtain ⟨x, y, z, h⟩ := id F
  obtain ⟨s, c, hs, hc, e⟩ := draw22 (s := 12) h (by decide) (by decide)
  have F1 := F.set hc
  obtain ⟨fl, c', y3, y6, g1, g2, g3, g4⟩ := wd_loop (some (.pu (.int (n : Int)))) s n [] (ih.set 0 c) none none (by simpa using hn) F1 ⟨fun i h => by simp at h, fun i h => by simp at h⟩
  rw [set_again, List.length_set] at g4
  refine ⟨s, fl, c', g1, by simpa using g2, g3, hs, dFn_rt (b := b__law_wood) ?_⟩
  refine (dSeq_at (dSet_at (d := .pu (.lst (pool.map sP))) rfl)).trans ?_
  refine (dSeq_at (dPar_at2 (dCallF2 (d1 := .ref 0) rfl (d2 := .pu (.int 12)) rfl e) (d2 := .ref (ih.set 0 c).length) (ih2 := ih.set 0 c ++ [.lst []]) rfl)).trans ?_
  rw [List.length_set]
  refine (dSeq_at (env' := [some (.ref 0), some (.pu (.int (n : Int))), some (.pu (.lst (pool.map sP))), y3, some (.pu (.int s)), some (.ref ih.length), y6, none]) (ih' := ih.set 0 c' ++ [.lst ((fl.map prP).map .pu)]) ?_).trans ?_
  · have es := range_at (env := [some (.ref 0), some (.pu (.int (n : Int))), some (.pu (.lst (pool.map sP))), none, some (.pu (.int s)), some (.ref ih.length), none, none]) (ih := ih.set 0 c ++ [.lst []]) (f := dVar 1) (n := n) rfl (by omega)
    unfold dFor
    refine Eq.trans (congrArg (fun r => bindS _ r _) es) ?_
    have e5 : ((List.range n).map fun i : Nat => P.int (i : Int)) = (List.range n).map fun i : Nat => P.int ((([] : List (Str × Str)).length + i : Nat) : Int) := List.map_congr_left fun i _ => by simp
    rw [e5]; exact g4
  · have cs := canSort_prs (l := fl) fun q hq => ⟨pool_ok _ (g1.sok q hq).1, by
      rcases (g1.sok q hq).2 with e | e
      · rw [e]; decide +kernel
      · exact pool_ok _ e⟩
    have ef : (ih.set 0 c' ++ [Cl.lst ((fl.map prP).map .pu)])[ih.length]? = some (.lst ((fl.map prP).map .pu)) := by simp
    refine dSeq_rt ((dSeq_at (env' := [some (.ref 0), some (.pu (.int (n : Int))), some (.pu (.lst (pool.map sP))), y3, some (.pu (.int s)), some (.pu (.lst (fl.map prP))), y6, none]) (ih' := ih.set 0 c' ++ [.dead]) ?_).trans (dRet_at (dCall_at (f := dVar 5) (d := .pu (.lst (fl.map prP))) rfl ?_)))
    · show (match frz 8 (ih.set 0 c' ++ [Cl.lst ((fl.map prP).map .pu)]) (.ref ih.length) with | some (p, ih') => RS.nx _ ih' | none => .stuck) = _
      rw [frz_lst ef]
      simp
    · show (if canSort (fl.map prP) = true then R.ok (D.pu (.lst (isort leP (fl.map prP))), _) else .stuck) = _
      rw [if_pos cs]
/-! ### the wood is a tree -/
def parF (fl : List (Str × Str)) (x : Str) : Str := ((fl.find? fun q => decide (q.1 = x)).map (·.2)).getD ""
def up (fl : List (Str × Str)) : Nat → Str → List Str
  | 0, _ => []
  | k + 1, x => if x = "" then [] else x :: up fl k (parF fl x)
theorem pn_inj : ∀ s < 12, ∀ i < 12, ∀ j < 12, pn ((s : Nat) : Int) i = pn (s : Int) j → i = j := by decide +kernel
theorem pool_ne : ("" : Str) ∉ pool := by decide +kernel
section
variable {s : Int} {fl : List (Str × Str)}
theorem WG.inj (g : WG s fl) (hs : 0 ≤ s ∧ s < 12) (hl : fl.length ≤ 12) {i j : Nat} (hi : i < fl.length) (hj : j < fl.length) (e : fl[i].1 = fl[j].1) : i = j := by
  obtain ⟨k, rfl⟩ := Int.eq_ofNat_of_zero_le hs.1
  rw [g.nm i hi, g.nm j hj] at e
  exact pn_inj k (by omega) i (by omega) j (by omega) e
theorem WG.ne (g : WG s fl) {i : Nat} (hi : i < fl.length) : fl[i].1 ≠ "" := fun e => pool_ne (by rw [← e]; exact (g.sok _ (List.getElem_mem hi)).1)
theorem WG.par_eq (g : WG s fl) (hs : 0 ≤ s ∧ s < 12) (hl : fl.length ≤ 12) {i : Nat} (hi : i < fl.length) : parF fl fl[i].1 = fl[i].2 := by
  unfold parF
  cases e : fl.find? fun q => decide (q.1 = fl[i].1) with
  | none =>
    have := List.find?_eq_none.mp e fl[i] (List.getElem_mem hi)
    simp at this
  | some q =>
    have h1 : q.1 = fl[i].1 := by simpa using List.find?_some e
    obtain ⟨j, hj, e2⟩ := List.getElem_of_mem (List.mem_of_find?_eq_some e)
    subst e2
    have : j = i := g.inj hs hl hj hi h1
    subst this; rfl
theorem up_emp : ∀ k, up fl k "" = []
  | 0 => rfl
  | k + 1 => by unfold up; rw [if_pos rfl]
theorem up_stab (g : WG s fl) (hs : 0 ≤ s ∧ s < 12) (hl : fl.length ≤ 12) : ∀ (i : Nat) (hi : i < fl.length) (k : Nat), i + 1 ≤ k → up fl k fl[i].1 = up fl (i + 1) fl[i].1 := by
  intro i
  induction i using Nat.strongRecOn with
  | _ i ihh =>
    intro hi k hk
    obtain ⟨k, rfl⟩ : ∃ k', k = k' + 1 := ⟨k - 1, by omega⟩
    unfold up
    rw [if_neg (g.ne hi), g.par_eq hs hl hi]
    rcases g.par i hi with e | ⟨j, hj, e⟩
    · rw [e, up_emp, if_neg (g.ne hi), up_emp]
    · rw [e, ihh j hj (by omega) k (by omega), if_neg (g.ne hi), ihh j hj (by omega) i (by omega)]
theorem up_cons (g : WG s fl) (hs : 0 ≤ s ∧ s < 12) (hl : fl.length ≤ 12) {i : Nat} (hi : i < fl.length) : up fl fl.length fl[i].1 = fl[i].1 :: up fl fl.length fl[i].2 := by
  rw [up_stab g hs hl i hi fl.length (by omega)]
  conv => lhs; unfold up
  rw [if_neg (g.ne hi), g.par_eq hs hl hi]
  rcases g.par i hi with e | ⟨j, hj, e⟩
  · rw [e, up_emp, up_emp]
  · rw [e, up_stab g hs hl j (by omega) i (by omega), up_stab g hs hl j (by omega) fl.length (by omega)]
theorem up_facts (g : WG s fl) (hs : 0 ≤ s ∧ s < 12) (hl : fl.length ≤ 12) : ∀ (i : Nat) (hi : i < fl.length), (up fl fl.length fl[i].1).length ≤ i + 1 ∧ (up fl fl.length fl[i].1).Nodup ∧ ∀ y ∈ up fl fl.length fl[i].1, ∃ j, ∃ h : j ≤ i, y = (fl[j]'(by omega)).1 := by
  intro i
  induction i using Nat.strongRecOn with
  | _ i ihh =>
    intro hi
    rw [up_cons g hs hl hi]
    rcases g.par i hi with e | ⟨j, hj, e⟩
    · rw [e, up_emp]
      exact ⟨by simp, by simp, fun y hy => ⟨i, Nat.le_refl _, List.mem_singleton.mp hy⟩⟩
    · obtain ⟨a, b, c⟩ := ihh j hj (by omega)
      rw [e]
      refine ⟨by rw [List.length_cons]; omega, ?_, fun y hy => ?_⟩
      · rw [List.nodup_cons]
        refine ⟨fun hm => ?_, b⟩
        obtain ⟨j', h', e'⟩ := c _ hm
        have := g.inj hs hl hi (by omega) e'
        omega
      · rcases List.mem_cons.mp hy with e' | hy
        · exact ⟨i, Nat.le_refl _, e'⟩
        · obtain ⟨j', h', e'⟩ := c y hy
          exact ⟨j', by omega, e'⟩
end
theorem nm_pool : ∀ x ∈ pool, pf f_is_name [.pu (.str x)] = some (.bl true) := by
  intro x hx
  simp only [pool, List.mem_cons, List.not_mem_nil, or_false] at hx
  rcases hx with rfl | rfl | rfl | rfl | rfl | rfl | rfl | rfl | rfl | rfl | rfl | rfl <;> kernel_rfl
theorem sz_pool : ∀ x ∈ pool, x.cps.size ≤ 10 := by decide +kernel
theorem lt_pool : ∀ x ∈ pool, ∀ y ∈ pool, x ≠ y → leP (.str x) (.str y) = true → x.cps.toList < y.cps.toList := by decide +kernel
theorem le_pair {x y u v : Str} (h : x ≠ y) : leP (prP (x, u)) (prP (y, v)) = leP (.str x) (.str y) := by
  have hne : (Sum.inr y.cps.toList : Int ⊕ List Nat) ≠ Sum.inr x.cps.toList := fun e => h (PySem.W.str_of_cps (Sum.inr.inj e)).symm
  unfold leP
  congr 1
  show PyProof.Rows.lexLt PyProof.Rows.itemOrd (Sum.inl 1 :: ([Sum.inr y.cps.toList] ++ PySem.W.keyToksAll [.str v])) (Sum.inl 1 :: ([Sum.inr x.cps.toList] ++ PySem.W.keyToksAll [.str u])) = PyProof.Rows.lexLt PyProof.Rows.itemOrd [Sum.inr y.cps.toList] [Sum.inr x.cps.toList]
  exact (PySem.W.lex_pre [Sum.inl 1] ([Sum.inr y.cps.toList] ++ PySem.W.keyToksAll [.str v]) ([Sum.inr x.cps.toList] ++ PySem.W.keyToksAll [.str u])).trans (PySem.W.lex_atom hne _ _)
theorem tot_le {α : Type} (f : α → P) : PySem.W.TotalLe (fun a b : α => leP (f a) (f b)) := PySem.W.sortLe_total (PyProof.Rows.listOrd PyProof.Rows.itemOrd) false fun a : α => PySem.W.keyToks (pd (f a))
/-- the pairs, sorted -/
def prs (fl : List (Str × Str)) : List (Str × Str) := isort (fun a b => leP (prP a) (prP b)) fl
theorem prs_map (fl : List (Str × Str)) : isort leP (fl.map prP) = (prs fl).map prP := (isort_map (le := fun a b => leP (prP a) (prP b)) (s := leP) prP (fun _ _ => rfl) fl).symm
theorem prs_perm (fl : List (Str × Str)) : (prs fl).Perm fl := isort_perm fl
section
variable {s : Int} {fl : List (Str × Str)}
theorem fl_nd (g : WG s fl) (hs : 0 ≤ s ∧ s < 12) (hl : fl.length ≤ 12) : (fl.map (·.1)).Nodup := by
  rw [List.nodup_iff_pairwise_ne, List.pairwise_iff_getElem]
  intro i j hi hj hij e
  rw [List.getElem_map, List.getElem_map] at e
  rw [List.length_map] at hi hj
  have := g.inj hs hl hi hj e
  omega
theorem tree_ok (g : WG s fl) (hs : 0 ≤ s ∧ s < 12) (hl : fl.length ≤ 12) (h0 : fl ≠ []) {t : List Fo} (ht : t.map (fun f => (f.1, f.2.1)) = prs fl) (hr : ∀ f ∈ t, 0 ≤ f.2.2) : TG t (up fl fl.length) := by
  have hn : nms t = (prs fl).map (·.1) := by rw [← ht, List.map_map]; rfl
  have pm := prs_perm fl
  have ndn : (nms t).Nodup := by rw [hn]; exact (pm.map (·.1)).nodup_iff.mpr (fl_nd g hs hl)
  have tl : t.length = fl.length := by rw [← pm.length_eq, ← ht, List.length_map]
  have hmem : ∀ f ∈ t, ∃ i, ∃ h : i < fl.length, fl[i].1 = f.1 ∧ fl[i].2 = f.2.1 := fun f hf => by
    have h1 : (f.1, f.2.1) ∈ prs fl := by rw [← ht]; exact List.mem_map.mpr ⟨f, hf, rfl⟩
    obtain ⟨i, hi, e⟩ := List.getElem_of_mem (pm.mem_iff.mp h1)
    exact ⟨i, hi, by rw [e], by rw [e]⟩
  have hmem' : ∀ i (h : i < fl.length), fl[i].1 ∈ nms t := fun i h => by
    rw [hn]; exact List.mem_map_of_mem (pm.mem_iff.mpr (List.getElem_mem h))
  have hx : ∀ x ∈ nms t, ∃ i, ∃ h : i < fl.length, fl[i].1 = x := fun x hx => by
    obtain ⟨f, hf, rfl⟩ := mem_nms hx
    obtain ⟨i, h, e, _⟩ := hmem f hf
    exact ⟨i, h, e⟩
  have hpool : ∀ x ∈ nms t, x ∈ pool := fun x h => by
    obtain ⟨i, hi, e⟩ := hx x h
    rw [← e]; exact (g.sok _ (List.getElem_mem hi)).1
  have srt := isort_sorted (tot_le prP) fl
  have pw : (prs fl).Pairwise fun a b => leP (.str a.1) (.str b.1) = true ∧ a.1.cps.toList < b.1.cps.toList := by
    have nd2 : ((prs fl).map (·.1)).Nodup := (pm.map (·.1)).nodup_iff.mpr (fl_nd g hs hl)
    rw [List.nodup_iff_pairwise_ne, List.pairwise_map] at nd2
    have hb : (prs fl).Pairwise fun a b => a.1 ∈ pool ∧ b.1 ∈ pool := by
      rw [List.pairwise_iff_getElem]
      intro i j hi hj _
      exact ⟨(g.sok _ (pm.mem_iff.mp (List.getElem_mem hi))).1, (g.sok _ (pm.mem_iff.mp (List.getElem_mem hj))).1⟩
    refine List.Pairwise.imp (R := fun a b => leP (prP a) (prP b) = true ∧ a.1 ≠ b.1 ∧ a.1 ∈ pool ∧ b.1 ∈ pool) (fun {a b} h => ?_) ((List.Pairwise.and srt (List.Pairwise.and nd2 hb)))
    have e : leP (prP a) (prP b) = leP (.str a.1) (.str b.1) := le_pair (x := a.1) (y := b.1) (u := a.2) (v := b.2) h.2.1
    rw [e] at h
    exact ⟨h.1, lt_pool _ h.2.2.1 _ h.2.2.2 h.2.1 h.1⟩
  exact {
    nd := ndn
    ne := fun h => pool_ne (hpool _ h)
    w0 := up_emp _
    w1 := fun f hf => by
      obtain ⟨i, hi, e1, e2⟩ := hmem f hf
      rw [← e1, ← e2]; exact up_cons g hs hl hi
    par := fun f hf => by
      obtain ⟨i, hi, e1, e2⟩ := hmem f hf
      rcases g.par i hi with e | ⟨j, hj, e⟩
      · exact .inl (e2.symm.trans e)
      · right; rw [← e2, e]; exact hmem' j (by omega)
    len := fun x => by
      have : ∀ k x, (up fl k x).length ≤ k := by
        intro k
        induction k with
        | zero => intro x; exact Nat.le_refl _
        | succ k e =>
          intro x
          unfold up
          split
          · simp
          · rw [List.length_cons]; have := e (parF fl x); omega
      have := this fl.length x
      omega
    ndw := fun x h => by
      obtain ⟨i, hi, e⟩ := hx x h
      rw [← e]; exact (up_facts g hs hl i hi).2.1
    sub := fun x h y hy => by
      obtain ⟨i, hi, e⟩ := hx x h
      rw [← e] at hy
      obtain ⟨j, hj, e2⟩ := (up_facts g hs hl i hi).2.2 y hy
      rw [e2]; exact hmem' j (by omega)
    lt := by omega
    nmg := fun x h => nm_pool x (hpool x h)
    sok := fun x h => pool_ok x (hpool x h)
    room := hr
    asc := by rw [hn, List.pairwise_map]; exact pw.imp fun h => h.2
    ascP := by rw [hn, List.pairwise_map]; exact pw.imp fun h => h.1
    few := by omega
    wl := fun x h => by
      obtain ⟨i, hi, e⟩ := hx x h
      rw [← e]
      have := (up_facts g hs hl i hi).1
      omega
    non := fun h => h0 (by
      have : fl.length = 0 := by rw [← tl, h]; rfl
      exact List.eq_nil_of_length_eq_zero this) }
end
theorem parN_at {is : List Nat} {fs : List (Ev → IH → R (D × IH))} {env : Ev} {ih ih' : IH} {ds : List D} (e : dArgs fs env ih = .ok (ds, ih')) (h : (decide (ds.length = is.length) && decide (ds.length ≤ SL)) = true) : dParN is fs env ih = .nx (setN is ds env) ih' := by
  unfold dParN; rw [e]; exact if_pos h
theorem dCall_at2 {env : Ev} {ih ih' : IH} {f : Ev → IH → R (D × IH)} {cd : List D → IH → R (D × IH)} {d : D} {r : R (D × IH)} (e1 : f env ih = .ok (d, ih')) (e2 : cd [d] ih' = r) : dCall cd [f] env ih = r := by
  unfold dCall; rw [dArgs1 e1]; exact e2
/-! ### a case -/
theorem lc_drawL {ns : List Int} {α : Type} {hh : P → Ev → Option Ev} {env : Ev} {e : Ev → IH → R (D × IH)} (A : List P) (c : α → P) (E : α → Ev) (h1 : ∀ a, hh (c a) env = some (E a)) (h2 : ∀ a ih, FD ns ih → ∃ p k, p ∈ A ∧ isFd ns k ∧ e (E a) ih = .ok (.pu p, ih.set 0 k)) : ∀ (l : List α) (ih : IH), FD ns ih → ∃ (vs : List P) (k : Cl), vs.length = l.length ∧ (∀ v ∈ vs, v ∈ A) ∧ isFd ns k ∧ dLcL hh none e env (l.map c) ih = .ok (vs.map .pu, ih.set 0 k)
  | [], ih, F => by
    obtain ⟨x, y, z, h⟩ := F
    exact ⟨[], _, rfl, fun v hv => (by cases hv), ⟨x, y, z, rfl⟩, by rw [set_self h]; rfl⟩
  | a :: l, ih, F => by
    obtain ⟨p, k, hp, hk, e1⟩ := h2 a ih F
    obtain ⟨vs, k', hl, hv, hk', e2⟩ := lc_drawL A c E h1 h2 l (ih.set 0 k) (F.set hk)
    refine ⟨p :: vs, k', by simp [hl], fun v hv' => ?_, hk', ?_⟩
    · rcases List.mem_cons.mp hv' with e | h
      · rw [e]; exact hp
      · exact hv v h
    · rw [List.map_cons, dLcL, h1 a]
      simp only [dTests, R.bind, e1, noX]
      rw [set_again] at e2
      rw [e2]; rfl
theorem lc_draw {ns : List Int} {α : Type} {hh : P → Ev → Option Ev} {src : Ev → IH → R (List P × IH)} {env : Ev} {ih : IH} {e : Ev → IH → R (D × IH)} {vs : List Nat} {c : α → P} {l : List α} (A : List P) (E : α → Ev) (hs : src env ih = .ok (l.map c, ih)) (hl : l.length ≤ 100) (F : FD ns ih) (h1 : ∀ a, hh (c a) (wipeE vs env) = some (E a)) (h2 : ∀ a ih, FD ns ih → ∃ p k, p ∈ A ∧ isFd ns k ∧ e (E a) ih = .ok (.pu p, ih.set 0 k)) :
    ∃ (ws : List P) (k : Cl), ws.length = l.length ∧ (∀ v ∈ ws, v ∈ A) ∧ isFd ns k ∧ dLc false hh src none e vs env ih = .ok (.pu (.lst ws), ih.set 0 k) := by
  obtain ⟨ws, k, a, b, d, e1⟩ := lc_drawL A c E h1 h2 l ih F
  refine ⟨ws, k, a, b, d, ?_⟩
  unfold dLc; rw [hs]
  show (if (l.map c).length ≤ SL then (match okR (dLcL hh none e (wipeE vs env) (l.map c) ih) with | some y => lcEnd false y.1 y.2 | none => R.stuck) else .stuck) = _
  rw [List.length_map, if_pos (Nat.le_of_lt (sl100 (by omega))), e1]
  show (match allPu (ws.map .pu) with | some ps => R.ok (D.pu (.lst ps), ih.set 0 k) | none => .stuck) = _
  rw [allPu_pus]
theorem ints_of {A : List Int} : ∀ {vs : List P}, (∀ v ∈ vs, v ∈ A.map P.int) → ∃ c : List Int, vs = c.map .int ∧ ∀ n ∈ c, n ∈ A
  | [], _ => ⟨[], rfl, fun n h => by cases h⟩
  | v :: vs, h => by
    obtain ⟨c, e, hc⟩ := ints_of fun w hw => h w (.tail _ hw)
    obtain ⟨n, hn, e2⟩ := List.mem_map.mp (h v (.head _))
    refine ⟨n :: c, by rw [List.map_cons, ← e, e2], fun m hm => ?_⟩
    rcases List.mem_cons.mp hm with e3 | hm
    · rw [e3]; exact hn
    · exact hc m hm
theorem use_le {way : Str → List Str} (hw : ∀ x, (way x).length ≤ 100) {x : Str} : ∀ {l : List (Str × Int)}, (∀ q ∈ l, 0 ≤ q.2 ∧ q.2 ≤ 3) → 0 ≤ use way l x ∧ use way l x ≤ 300 * (l.length : Int)
  | [], _ => by simp [use]
  | q :: l, h => by
    obtain ⟨a, b⟩ := use_le hw (x := x) fun p hp => h p (.tail _ hp)
    have hq := h q (.head _)
    have h1 : ((way q.1).count x : Int) ≤ 100 := by
      have := List.count_le_length (a := x) (l := way q.1)
      have := hw q.1
      omega
    have h2 : 0 ≤ q.2 * ((way q.1).count x : Int) := Int.mul_nonneg hq.1 (by omega)
    have h3 : q.2 * ((way q.1).count x : Int) ≤ 3 * 100 := Int.mul_le_mul hq.2 h1 (by omega) (by decide)
    simp only [use, List.map_cons, List.sum_cons, List.length_cons] at a b ⊢
    omega
theorem big_log {n : Int} (h : n.natAbs ≤ 10 ^ 31) : n.natAbs.log2 < 300 := by
  rcases Nat.eq_zero_or_pos n.natAbs with z | z
  · rw [z]; decide
  · exact (Nat.log2_lt (by omega)).mpr (Nat.lt_of_le_of_lt h (by decide +kernel))
theorem zip_get {α β : Type} {xs : List α} {ys : List β} {k : Nat} {q : α × β} (h : (xs.zip ys)[k]? = some q) : xs[k]? = some q.1 ∧ ys[k]? = some q.2 := List.getElem?_zip_eq_some.mp h
theorem case_at {ns : List Int} {ih : IH} (F : FD ns ih) : ∃ t c way ih', TG t way ∧ SOk t way c ∧ CG t c [] ∧ t.length ≤ 7 ∧ FD ns ih' ∧ (∀ n ∈ c, 0 ≤ n ∧ n ≤ 3) ∧ f__law_case [.ref 0, .pu (.int 7)] ih = .ok (.pu (.tup [trP t, stP c]), ih') := by
  obtain ⟨x, y, z, h⟩ := id F
  obtain ⟨d, c1, hd, hc1, e1⟩ := draw22 (s := 7) h (by decide) (by decide)
  obtain ⟨m, rfl⟩ := Int.eq_ofNat_of_zero_le hd.1
  have hm : m < 7 := by omega
  have F1 := F.set hc1
  obtain ⟨s, fl, c2, g, gl, hc2, hs, e2⟩ := wood_at F1 (n := 1 + m) (by omega)
  rw [prs_map, set_again] at e2
  have F2 : FD ns (ih.set 0 c2 ++ [Cl.dead]) := (F.set hc2).app _
  have hpl : (prs fl).length = 1 + m := by rw [(prs_perm fl).length_eq, gl]
  have an1 : ∀ (env : Ev) (A : List P) (f : Ev → IH → R (D × IH)), env[0]? = some (some (.ref 0)) → A ≠ [] → A.length ≤ 1000 → (∀ ih, f env ih = .ok (.pu (.lst A), ih)) → ∀ ih, FD ns ih → ∃ p k, p ∈ A ∧ isFd ns k ∧ dCallF 2 f__law_any [] [(dVar 0), f] env ih = .ok (.pu p, ih.set 0 k) := fun env A f h0 hA hA2 hf ih F => by
    obtain ⟨p, k, hp, hk, e⟩ := any_at F hA hA2
    exact ⟨p, k, hp, hk, dCallF2 (d1 := .ref 0) (by unfold dVar; rw [h0]) (hf _) e⟩
  obtain ⟨ws, c3, wl, wm, hc3, e3⟩ := lc_draw (ns := ns) (hh := gN 7) (src := iAny (dVar 2)) (env := [some (.ref 0), some (.pu (.int 7)), some (.pu (.lst ((prs fl).map prP))), none, none, none, none, none, none]) (ih := ih.set 0 c2 ++ [Cl.dead]) (e := dCallF 2 f__law_any [] [(dVar 0), (dLst [(dC (.int 0)), (dC (.int 0)), (dC (.int 1)), (dC (.int 1)), (dC (.int 2)), (dC (.int 3))])]) (vs := [7]) (c := prP) (l := prs fl) ([0, 0, 1, 1, 2, 3].map P.int) (fun q => [some (.ref 0), some (.pu (.int 7)), some (.pu (.lst ((prs fl).map prP))), none, none, none, none, some (.pu (prP q)), none]) rfl (by omega) F2 (fun _ => rfl) (fun q ih F => an1 _ ([0, 0, 1, 1, 2, 3].map P.int) _ rfl (by simp) (by simp) (fun _ => rfl) ih F)
  obtain ⟨c, rfl, cm⟩ := ints_of wm
  have c03 : ∀ n ∈ c, 0 ≤ n ∧ n ≤ 3 := fun n hn => by
    have := cm n hn
    simp only [List.mem_cons, List.not_mem_nil, or_false] at this
    omega
  rw [List.length_map] at wl
  have F3 := F2.set hc3
  let t0 : List Fo := (prs fl).map fun q => (q.1, q.2, 0)
  have ht0 : t0.map (fun f => (f.1, f.2.1)) = prs fl := by
    show ((prs fl).map fun q => (q.1, q.2, (0 : Int))).map (fun f : Fo => (f.1, f.2.1)) = _
    rw [List.map_map]; exact List.map_id _
  have hfl0 : fl ≠ [] := fun z => by rw [z] at gl; simp at gl; omega
  have T0 : TG t0 (up fl fl.length) := tree_ok g hs (by omega) hfl0 ht0 (fun f hf => by
    obtain ⟨q, _, rfl⟩ := List.mem_map.mp hf
    exact Int.le_refl _)
  have hl0 : t0.length = 1 + m := by show ((prs fl).map _).length = _; rw [List.length_map, hpl]
  have hcl : c.length = t0.length := by rw [wl, hl0, hpl]
  obtain ⟨us, c4, ul, um, hc4, e4⟩ := lc_draw (ns := ns) (hh := gN 7) (src := iAny (dVar 2)) (env := [some (.ref 0), some (.pu (.int 7)), some (.pu (.lst ((prs fl).map prP))), some (.pu (stP c)), some (.pu (trP t0)), none, none, none, none]) (ih := (ih.set 0 c2 ++ [Cl.dead]).set 0 c3) (e := dCallF 2 f__law_any [] [(dVar 0), (dLst [(dC (.int 0)), (dC (.int 0)), (dC (.int 0)), (dC (.int 1)), (dC (.int 1)), (dC (.int 2)), (dOp powD (dC (.int 10)) (dC (.int 30)))])]) (vs := [7]) (c := prP) (l := prs fl) ([0, 0, 0, 1, 1, 2, 1000000000000000000000000000000].map P.int) (fun q => [some (.ref 0), some (.pu (.int 7)), some (.pu (.lst ((prs fl).map prP))), some (.pu (stP c)), some (.pu (trP t0)), none, none, some (.pu (prP q)), none]) rfl (by omega) F3 (fun _ => rfl) (fun q ih F => an1 _ ([0, 0, 0, 1, 1, 2, 1000000000000000000000000000000].map P.int) _ rfl (by simp) (by simp) (fun _ => rfl) ih F)
  obtain ⟨sp, rfl, spm⟩ := ints_of um
  rw [List.length_map] at ul
  have F4 := F3.set hc4
  let U : Str → Int := fun x => use (up fl fl.length) ((nms t0).zip c) x
  have hU : ∀ x, 0 ≤ U x ∧ U x ≤ 300 * (((nms t0).zip c).length : Int) := fun x => use_le T0.len (fun q hq => c03 q.2 (List.of_mem_zip hq).2)
  have hzl : ((nms t0).zip c).length ≤ 7 := by rw [List.length_zip, nms_len]; omega
  have sp0 : ∀ n ∈ sp, 0 ≤ n ∧ n ≤ 1000000000000000000000000000000 := fun n hn => by
    have := spm n hn
    simp only [List.mem_cons, List.not_mem_nil, or_false] at this
    omega
  let t : List Fo := ((prs fl).zip sp).map fun q => (q.1.1, q.1.2, U q.1.1 + q.2)
  have ht : t.map (fun f => (f.1, f.2.1)) = prs fl := by
    show (((prs fl).zip sp).map fun q => (q.1.1, q.1.2, U q.1.1 + q.2)).map (fun f : Fo => (f.1, f.2.1)) = _
    rw [List.map_map]
    show ((prs fl).zip sp).map Prod.fst = _
    exact List.map_fst_zip (by omega)
  have htr : ∀ f ∈ t, ∃ x : Str, ∃ n : Int, (0 ≤ n ∧ n ≤ 1000000000000000000000000000000) ∧ f.1 = x ∧ f.2.2 = U x + n := fun f hf => by
    obtain ⟨q, hq, rfl⟩ := List.mem_map.mp hf
    exact ⟨q.1.1, q.2, sp0 _ (List.of_mem_zip hq).2, rfl, rfl⟩
  have T : TG t (up fl fl.length) := tree_ok g hs (by omega) hfl0 ht (fun f hf => by
    obtain ⟨x, n, hn, e, e'⟩ := htr f hf
    rw [e']; have := hU x; omega)
  have hnm : nms t = nms t0 := by
    have a : nms t = (prs fl).map (·.1) := by rw [← ht, List.map_map]; rfl
    have b : nms t0 = (prs fl).map (·.1) := by rw [← ht0, List.map_map]; rfl
    rw [a, b]
  have hlt : t.length = 1 + m := by rw [← nms_len, hnm, nms_len, hl0]
  refine ⟨t, c, up fl fl.length, (((ih.set 0 c2 ++ [Cl.dead]).set 0 c3).set 0 c4), T, ⟨by rw [hcl, hl0, hlt], fun n hn => (c03 n hn).1, fun f hf => ?_⟩, ⟨by omega, fun x hx => ?_, fun f hf => ?_, fun n hn => ?_⟩, by omega, F4, c03, ?_⟩
  · obtain ⟨x, n, hn, e, e'⟩ := htr f hf
    rw [hnm, e, e']
    show use _ _ x ≤ use _ _ x + n
    omega
  · obtain ⟨f, hf, rfl⟩ := mem_nms hx
    have h1 : (f.1, f.2.1) ∈ prs fl := by rw [← ht]; exact List.mem_map.mpr ⟨f, hf, rfl⟩
    exact sz_pool _ (g.sok _ ((prs_perm fl).mem_iff.mp h1)).1
  · obtain ⟨x, n, hn, e, e'⟩ := htr f hf
    have := hU x
    rw [e']
    refine big_log ?_
    have : (10 : Nat) ^ 31 = 10000000000000000000000000000000 := by decide
    omega
  · have := c03 n hn; omega
  · refine dFn_rt (b := b__law_case) ?_
    have en : dOp addD (dC (.int 1)) (dCallF 2 f__law_draw [] [(dVar 0), (dVar 1)]) [some (.ref 0), some (.pu (.int 7)), none, none, none, none, none, none, none] ih = .ok (.pu (.int ((1 + m : Nat) : Int)), ih.set 0 c1) := by
      refine dOp_at2 rfl (dCallF2 (d1 := .ref 0) rfl (d2 := .pu (.int 7)) rfl e1) ?_
      show R.ok (D.pu (.int (1 + (m : Int))), _) = _
      congr 4
    refine (dSeq_at (dSet_at (dCallF2 (d1 := .ref 0) rfl en e2))).trans ?_
    refine (dSeq_at (dSet_at (d := .pu (stP c)) (dCall_at2 e3 rfl))).trans ?_
    have e5 : dLc false (gN 7) (iAny (dVar 2)) none (dTup [(dOp ixD (dVar 7) (dC (.int 0))), (dOp ixD (dVar 7) (dC (.int 1))), (dC (.int 0))]) [7] [some (.ref 0), some (.pu (.int 7)), some (.pu (.lst ((prs fl).map prP))), some (.pu (stP c)), none, none, none, none, none] ((ih.set 0 c2 ++ [Cl.dead]).set 0 c3) = .ok (.pu (.lst (t0.map foP)), (ih.set 0 c2 ++ [Cl.dead]).set 0 c3) := by
      have r := lc_all (hh := gN 7) (src := iAny (dVar 2)) (e := dTup [(dOp ixD (dVar 7) (dC (.int 0))), (dOp ixD (dVar 7) (dC (.int 1))), (dC (.int 0))]) (vs := [7]) (env := [some (.ref 0), some (.pu (.int 7)), some (.pu (.lst ((prs fl).map prP))), some (.pu (stP c)), none, none, none, none, none]) (ih := (ih.set 0 c2 ++ [Cl.dead]).set 0 c3) (c := prP) (l := prs fl) (fun q => [some (.ref 0), some (.pu (.int 7)), some (.pu (.lst ((prs fl).map prP))), some (.pu (stP c)), none, none, none, some (.pu (prP q)), none]) (fun q => .tup [.str q.1, .str q.2, .int 0]) rfl (Nat.le_of_lt (sl100 (by omega))) (fun _ _ => rfl) (fun _ _ => rfl)
      rw [r]
      show _ = R.ok (D.pu (.lst (((prs fl).map fun q => (q.1, q.2, (0 : Int))).map foP)), _)
      rw [List.map_map]; rfl
    refine (dSeq_at (dSet_at (d := .pu (trP t0)) (dCall_at e5 rfl))).trans ?_
    refine (dSeq_at (env' := [some (.ref 0), some (.pu (.int 7)), some (.pu (.lst ((prs fl).map prP))), some (.pu (stP c)), some (.pu (trP t0)), some (.pu (.lst (sp.map .int))), some (.pu (.lst (t0.map fun f => .int (U f.1)))), none, none]) (ih' := ((ih.set 0 c2 ++ [Cl.dead]).set 0 c3).set 0 c4) ?_).trans (dSeq_rt (dRet_at ?_))
    · exact (parN_at (dArgs2 e4 (dCallP2 rfl rfl (uses_law T0 hcl))) rfl).trans rfl
    · refine tup2_at (p := trP t) (q := stP c) (dCall_at (d := .pu (.lst (t.map foP))) ?_ rfl) rfl
      have r := lc_all (hh := gN 8) (src := iR1 (dCall lenD [(dVar 4)])) (e := dOp addD (dSl (dOp ixD (dVar 4) (dVar 8)) none (some (dC (.int 2)))) (dTup [(dOp addD (dOp ixD (dVar 6) (dVar 8)) (dOp ixD (dVar 5) (dVar 8)))])) (vs := [8]) (env := [some (.ref 0), some (.pu (.int 7)), some (.pu (.lst ((prs fl).map prP))), some (.pu (stP c)), some (.pu (trP t0)), some (.pu (.lst (sp.map .int))), some (.pu (.lst (t0.map fun f => .int (U f.1)))), none, none]) (ih := ((ih.set 0 c2 ++ [Cl.dead]).set 0 c3).set 0 c4) (c := fun a : Nat × ((Str × Str) × Int) => P.int (a.1 : Int)) (l := (List.range ((prs fl).zip sp).length).zip ((prs fl).zip sp)) (fun a => [some (.ref 0), some (.pu (.int 7)), some (.pu (.lst ((prs fl).map prP))), some (.pu (stP c)), some (.pu (trP t0)), some (.pu (.lst (sp.map .int))), some (.pu (.lst (t0.map fun f => .int (U f.1)))), none, some (.pu (.int (a.1 : Int)))]) (fun a => foP (a.2.1.1, a.2.1.2, U a.2.1.1 + a.2.2)) ?_ ?_ (fun _ _ => rfl) (fun a ha => ?_)
      · rw [r]
        show R.ok (D.pu (.lst (((List.range ((prs fl).zip sp).length).zip ((prs fl).zip sp)).map fun a => foP (a.2.1.1, a.2.1.2, U a.2.1.1 + a.2.2))), _) = R.ok (D.pu (.lst ((((prs fl).zip sp).map fun q => (q.1.1, q.1.2, U q.1.1 + q.2)).map foP)), _)
        rw [List.map_map, show (fun a : Nat × ((Str × Str) × Int) => foP (a.2.1.1, a.2.1.2, U a.2.1.1 + a.2.2)) = (foP ∘ fun q : (Str × Str) × Int => (q.1.1, q.1.2, U q.1.1 + q.2)) ∘ Prod.snd from rfl, ← List.map_map, rz_snd]
      · rw [rz_map]
        have hz : ((prs fl).zip sp).length = t0.length := by rw [List.length_zip, hl0]; omega
        rw [hz]
        refine range_at ?_ (by omega)
        show R.ok (D.pu (.int ((t0.map foP).length : Int)), _) = _
        rw [List.length_map]
      · rw [List.length_zip, List.length_range, List.length_zip]; exact Nat.le_of_lt (sl100 (by omega))
      · obtain ⟨h1, h2⟩ := zip_get (mem_rz (k := a.1) (a := a.2) ha)
        have h3 : t0[a.1]? = some (a.2.1.1, a.2.1.2, 0) := by
          show ((prs fl).map fun q => (q.1, q.2, (0 : Int)))[a.1]? = _
          rw [List.getElem?_map, h1]; rfl
        refine dOp_at (d1 := .pu (.tup [.str a.2.1.1, .str a.2.1.2])) (d2 := .pu (.tup [.int (U a.2.1.1 + a.2.2)])) ?_ ?_ rfl
        · unfold dSl
          rw [dOp_at (f := dVar 4) (h := dVar 8) (d1 := .pu (trP t0)) rfl rfl (ix_tup (p := foP (a.2.1.1, a.2.1.2, 0)) (by rw [List.getElem?_map, h3]; rfl))]
          rfl
        · unfold dTup
          rw [dArgs1 (dOp_at (d1 := .pu (.int (U a.2.1.1))) (d2 := .pu (.int a.2.2)) (dOp_at rfl rfl (ix_lst (by rw [List.getElem?_map, h3]; rfl))) (dOp_at rfl rfl (ix_lst (by rw [List.getElem?_map, h2]; rfl))) rfl)]
          rfl
/-! ### a lot -/
def pkH (b : IH) (lf : List Int) (fd : List (Str × Str)) : IH := b ++ [.lst (lf.map fun z => .pu (.int z)), .lst ((fd.map mvP).map .pu)]
section
variable {b : IH} {lf : List Int} {fd : List (Str × Str)}
theorem pk0 {ns : List Int} (F : FD ns b) : FD ns (pkH b lf fd) := F.app _
theorem pk_set (h : 0 < b.length) {k : Cl} : (pkH b lf fd).set 0 k = pkH (b.set 0 k) lf fd := set_app h
theorem pk_lf : (pkH b lf fd)[b.length]? = some (.lst (lf.map fun z => .pu (.int z))) := by unfold pkH; simp
theorem pk_fd : (pkH b lf fd)[b.length + 1]? = some (.lst ((fd.map mvP).map .pu)) := by unfold pkH; simp
theorem pk_setl {lf' : List Int} : (pkH b lf fd).set b.length (.lst (lf'.map fun z => .pu (.int z))) = pkH b lf' fd := by unfold pkH; simp
theorem pk_setf {fd' : List (Str × Str)} : (pkH b lf fd).set (b.length + 1) (.lst ((fd'.map mvP).map .pu)) = pkH b lf fd' := by unfold pkH; simp
end
def pkB : Ev → IH → RS := (dSeq (dSet 10 (dIf (dOp eqD (dCallF 2 f__law_draw [] [(dVar 0), (dC (.int 4))]) (dC (.int 0))) (dVar 4) (dCallF 2 f__law_any [] [(dVar 0), (dVar 7)])))
    (dSeq (dSet 11 (dOp subD (dMe isL idxL (dVar 7) [(dVar 5)]) (dC (.int 1))))
    (dSeq (dIfS (dAnd (dOp neD (dVar 5) (dVar 10)) (dOr (dOp ltD (dVar 11) (dC (.int 0))) (dOp gtD (dOp ixD (dVar 8) (dVar 11)) (dC (.int 0)))))
    (dSeq (dExpr (dMe isL appD (dVar 9) [(dTup [(dVar 5), (dVar 10)])]))
    (dSeq (dIfS (dOp geD (dVar 11) (dC (.int 0)))
    (dSeq (dPut (dVar 8) (dVar 11) (dOp subD (dOp ixD (dVar 8) (dVar 11)) (dC (.int 1))))
    dNx)
    dNx)
    (dSeq (dSet 5 (dVar 10))
    dNx)))
    (dSeq (dSet 5 (dCallF 2 f__law_any [] [(dVar 0), (dVar 7)]))
    dNx))
    dNx)))
theorem dIfS_t {env : Ev} {ih : IH} {f : Ev → IH → R (D × IH)} {t u : Ev → IH → RS} (e : f env ih = .ok (.pu (.bl true), ih)) : dIfS f t u env ih = t env ih := (dIfS_at e).trans rfl
theorem dIfS_f {env : Ev} {ih : IH} {f : Ev → IH → R (D × IH)} {t u : Ev → IH → RS} (e : f env ih = .ok (.pu (.bl false), ih)) : dIfS f t u env ih = u env ih := (dIfS_at e).trans rfl
theorem dIf_at2 {env : Ev} {ih ih1 : IH} {f t u : Ev → IH → R (D × IH)} {b : Bool} (e : f env ih = .ok (.pu (.bl b), ih1)) : dIf f t u env ih = if b then t env ih1 else u env ih1 := by
  unfold dIf; rw [e]; cases b <;> rfl
/-- what holds of the files left and the moves found -/
structure PI' (t : List Fo) (c lf : List Int) (fd : List (Str × Str)) : Prop where
  len : lf.length = t.length
  src : ∀ m ∈ fd, spot t m.1
  tgt : ∀ m ∈ fd, spot t m.2
  ne : ∀ m ∈ fd, m.1 ≠ m.2
  bal : ∀ (i : Nat) (x : Str) (a b : Int), (nms t)[i]? = some x → c[i]? = some a → lf[i]? = some b → b + ((fd.countP fun m => m.1 == x : Nat) : Int) = a ∧ 0 ≤ b
def spL (t : List Fo) : List Str := "" :: nms t
theorem spL_spot {t : List Fo} {x : Str} (h : x ∈ spL t) : spot t x := List.mem_cons.mp h
section
variable {t : List Fo} {way : Str → List Str} {c : List Int}
theorem PI'.out {lf : List Int} {fd : List (Str × Str)} (p : PI' t c lf fd) (T : TG t way) {g : Str} (hg : spot t g) (hne : "" ≠ g) : PI' t c lf (fd ++ [(("" : Str), g)]) := by
  refine ⟨p.len, fun m hm => ?_, fun m hm => ?_, fun m hm => ?_, fun i x a b h1 h2 h3 => ?_⟩
  · rcases List.mem_append.mp hm with h | h
    · exact p.src m h
    · rw [List.mem_singleton.mp h]; exact .inl rfl
  · rcases List.mem_append.mp hm with h | h
    · exact p.tgt m h
    · rw [List.mem_singleton.mp h]; exact hg
  · rcases List.mem_append.mp hm with h | h
    · exact p.ne m h
    · rw [List.mem_singleton.mp h]; exact hne
  · have hx : ("" : Str) ≠ x := fun e => name_ne T.toTOk (get_mem h1) e.symm
    have := p.bal i x a b h1 h2 h3
    rw [List.countP_append]
    have e : ([(("" : Str), g)].countP fun m => m.1 == x) = 0 := by
      rw [List.countP_cons, List.countP_nil]
      have : (("" : Str) == x) = false := beq_eq_false_iff_ne.mpr hx
      simp [this]
    rw [e]; simpa using this
theorem PI'.from {lf : List Int} {fd : List (Str × Str)} (p : PI' t c lf fd) (T : TG t way) (hc : c.length = t.length) {x g : Str} {j : Nat} (hj : (nms t)[j]? = some x) (hx : spot t x) (hg : spot t g) (hne : x ≠ g) {n : Int} (hn : lf[j]? = some n) (h0 : 0 < n) : PI' t c (lf.set j (n - 1)) (fd ++ [(x, g)]) := by
  refine ⟨by rw [List.length_set]; exact p.len, fun m hm => ?_, fun m hm => ?_, fun m hm => ?_, fun i y a b h1 h2 h3 => ?_⟩
  · rcases List.mem_append.mp hm with h | h
    · exact p.src m h
    · rw [List.mem_singleton.mp h]; exact hx
  · rcases List.mem_append.mp hm with h | h
    · exact p.tgt m h
    · rw [List.mem_singleton.mp h]; exact hg
  · rcases List.mem_append.mp hm with h | h
    · exact p.ne m h
    · rw [List.mem_singleton.mp h]; exact hne
  · rw [List.countP_append, List.countP_cons, List.countP_nil]
    by_cases e : j = i
    · subst e
      rw [h1] at hj
      cases hj
      have hl := (List.getElem?_eq_some_iff.mp hn).1
      rw [List.getElem?_set_self hl] at h3
      cases h3
      have := p.bal j _ a n h1 h2 hn
      simp
      omega
    · rw [List.getElem?_set_ne e] at h3
      have := p.bal i y a b h1 h2 h3
      have hxy : x ≠ y := fun z => e (by
        obtain ⟨a1, b1⟩ := List.getElem?_eq_some_iff.mp hj
        obtain ⟨a2, b2⟩ := List.getElem?_eq_some_iff.mp h1
        exact (List.getElem_inj T.nd).mp (b1.trans (z.trans b2.symm)))
      have e2 : (x == y) = false := beq_eq_false_iff_ne.mpr hxy
      simp [e2]
      omega
theorem sok_spL (T : TG t way) : ∀ y ∈ spL t, PyData.strOk y = true := fun y hy => sok_spot T (spL_spot hy)
theorem pk_step {ns : List Int} (T : TG t way) (hc : c.length = t.length) {f1 : Str} (hf1 : f1 ∈ spL t) {b : IH} (F : FD ns b) {lf : List Int} {fd : List (Str × Str)} (p : PI' t c lf fd) {x : Str} (hx : x ∈ spL t) (hl : fd.length ≤ 100) (e1 e2 e3 x6 x10 x11 : Option D) :
    ∃ b' lf' fd' x' y10 y11, FD ns b' ∧ b'.length = b.length ∧ PI' t c lf' fd' ∧ x' ∈ spL t ∧ fd'.length ≤ fd.length + 1 ∧
      pkB [some (.ref 0), e1, e2, e3, some (.pu (.str f1)), some (.pu (.str x)), x6, some (.pu (.lst ((spL t).map sP))), some (.ref b.length), some (.ref (b.length + 1)), x10, x11, none] (pkH b lf fd) = .nx [some (.ref 0), e1, e2, e3, some (.pu (.str f1)), some (.pu (.str x')), x6, some (.pu (.lst ((spL t).map sP))), some (.ref b.length), some (.ref (b.length + 1)), y10, y11, none] (pkH b' lf' fd') := by
  have spn : (spL t).map sP ≠ [] := by simp [spL]
  have spl : ((spL t).map sP).length ≤ 1000 := by have := T.few; simp [spL, nms_len]; omega
  -- the goal
  have goal : ∃ g b1, g ∈ spL t ∧ FD ns b1 ∧ b1.length = b.length ∧ (dIf (dOp eqD (dCallF 2 f__law_draw [] [(dVar 0), (dC (.int 4))]) (dC (.int 0))) (dVar 4) (dCallF 2 f__law_any [] [(dVar 0), (dVar 7)])) [some (.ref 0), e1, e2, e3, some (.pu (.str f1)), some (.pu (.str x)), x6, some (.pu (.lst ((spL t).map sP))), some (.ref b.length), some (.ref (b.length + 1)), x10, x11, none] (pkH b lf fd) = .ok (.pu (.str g), pkH b1 lf fd) := by
    obtain ⟨u, v, w, h⟩ := pk0 (lf := lf) (fd := fd) F
    obtain ⟨d, k, hd, hk, e⟩ := draw22 (s := 4) h (by decide) (by decide)
    rw [pk_set F.pos] at e
    have ec : dOp eqD (dCallF 2 f__law_draw [] [(dVar 0), (dC (.int 4))]) (dC (.int 0)) [some (.ref 0), e1, e2, e3, some (.pu (.str f1)), some (.pu (.str x)), x6, some (.pu (.lst ((spL t).map sP))), some (.ref b.length), some (.ref (b.length + 1)), x10, x11, none] (pkH b lf fd) = .ok (.pu (.bl (d == 0)), pkH (b.set 0 k) lf fd) := dOp_at2 (dCallF2 (d1 := .ref 0) rfl (d2 := .pu (.int 4)) rfl e) rfl eq_ints
    rw [dIf_at2 ec]
    have F1 := F.set hk
    cases d == 0 with
    | true => exact ⟨f1, b.set 0 k, hf1, F1, by simp, rfl⟩
    | false =>
      obtain ⟨q, k2, hq, hk2, e2'⟩ := any_at (pk0 (lf := lf) (fd := fd) F1) spn spl
      rw [pk_set F1.pos] at e2'
      obtain ⟨g, hg, rfl⟩ := List.mem_map.mp hq
      exact ⟨g, (b.set 0 k).set 0 k2, hg, F1.set hk2, by simp, dCallF2 (d1 := .ref 0) rfl rfl e2'⟩
  obtain ⟨g, b1, hg, F1, hb1, eg⟩ := goal
  obtain ⟨j, ej, hj⟩ := index_at (f := dVar 7) (g := dVar 5) (env := [some (.ref 0), e1, e2, e3, some (.pu (.str f1)), some (.pu (.str x)), x6, some (.pu (.lst ((spL t).map sP))), some (.ref b.length), some (.ref (b.length + 1)), some (.pu (.str g)), x11, none]) (ih := pkH b1 lf fd) (x := x) (ys := spL t) rfl rfl (sok_spL T) hx
  have pre : ∀ rest : Ev → IH → RS, (dSeq (dSet 10 (dIf (dOp eqD (dCallF 2 f__law_draw [] [(dVar 0), (dC (.int 4))]) (dC (.int 0))) (dVar 4) (dCallF 2 f__law_any [] [(dVar 0), (dVar 7)])))
    (dSeq (dSet 11 (dOp subD (dMe isL idxL (dVar 7) [(dVar 5)]) (dC (.int 1)))) rest)) [some (.ref 0), e1, e2, e3, some (.pu (.str f1)), some (.pu (.str x)), x6, some (.pu (.lst ((spL t).map sP))), some (.ref b.length), some (.ref (b.length + 1)), x10, x11, none] (pkH b lf fd) = rest [some (.ref 0), e1, e2, e3, some (.pu (.str f1)), some (.pu (.str x)), x6, some (.pu (.lst ((spL t).map sP))), some (.ref b.length), some (.ref (b.length + 1)), some (.pu (.str g)), some (.pu (.int ((j : Int) - 1))), none] (pkH b1 lf fd) := fun rest => (dSeq_at (dSet_at eg)).trans (dSeq_at (dSet_at (dOp_at ej rfl rfl)))
  -- the other way
  have other : ∃ b' x', FD ns b' ∧ b'.length = b.length ∧ x' ∈ spL t ∧ (dSeq (dSet 5 (dCallF 2 f__law_any [] [(dVar 0), (dVar 7)])) dNx) [some (.ref 0), e1, e2, e3, some (.pu (.str f1)), some (.pu (.str x)), x6, some (.pu (.lst ((spL t).map sP))), some (.ref b.length), some (.ref (b.length + 1)), some (.pu (.str g)), some (.pu (.int ((j : Int) - 1))), none] (pkH b1 lf fd) = .nx [some (.ref 0), e1, e2, e3, some (.pu (.str f1)), some (.pu (.str x')), x6, some (.pu (.lst ((spL t).map sP))), some (.ref b.length), some (.ref (b.length + 1)), some (.pu (.str g)), some (.pu (.int ((j : Int) - 1))), none] (pkH b' lf fd) := by
    obtain ⟨q, k2, hq, hk2, e2'⟩ := any_at (pk0 (lf := lf) (fd := fd) F1) spn spl
    rw [pk_set F1.pos] at e2'
    obtain ⟨x', hx', rfl⟩ := List.mem_map.mp hq
    exact ⟨b1.set 0 k2, x', F1.set hk2, by simp [hb1], hx', (dSeq_at (dSet_at (dCallF2 (d1 := .ref 0) rfl rfl e2'))).trans rfl⟩
  have eN : dOp neD (dVar 5) (dVar 10) [some (.ref 0), e1, e2, e3, some (.pu (.str f1)), some (.pu (.str x)), x6, some (.pu (.lst ((spL t).map sP))), some (.ref b.length), some (.ref (b.length + 1)), some (.pu (.str g)), some (.pu (.int ((j : Int) - 1))), none] (pkH b1 lf fd) = .ok (.pu (.bl (!decide (x = g))), pkH b1 lf fd) := dOp_at rfl rfl ne_str
  have eL : dOp ltD (dVar 11) (dC (.int 0)) [some (.ref 0), e1, e2, e3, some (.pu (.str f1)), some (.pu (.str x)), x6, some (.pu (.lst ((spL t).map sP))), some (.ref b.length), some (.ref (b.length + 1)), some (.pu (.str g)), some (.pu (.int ((j : Int) - 1))), none] (pkH b1 lf fd) = .ok (.pu (.bl (decide ((j : Int) - 1 < 0))), pkH b1 lf fd) := rfl
  have appf : dMe isL appD (dVar 9) [(dTup [(dVar 5), (dVar 10)])] [some (.ref 0), e1, e2, e3, some (.pu (.str f1)), some (.pu (.str x)), x6, some (.pu (.lst ((spL t).map sP))), some (.ref b.length), some (.ref (b.length + 1)), some (.pu (.str g)), some (.pu (.int ((j : Int) - 1))), none] (pkH b1 lf fd) = .ok (.pu .non, pkH b1 lf (fd ++ [(x, g)])) := by
    have hfd : (pkH b1 lf fd)[b.length + 1]? = some (.lst ((fd.map mvP).map .pu)) := by rw [← hb1]; exact pk_fd
    have hi : isL (.ref (b.length + 1)) (pkH b1 lf fd) = true := by unfold isL; simp only [hfd]
    unfold dMe
    show (if isL (.ref (b.length + 1)) (pkH b1 lf fd) = true then appD (.ref (b.length + 1)) [.pu (mvP (x, g))] (pkH b1 lf fd) else .stuck) = _
    rw [if_pos hi]
    unfold appD; simp only [hfd]
    rw [if_pos (by rw [List.length_map, List.length_map]; exact sl100 (by omega))]
    have : (fd.map mvP).map D.pu ++ [.pu (mvP (x, g))] = ((fd ++ [(x, g)]).map mvP).map .pu := by rw [List.map_append, List.map_append]; rfl
    rw [this, ← hb1, pk_setf]
  show ∃ b' lf' fd' x' y10 y11, _ ∧ _ ∧ _ ∧ _ ∧ _ ∧ (dSeq _ _) _ _ = _
  by_cases hxg : x = g
  · obtain ⟨b', x', F', hb', hx', e⟩ := other
    refine ⟨b', lf, fd, x', some (.pu (.str g)), some (.pu (.int ((j : Int) - 1))), F', hb', p, hx', by omega, (pre _).trans ?_⟩
    refine (dSeq_at (Eq.trans (dIfS_f ?_) e)).trans rfl
    rw [dAnd_at eN, decide_eq_true hxg]; rfl
  · cases j with
    | zero =>
      have hx0 : x = "" := (Option.some.inj hj).symm
      refine ⟨b1, lf, fd ++ [(x, g)], g, some (.pu (.str g)), some (.pu (.int (((0 : Nat) : Int) - 1))), F1, hb1, ?_, hg, by simp, (pre _).trans ?_⟩
      · subst hx0; exact p.out T (spL_spot hg) hxg
      · refine (dSeq_at (Eq.trans (dIfS_t ?_) ?_)).trans rfl
        · rw [dAnd_at eN, decide_eq_false hxg]
          show dOr _ _ _ _ = _
          rw [dOr_at eL]; rfl
        · refine (dSeq_at (dExpr_at appf)).trans ?_
          refine (dSeq_at (Eq.trans (dIfS_f rfl) rfl)).trans ?_
          exact (dSeq_at (dSet_at rfl)).trans rfl
    | succ j =>
      have hj' : (nms t)[j]? = some x := hj
      have hjl : j < lf.length := by
        have := (List.getElem?_eq_some_iff.mp hj').1
        rw [nms_len] at this; rw [p.len]; exact this
      have ek : (((j + 1 : Nat) : Int) - 1) = (j : Int) := by omega
      rw [ek] at other eL appf eN
      simp only [ek] at pre
      have hlf : (pkH b1 lf fd)[b.length]? = some (.lst (lf.map fun z => .pu (.int z))) := by rw [← hb1]; exact pk_lf
      have hlf2 : (pkH b1 lf (fd ++ [(x, g)]))[b.length]? = some (.lst (lf.map fun z => .pu (.int z))) := by rw [← hb1]; exact pk_lf
      have eG : dOp gtD (dOp ixD (dVar 8) (dVar 11)) (dC (.int 0)) [some (.ref 0), e1, e2, e3, some (.pu (.str f1)), some (.pu (.str x)), x6, some (.pu (.lst ((spL t).map sP))), some (.ref b.length), some (.ref (b.length + 1)), some (.pu (.str g)), some (.pu (.int (j : Int))), none] (pkH b1 lf fd) = .ok (.pu (.bl (decide (0 < lf[j]))), pkH b1 lf fd) := dOp_at (dOp_at rfl rfl (ix_box hlf hjl)) rfl gt_i
      have eL0 : decide ((j : Int) < 0) = false := decide_eq_false (by omega)
      by_cases hn : 0 < lf[j]
      · refine ⟨b1, lf.set j (lf[j] - 1), fd ++ [(x, g)], g, some (.pu (.str g)), some (.pu (.int (j : Int))), F1, hb1, p.from T hc hj' (spL_spot hx) (spL_spot hg) hxg (List.getElem?_eq_getElem hjl) hn, hg, by simp, (pre _).trans ?_⟩
        refine (dSeq_at (Eq.trans (dIfS_t ?_) ?_)).trans rfl
        · rw [dAnd_at eN, decide_eq_false hxg]
          show dOr _ _ _ _ = _
          rw [dOr_at eL, eL0]
          show dOp _ _ _ _ _ = _
          rw [eG, decide_eq_true hn]
        · refine (dSeq_at (dExpr_at appf)).trans ?_
          have eget : dOp geD (dVar 11) (dC (.int 0)) [some (.ref 0), e1, e2, e3, some (.pu (.str f1)), some (.pu (.str x)), x6, some (.pu (.lst ((spL t).map sP))), some (.ref b.length), some (.ref (b.length + 1)), some (.pu (.str g)), some (.pu (.int (j : Int))), none] (pkH b1 lf (fd ++ [(x, g)])) = .ok (.pu (.bl true), pkH b1 lf (fd ++ [(x, g)])) := by
            show R.ok (D.pu (.bl (decide (0 ≤ (j : Int)))), _) = _
            rw [decide_eq_true (by omega)]
          have eput : (dSeq (dPut (dVar 8) (dVar 11) (dOp subD (dOp ixD (dVar 8) (dVar 11)) (dC (.int 1)))) dNx) [some (.ref 0), e1, e2, e3, some (.pu (.str f1)), some (.pu (.str x)), x6, some (.pu (.lst ((spL t).map sP))), some (.ref b.length), some (.ref (b.length + 1)), some (.pu (.str g)), some (.pu (.int (j : Int))), none] (pkH b1 lf (fd ++ [(x, g)])) = .nx [some (.ref 0), e1, e2, e3, some (.pu (.str f1)), some (.pu (.str x)), x6, some (.pu (.lst ((spL t).map sP))), some (.ref b.length), some (.ref (b.length + 1)), some (.pu (.str g)), some (.pu (.int (j : Int))), none] (pkH b1 (lf.set j (lf[j] - 1)) (fd ++ [(x, g)])) := by
            refine (dSeq_at (dPut_at (v := .pu (.int (lf[j] - 1))) (dOp_at (dOp_at rfl rfl (ix_box hlf2 hjl)) rfl rfl) rfl rfl (put_box hlf2 hjl _))).trans ?_
            rw [← hb1, pk_setl]; rfl
          refine (dSeq_at (Eq.trans (dIfS_t eget) eput)).trans ?_
          exact (dSeq_at (dSet_at rfl)).trans rfl
      · obtain ⟨b', x', F', hb', hx', e⟩ := other
        refine ⟨b', lf, fd, x', some (.pu (.str g)), some (.pu (.int (j : Int))), F', hb', p, hx', by omega, (pre _).trans ?_⟩
        refine (dSeq_at (Eq.trans (dIfS_f ?_) e)).trans rfl
        rw [dAnd_at eN, decide_eq_false hxg]
        show dOr _ _ _ _ = _
        rw [dOr_at eL, eL0]
        show dOp _ _ _ _ _ = _
        rw [eG, decide_eq_false hn]
end
theorem rb3 (n : Int) (h : (decide (-4611686018427387904 ≤ n) && decide (n < 4611686018427387904)) = true) (env : Ev) (ih ih' : IH) (f : Ev → IH → R (D × IH)) (e : dArgs [f] env ih = .ok ([.pu (.int n)], ih')) : iR1 f env ih = .ok (iotaP 0 n.toNat, ih') := by
  unfold iR1; rw [e]; exact if_pos h
section
variable {t : List Fo} {way : Str → List Str} {c : List Int}
theorem pk_loop {ns : List Int} (T : TG t way) (hc : c.length = t.length) {f1 : Str} (hf1 : f1 ∈ spL t) (e1 e2 e3 : Option D) : ∀ (ps : List P) (b : IH) (lf : List Int) (fd : List (Str × Str)) (x : Str) (x6 x10 x11 : Option D), FD ns b → PI' t c lf fd → x ∈ spL t → fd.length + ps.length ≤ 100 →
    ∃ b' lf' fd' x' y6 y10 y11, FD ns b' ∧ b'.length = b.length ∧ PI' t c lf' fd' ∧ x' ∈ spL t ∧ fd'.length ≤ fd.length + ps.length ∧
      dForL (gN 6) pkB [] ps [some (.ref 0), e1, e2, e3, some (.pu (.str f1)), some (.pu (.str x)), x6, some (.pu (.lst ((spL t).map sP))), some (.ref b.length), some (.ref (b.length + 1)), x10, x11, none] (pkH b lf fd) = .nx [some (.ref 0), e1, e2, e3, some (.pu (.str f1)), some (.pu (.str x')), y6, some (.pu (.lst ((spL t).map sP))), some (.ref b.length), some (.ref (b.length + 1)), y10, y11, none] (pkH b' lf' fd')
  | [], b, lf, fd, x, x6, x10, x11, F, p, hx, _ => ⟨b, lf, fd, x, x6, x10, x11, F, rfl, p, hx, by simp, rfl⟩
  | q :: ps, b, lf, fd, x, x6, x10, x11, F, p, hx, hl => by
    rw [List.length_cons] at hl
    obtain ⟨b1, lf1, fd1, x1, z10, z11, F1, hb1, p1, hx1, hl1, ee⟩ := pk_step T hc hf1 F p hx (by omega) e1 e2 e3 (some (.pu q)) x10 x11
    obtain ⟨b2, lf2, fd2, x2, y6, y10, y11, F2, hb2, p2, hx2, hl2, ee2⟩ := pk_loop T hc hf1 e1 e2 e3 ps b1 lf1 fd1 x1 (some (.pu q)) z10 z11 F1 p1 hx1 (by omega)
    rw [hb1] at ee2 hb2
    refine ⟨b2, lf2, fd2, x2, y6, y10, y11, F2, hb2, p2, hx2, by rw [List.length_cons]; omega, ?_⟩
    rw [dForL]
    show (match pkB [some (.ref 0), e1, e2, e3, some (.pu (.str f1)), some (.pu (.str x)), some (.pu q), some (.pu (.lst ((spL t).map sP))), some (.ref b.length), some (.ref (b.length + 1)), x10, x11, none] (pkH b lf fd) with
        | .nx env' ih' => dForL (gN 6) pkB [] ps (wipeE [] env') ih'
        | .ct env' ih' => dForL (gN 6) pkB [] ps (wipeE [] env') ih'
        | .bk env' ih' => .nx env' ih'
        | r => r) = _
    rw [ee]; exact ee2
/-- the moves, sorted -/
def lsort (l : List (Str × Str)) : List (Str × Str) := isort (fun a b => leP (mvP a) (mvP b)) l
theorem lsort_map (l : List (Str × Str)) : isort leP (l.map mvP) = (lsort l).map mvP := (isort_map (le := fun a b => leP (mvP a) (mvP b)) (s := leP) mvP (fun _ _ => rfl) l).symm
theorem lsort_perm (l : List (Str × Str)) : (lsort l).Perm l := isort_perm l
theorem lok_sort {l : List (Str × Str)} (h1 : ∀ m ∈ l, spot t m.1) (h2 : ∀ m ∈ l, spot t m.2) (h3 : ∀ m ∈ l, m.1 ≠ m.2) (h4 : ∀ q ∈ (nms t).zip c, ((l.countP fun m => m.1 == q.1 : Nat) : Int) ≤ q.2) (h5 : l.length ≤ 100) : LOk t c (lsort l) := by
  have pm := lsort_perm l
  exact ⟨fun m hm => h1 m (pm.mem_iff.mp hm), fun m hm => h2 m (pm.mem_iff.mp hm), fun m hm => h3 m (pm.mem_iff.mp hm), isort_sorted (tot_le mvP) l, fun q hq => by rw [pm.countP_eq]; exact h4 q hq, by rw [pm.length_eq]; exact h5⟩
theorem canSort_mvs (T : TG t way) {l : List (Str × Str)} (h1 : ∀ m ∈ l, spot t m.1) (h2 : ∀ m ∈ l, spot t m.2) : canSort (l.map mvP) = true := canSort_prs fun q hq => ⟨sok_spot T (h1 q hq), sok_spot T (h2 q hq)⟩
theorem pack_at {ns : List Int} {ih : IH} (F : FD ns ih) (T : TG t way) (hc : c.length = t.length) (hp : ∀ n ∈ c, 0 ≤ n) (hf : t.length ≤ 12) : ∃ l ih', LOk t c l ∧ l.length ≤ 10 ∧ FD ns ih' ∧ f__law_pack [.ref 0, .pu (trP t), .pu (stP c), .pu (.int 10)] ih = .ok (.pu (loP l), ih') := by
  have P0 : PI' t c c [] := {
    len := hc
    src := fun m h => absurd h (List.not_mem_nil)
    tgt := fun m h => absurd h (List.not_mem_nil)
    ne := fun m h => absurd h (List.not_mem_nil)
    bal := fun i x a b h1 h2 h3 => by
      rw [h2] at h3
      cases h3
      exact ⟨by simp, hp _ (get_mem h2)⟩ }
  have spn : (spL t).map sP ≠ [] := by simp [spL]
  have spl : ((spL t).map sP).length ≤ 1000 := by simp [spL, nms_len]; omega
  have e1 : dLc false (gN 12) (iAny (dVar 1)) none (dOp ixD (dVar 12) (dC (.int 0))) [12] [some (.ref 0), some (.pu (trP t)), some (.pu (stP c)), some (.pu (.int 10)), none, none, none, none, none, none, none, none, none] ih = .ok (.pu (.lst ((nms t).map sP)), ih) := by
    have r := lc_all (hh := gN 12) (src := iAny (dVar 1)) (e := dOp ixD (dVar 12) (dC (.int 0))) (vs := [12]) (env := [some (.ref 0), some (.pu (trP t)), some (.pu (stP c)), some (.pu (.int 10)), none, none, none, none, none, none, none, none, none]) (ih := ih) (c := foP) (l := t) (fun f => [some (.ref 0), some (.pu (trP t)), some (.pu (stP c)), some (.pu (.int 10)), none, none, none, none, none, none, none, none, some (.pu (foP f))]) (fun f => .str f.1) rfl T.sl (fun _ _ => rfl) (fun _ _ => rfl)
    rw [r]; unfold nms; rw [List.map_map]; rfl
  have e2 : dOp addD (dLst [(dC (.str ""))]) (dLc false (gN 12) (iAny (dVar 1)) none (dOp ixD (dVar 12) (dC (.int 0))) [12]) [some (.ref 0), some (.pu (trP t)), some (.pu (stP c)), some (.pu (.int 10)), none, none, none, none, none, none, none, none, none] ih = .ok (.pu (.lst ((spL t).map sP)), ih) := dOp_at (d1 := .pu (.lst [.str ""])) rfl e1 (add_lst (by simp [nms_len]; omega))
  have e3 : dCall listB [(dVar 2)] [some (.ref 0), some (.pu (trP t)), some (.pu (stP c)), some (.pu (.int 10)), none, none, none, none, none, none, none, none, none] ih = .ok (.ref ih.length, ih ++ [.lst (c.map fun z => .pu (.int z))]) := by
    show R.ok (D.ref ih.length, ih ++ [Cl.lst ((c.map P.int).map .pu)]) = _
    rw [List.map_map]; rfl
  have e4 : dBox [] [some (.ref 0), some (.pu (trP t)), some (.pu (stP c)), some (.pu (.int 10)), none, none, none, none, none, none, none, none, none] (ih ++ [.lst (c.map fun z => .pu (.int z))]) = .ok (.ref (ih.length + 1), pkH ih c []) := by
    show R.ok (D.ref (ih ++ [Cl.lst (c.map fun z => .pu (.int z))]).length, (ih ++ [Cl.lst (c.map fun z => .pu (.int z))]) ++ [Cl.lst []]) = _
    unfold pkH; simp
  obtain ⟨q, k1, hq, hk1, ea⟩ := any_at (pk0 (lf := c) (fd := []) F) spn spl
  rw [pk_set F.pos] at ea
  obtain ⟨f1, hf1, rfl⟩ := List.mem_map.mp hq
  have F1 := F.set hk1
  obtain ⟨u, v, w, h⟩ := pk0 (lf := c) (fd := []) F1
  obtain ⟨d, k2, hd, hk2, ed⟩ := draw22 (s := 11) h (by decide) (by decide)
  rw [pk_set F1.pos] at ed
  have F2 := F1.set hk2
  obtain ⟨n, rfl⟩ := Int.eq_ofNat_of_zero_le hd.1
  obtain ⟨b', lf', fd', x', y6, y10, y11, F3, hb3, p3, hx3, hl3, el⟩ := pk_loop T hc hf1 (some (.pu (trP t))) (some (.pu (stP c))) (some (.pu (.int 10))) ((List.range n).map fun i : Nat => P.int (i : Int)) ((ih.set 0 k1).set 0 k2) c [] f1 none none none F2 P0 hf1 (by simp; omega)
  have hb0 : ((ih.set 0 k1).set 0 k2).length = ih.length := by simp
  rw [hb0] at el hb3
  have hfl : fd'.length ≤ 10 := by simp at hl3; omega
  refine ⟨lsort fd', b' ++ [.lst (lf'.map fun z => .pu (.int z)), .dead], lok_sort p3.src p3.tgt p3.ne (fun q hq => ?_) (by omega), by rw [(lsort_perm fd').length_eq]; exact hfl, F3.app _, ?_⟩
  · obtain ⟨i, hi, e⟩ := List.getElem_of_mem hq
    have h1 := zip_get (k := i) (q := q) (by rw [List.getElem?_eq_getElem hi, e])
    have hil : i < lf'.length := by
      have := (List.getElem?_eq_some_iff.mp h1.1).1
      rw [nms_len] at this; rw [p3.len]; exact this
    have := p3.bal i q.1 q.2 lf'[i] h1.1 h1.2 (List.getElem?_eq_getElem hil)
    omega
  · refine dFn_rt (b := b__law_pack) ?_
    refine (dSeq_at (Eq.trans (parN_at (dArgs3 e2 e3 e4) rfl) rfl)).trans ?_
    refine (dSeq_at (dSet_at (dCallF2 (d1 := .ref 0) rfl rfl ea))).trans ?_
    refine (dSeq_at (dSet_at rfl)).trans ?_
    refine (dSeq_at (env' := [some (.ref 0), some (.pu (trP t)), some (.pu (stP c)), some (.pu (.int 10)), some (.pu (.str f1)), some (.pu (.str x')), y6, some (.pu (.lst ((spL t).map sP))), some (.ref ih.length), some (.ref (ih.length + 1)), y10, y11, none]) (ih' := pkH b' lf' fd') ?_).trans ?_
    · have ei : iR1 (dCallF 2 f__law_draw [] [(dVar 0), (dOp addD (dVar 3) (dC (.int 1)))]) [some (.ref 0), some (.pu (trP t)), some (.pu (stP c)), some (.pu (.int 10)), some (.pu (.str f1)), some (.pu (.str f1)), none, some (.pu (.lst ((spL t).map sP))), some (.ref ih.length), some (.ref (ih.length + 1)), none, none, none] (pkH (ih.set 0 k1) c []) = .ok ((List.range n).map fun i : Nat => P.int (i : Int), pkH ((ih.set 0 k1).set 0 k2) c []) := by
        have ea2 : dArgs [(dCallF 2 f__law_draw [] [(dVar 0), (dOp addD (dVar 3) (dC (.int 1)))])] [some (.ref 0), some (.pu (trP t)), some (.pu (stP c)), some (.pu (.int 10)), some (.pu (.str f1)), some (.pu (.str f1)), none, some (.pu (.lst ((spL t).map sP))), some (.ref ih.length), some (.ref (ih.length + 1)), none, none, none] (pkH (ih.set 0 k1) c []) = .ok ([.pu (.int (n : Int))], pkH ((ih.set 0 k1).set 0 k2) c []) := dArgs1 (dCallF2 (d1 := .ref 0) rfl (d2 := .pu (.int 11)) rfl ed)
        have e7 : iotaP 0 (n : Int).toNat = (List.range n).map fun i : Nat => P.int (i : Int) := by
          rw [Int.toNat_natCast, iota_range]
          exact List.map_congr_left fun i _ => by rw [Int.zero_add]
        rw [← e7]
        exact rb3 (n : Int) (rb n (by omega)) _ _ _ _ ea2
      unfold dFor
      refine Eq.trans (congrArg (fun r => bindS _ r _) ei) ?_
      exact el
    · have ef : (pkH b' lf' fd')[ih.length + 1]? = some (.lst ((fd'.map mvP).map .pu)) := by rw [← hb3]; exact pk_fd
      refine dSeq_rt ((dSeq_at (env' := [some (.ref 0), some (.pu (trP t)), some (.pu (stP c)), some (.pu (.int 10)), some (.pu (.str f1)), some (.pu (.str x')), y6, some (.pu (.lst ((spL t).map sP))), some (.ref ih.length), some (.pu (.lst (fd'.map mvP))), y10, y11, none]) (ih' := b' ++ [.lst (lf'.map fun z => .pu (.int z)), .dead]) ?_).trans (dRet_at (dCall_at (d := .pu (.lst ((lsort fd').map mvP))) (dCall_at (f := dVar 9) (d := .pu (.lst (fd'.map mvP))) rfl ?_) rfl)))
      · show (match frz 8 (pkH b' lf' fd') (.ref (ih.length + 1)) with | some (p, ih') => RS.nx _ ih' | none => .stuck) = _
        rw [frz_lst ef, ← hb3]
        unfold pkH
        simp
      · show (if canSort (fd'.map mvP) = true then R.ok (D.pu (.lst (isort leP (fd'.map mvP))), _) else .stuck) = _
        rw [if_pos (canSort_mvs T p3.src p3.tgt), lsort_map]
end
theorem dCallP0 {φ : List D → IH → R (D × IH)} {q : P} {env : Ev} {ih : IH} (e : pf φ [] = some q) : dCallP 0 φ [] [] env ih = .ok (.pu q, ih) := by
  unfold dCallP
  show (match pf φ [] with | some p => R.ok (D.pu p, ih) | none => .stuck) = _
  rw [e]
/-! ### the law -/
def lapB : Ev → IH → RS := (dSeq (dAsg (gT [(gN 5), (gN 6)]) (dCallF 2 f__law_case [] [(dVar 1), (dC (.int 7))]))
    (dSeq (dSet 3 (dCallF 4 f__law_pack [] [(dVar 1), (dVar 5), (dVar 6), (dC (.int 10))]))
    (dSeq (dIfS (dOr (dNot (dCallP 3 f__law_is_right [] [(dVar 5), (dVar 6), (dVar 3)])) (dNot (dCallP 3 f__law_is_right [] [(dVar 5), (dVar 6), (dTup [])])))
    (dSeq (dRet (dC (.bl false)))
    dNx)
    dNx)
    (dSeq (dSet 4 (dCall tupleD [(dCall srtA [(dOp addD (dVar 3) (dOp mulA (dTup [(dTup [(dC (.str "")), (dOp ixD (dOp ixD (dVar 5) (dCallF 2 f__law_draw [] [(dVar 1), (dCall lenD [(dVar 5)])])) (dC (.int 0)))])]) (dOp addD (dC (.int 1)) (dCallF 2 f__law_draw [] [(dVar 1), (dC (.int 3))]))))])]))
    (dSeq (dIfS (dNot (dCallP 3 f__law_is_right [] [(dVar 5), (dVar 6), (dVar 4)]))
    (dSeq (dRet (dC (.bl false)))
    dNx)
    dNx)
    dNx)))))
theorem mul_rep {p : P} {n : Nat} {ih : IH} (h : n < 3) : mulA (.pu (.tup [p])) (.pu (.int (1 + (n : Int)))) ih = .ok (.pu (.tup (List.replicate (1 + n) p)), ih) := by
  match n, h with
  | 0, _ => rfl
  | 1, _ => rfl
  | 2, _ => rfl
theorem tup1_at {env : Ev} {ih ih1 : IH} {f : Ev → IH → R (D × IH)} {p : P} (e1 : f env ih = .ok (.pu p, ih1)) : dTup [f] env ih = .ok (.pu (.tup [p]), ih1) := by
  unfold dTup; rw [dArgs1 e1]; rfl
theorem lap_ok {ns : List Int} (e0 x2 x3 x4 x5 x6 : Option D) {ih : IH} (F : FD ns ih) : ∃ y3 y4 y5 y6 ih', FD ns ih' ∧ lapB [e0, some (.ref 0), x2, x3, x4, x5, x6] ih = .nx [e0, some (.ref 0), x2, y3, y4, y5, y6] ih' := by
  obtain ⟨t, c, way, ih1, T, S, C, h7, F1, c03, e1⟩ := case_at F
  obtain ⟨l, ih2, L, hl, F2, e2⟩ := pack_at F1 T S.len S.pos (by omega)
  obtain ⟨u, v, w, h⟩ := id F2
  have tpos : 0 < t.length := List.length_pos_iff.mpr T.non
  obtain ⟨d, k1, hd, hk1, e3⟩ := draw22 (s := (t.length : Int)) h (by omega) (by omega)
  obtain ⟨j, rfl⟩ := Int.eq_ofNat_of_zero_le hd.1
  have hj : j < t.length := by omega
  have F3 := F2.set hk1
  obtain ⟨u3, v3, w3, h3⟩ := id F3
  obtain ⟨d2, k2, hd2, hk2, e4⟩ := draw22 (s := 3) h3 (by decide) (by decide)
  obtain ⟨n, rfl⟩ := Int.eq_ofNat_of_zero_le hd2.1
  have hn : n < 3 := by omega
  have F4 := F3.set hk2
  have hy : t[j].1 ∈ nms t := List.mem_map_of_mem (List.getElem_mem hj)
  have C' : ∀ l', CG t c l' := fun _ => ⟨C.few, C.nsz, C.rsz, C.csz⟩
  have L0 : LOk t c [] := ⟨fun m h => absurd h List.not_mem_nil, fun m h => absurd h List.not_mem_nil, fun m h => absurd h List.not_mem_nil, .nil, fun q hq => by
    have := S.pos q.2 (List.of_mem_zip hq).2
    simpa using this, by simp⟩
  let l2 : List (Str × Str) := l ++ List.replicate (1 + n) (("" : Str), t[j].1)
  have m2 : ∀ m ∈ l2, m ∈ l ∨ m = (("" : Str), t[j].1) := fun m hm => by
    rcases List.mem_append.mp hm with z | z
    · exact .inl z
    · exact .inr (List.eq_of_mem_replicate z)
  have s1 : ∀ m ∈ l2, spot t m.1 := fun m hm => by
    rcases m2 m hm with z | z
    · exact L.src m z
    · rw [z]; exact .inl rfl
  have s2 : ∀ m ∈ l2, spot t m.2 := fun m hm => by
    rcases m2 m hm with z | z
    · exact L.tgt m z
    · rw [z]; exact .inr hy
  have L2 : LOk t c (lsort l2) := lok_sort s1 s2 (fun m hm => by
    rcases m2 m hm with z | z
    · exact L.ne m z
    · rw [z]; exact fun e => name_ne T.toTOk hy e.symm) (fun q hq => by
    have hx : (("" : Str) == q.1) = false := beq_eq_false_iff_ne.mpr fun e => name_ne T.toTOk (List.of_mem_zip hq).1 e.symm
    show (((l ++ List.replicate (1 + n) (("" : Str), t[j].1)).countP fun m => m.1 == q.1 : Nat) : Int) ≤ q.2
    rw [List.countP_append, List.countP_replicate]
    have := L.cnt q hq
    simp [hx]
    exact this) (by show (l ++ List.replicate (1 + n) (("" : Str), t[j].1)).length ≤ 100; rw [List.length_append, List.length_replicate]; omega)
  refine ⟨some (.pu (loP l)), some (.pu (loP (lsort l2))), some (.pu (trP t)), some (.pu (stP c)), (ih2.set 0 k1).set 0 k2, F4, ?_⟩
  refine (dSeq_at (env' := [e0, some (.ref 0), x2, x3, x4, some (.pu (trP t)), some (.pu (stP c))]) (ih' := ih1) ?_).trans ?_
  · unfold dAsg
    rw [dCallF2 (d1 := .ref 0) (d2 := .pu (.int 7)) (f1 := dVar 1) (f2 := dC (.int 7)) rfl rfl e1]
    rfl
  refine (dSeq_at (dSet_at (dCallF4 (d1 := .ref 0) rfl rfl rfl rfl e2))).trans ?_
  refine (dSeq_at (Eq.trans (dIfS_f ?_) rfl)).trans ?_
  · rw [dOr_at (dNot_at (dCallP3 (p1 := trP t) (p2 := stP c) (p3 := loP l) rfl rfl rfl (is_right_at T S L (C' l))))]
    show dNot _ _ _ = _
    exact dNot_at (dCallP3 (p1 := trP t) (p2 := stP c) (p3 := loP []) rfl rfl rfl (is_right_at T S L0 (C' [])))
  refine (dSeq_at (dSet_at (d := .pu (loP (lsort l2))) (ih' := (ih2.set 0 k1).set 0 k2) ?_)).trans ?_
  · have en : dTup [(dTup [(dC (.str "")), (dOp ixD (dOp ixD (dVar 5) (dCallF 2 f__law_draw [] [(dVar 1), (dCall lenD [(dVar 5)])])) (dC (.int 0)))])] [e0, some (.ref 0), x2, some (.pu (loP l)), x4, some (.pu (trP t)), some (.pu (stP c))] ih2 = .ok (.pu (.tup [mvP (("" : Str), t[j].1)]), ih2.set 0 k1) := by
      have e5 : dOp ixD (dOp ixD (dVar 5) (dCallF 2 f__law_draw [] [(dVar 1), (dCall lenD [(dVar 5)])])) (dC (.int 0)) [e0, some (.ref 0), x2, some (.pu (loP l)), x4, some (.pu (trP t)), some (.pu (stP c))] ih2 = .ok (.pu (.str t[j].1), ih2.set 0 k1) := by
        refine dOp_at2 (d1 := .pu (foP t[j])) (ih1 := ih2.set 0 k1) (dOp_at2 (d1 := .pu (trP t)) rfl (dCallF2 (d1 := .ref 0) rfl (d2 := .pu (.int (t.length : Int))) ?_ e3) (ix_tup (by rw [List.getElem?_map, List.getElem?_eq_getElem hj]; rfl))) rfl rfl
        show R.ok (D.pu (.int ((t.map foP).length : Int)), _) = _
        rw [List.length_map]
      exact tup1_at (tup2_at rfl e5)
    have ek : dOp addD (dC (.int 1)) (dCallF 2 f__law_draw [] [(dVar 1), (dC (.int 3))]) [e0, some (.ref 0), x2, some (.pu (loP l)), x4, some (.pu (trP t)), some (.pu (stP c))] (ih2.set 0 k1) = .ok (.pu (.int (1 + (n : Int))), (ih2.set 0 k1).set 0 k2) := dOp_at2 rfl (dCallF2 (d1 := .ref 0) rfl (d2 := .pu (.int 3)) rfl e4) rfl
    have em := dOp_at2 (od := mulA) en ek (mul_rep hn)
    have ea : addD (.pu (loP l)) (.pu (.tup (List.replicate (1 + n) (mvP (("" : Str), t[j].1))))) ((ih2.set 0 k1).set 0 k2) = .ok (.pu (.tup (l2.map mvP)), (ih2.set 0 k1).set 0 k2) := by
      show (if (l.map mvP).length + (List.replicate (1 + n) (mvP (("" : Str), t[j].1))).length ≤ SL then R.ok (D.pu (.tup (l.map mvP ++ List.replicate (1 + n) (mvP (("" : Str), t[j].1)))), _) else .stuck) = _
      rw [if_pos (by rw [List.length_map, List.length_replicate]; exact Nat.le_of_lt (sl100 (by omega)))]
      show _ = R.ok (D.pu (.tup ((l ++ List.replicate (1 + n) (("" : Str), t[j].1)).map mvP)), _)
      rw [List.map_append, List.map_replicate]
    refine dCall_at2 (d := .pu (.lst ((lsort l2).map mvP))) (dCall_at2 (dOp_at2 (d1 := .pu (loP l)) rfl em ea) ?_) rfl
    show (if canSort (l2.map mvP) = true then R.ok (D.pu (.lst (isort leP (l2.map mvP))), _) else .stuck) = _
    rw [if_pos (canSort_mvs T s1 s2), lsort_map]
  exact (dSeq_at (Eq.trans (dIfS_f (dNot_at (dCallP3 (p1 := trP t) (p2 := stP c) (p3 := loP (lsort l2)) rfl rfl rfl (is_right_at T S L2 (C' _))))) rfl)).trans rfl
theorem laps_ok {ns : List Int} (e0 : Option D) : ∀ (ps : List P) (x2 x3 x4 x5 x6 : Option D) (ih : IH), FD ns ih → ∃ y2 y3 y4 y5 y6 ih', FD ns ih' ∧ dForL (gN 2) lapB [] ps [e0, some (.ref 0), x2, x3, x4, x5, x6] ih = .nx [e0, some (.ref 0), y2, y3, y4, y5, y6] ih'
  | [], x2, x3, x4, x5, x6, ih, F => ⟨x2, x3, x4, x5, x6, ih, F, rfl⟩
  | p :: ps, x2, x3, x4, x5, x6, ih, F => by
    obtain ⟨y3, y4, y5, y6, ih1, F1, e⟩ := lap_ok e0 (some (.pu p)) x3 x4 x5 x6 F
    obtain ⟨z2, z3, z4, z5, z6, ih2, F2, e2⟩ := laps_ok e0 ps (some (.pu p)) y3 y4 y5 y6 ih1 F1
    refine ⟨z2, z3, z4, z5, z6, ih2, F2, ?_⟩
    rw [dForL]
    show (match lapB [e0, some (.ref 0), some (.pu p), x3, x4, x5, x6] ih with
        | .nx env' ih' => dForL (gN 2) lapB [] ps (wipeE [] env') ih'
        | .ct env' ih' => dForL (gN 2) lapB [] ps (wipeE [] env') ih'
        | .bk env' ih' => .nx env' ih'
        | r => r) = _
    rw [e]; exact e2
/-! ### the cases by hand -/
def t12 : List Fo := [("a", "", 30), ("b", "a", 29), ("c", "b", 28), ("d", "c", 27), ("e", "d", 26), ("f", "e", 25), ("g", "f", 24), ("h", "g", 23), ("i", "h", 22), ("j", "i", 21), ("k", "j", 20), ("l", "k", 19)]
def fl12 : List (Str × Str) := t12.map fun f => (f.1, f.2.1)
def c12 : List Int := [6, 0, 0, 0, 0, 0, 0, 0, 0, 0, 0, 12]
def l24 : List (Str × Str) := List.replicate 12 (("" : Str), ("l" : Str)) ++ List.replicate 6 (("a" : Str), ("f" : Str)) ++ List.replicate 6 (("l" : Str), ("" : Str))
def w12 : Str → List Str := up fl12 12
instance (t : List Fo) (x : Str) : Decidable (spot t x) := inferInstanceAs (Decidable (x = "" ∨ x ∈ nms t))
theorem up_len (fl : List (Str × Str)) : ∀ k x, (up fl k x).length ≤ k := by
  intro k
  induction k with
  | zero => intro x; exact Nat.le_refl _
  | succ k e =>
    intro x
    unfold up
    split
    · simp
    · rw [List.length_cons]; have := e (parF fl x); omega
theorem nm12 : ∀ x ∈ nms t12, pf f_is_name [.pu (.str x)] = some (.bl true) := by
  intro x hx
  simp only [nms, t12, List.map_cons, List.map_nil, List.mem_cons, List.not_mem_nil, or_false] at hx
  rcases hx with rfl | rfl | rfl | rfl | rfl | rfl | rfl | rfl | rfl | rfl | rfl | rfl <;> kernel_rfl
theorem T12 : TG t12 w12 where
  nd := by decide +kernel
  ne := by decide +kernel
  w0 := up_emp _
  w1 := by decide +kernel
  par := by decide +kernel
  len := fun x => Nat.le_trans (up_len _ _ _) (by decide)
  ndw := by decide +kernel
  sub := by decide +kernel
  lt := by decide +kernel
  nmg := nm12
  sok := by decide +kernel
  room := by decide +kernel
  asc := by decide +kernel
  ascP := by decide +kernel
  few := by decide +kernel
  wl := by decide +kernel
  non := by decide +kernel
theorem S12 : SOk t12 w12 c12 := ⟨by decide +kernel, by decide +kernel, by decide +kernel⟩
theorem L24 : LOk t12 c12 l24 := ⟨by decide +kernel, by decide +kernel, by decide +kernel, by decide +kernel, by decide +kernel, by decide +kernel⟩
theorem C12 : CG t12 c12 l24 := ⟨by decide +kernel, by decide +kernel, by decide +kernel, by decide +kernel⟩
theorem hand_ok : pf f__law_hand_right [] = some (.bl true) := by
  refine pf_at (φ := f__law_hand_right) (ih := [.dead, .dead]) (dFn_rt (b := b__law_hand_right) ?_)
  refine (dSeq_at (env' := [none, none, none, none, some (.pu (trP [("a", "top", 2), ("b", "top", 1), ("c", "", 1), ("top", "", 3)])), some (.pu (stP [1, 1, 1, 0])), none, none]) (ih' := []) (by kernel_rfl)).trans ?_
  refine (dSeq_at (env' := [some (.pu (loP [("", "a"), ("", "a"), ("b", "c")])), none, none, none, some (.pu (trP [("a", "top", 2), ("b", "top", 1), ("c", "", 1), ("top", "", 3)])), some (.pu (stP [1, 1, 1, 0])), none, none]) (ih' := []) (by kernel_rfl)).trans ?_
  refine (dSeq_at (env' := [some (.pu (loP [("", "a"), ("", "a"), ("b", "c")])), some (.pu (.lst [stP [3, 0, 2, 0], .bl false, nmsP ["a", "c"]])), none, none, some (.pu (trP [("a", "top", 2), ("b", "top", 1), ("c", "", 1), ("top", "", 3)])), some (.pu (stP [1, 1, 1, 0])), none, none]) (ih' := []) (by kernel_rfl)).trans ?_
  refine (dSeq_at (env' := [some (.pu (loP [("", "a"), ("", "a"), ("b", "c")])), some (.pu (.lst [stP [3, 0, 2, 0], .bl false, nmsP ["a", "c"]])), none, none, some (.pu (trP [("a", "top", 2), ("b", "top", 1), ("c", "", 1), ("top", "", 3)])), some (.pu (stP [1, 1, 1, 0])), none, none]) (ih' := []) (by kernel_rfl)).trans ?_
  refine (dSeq_at (env' := [some (.pu (loP [("", "a"), ("", "a"), ("b", "c")])), some (.pu (.lst [stP [3, 0, 2, 0], .bl false, nmsP ["a", "c"]])), none, none, some (.pu (trP [("a", "top", 2), ("b", "top", 1), ("c", "", 1), ("top", "", 3)])), some (.pu (stP [1, 1, 1, 0])), some (.pu (.str "abcdefghijkl")), some (.ref 0)]) (ih' := [.lst []]) (by kernel_rfl)).trans ?_
  refine (dSeq_at (env' := [some (.pu (loP [("", "a"), ("", "a"), ("b", "c")])), some (.pu (.lst [stP [3, 0, 2, 0], .bl false, nmsP ["a", "c"]])), some (.pu (.int 11)), none, some (.pu (trP [("a", "top", 2), ("b", "top", 1), ("c", "", 1), ("top", "", 3)])), some (.pu (stP [1, 1, 1, 0])), some (.pu (.str "abcdefghijkl")), some (.ref 0)]) (ih' := [.lst ((t12.map foP).map .pu)]) (by kernel_rfl)).trans ?_
  refine (dSeq_at (env' := [some (.pu (loP l24)), some (.pu (.lst [stP [3, 0, 2, 0], .bl false, nmsP ["a", "c"]])), some (.pu (.int 11)), none, some (.pu (trP [("a", "top", 2), ("b", "top", 1), ("c", "", 1), ("top", "", 3)])), some (.pu (stP [1, 1, 1, 0])), some (.pu (.str "abcdefghijkl")), some (.ref 0)]) (ih' := [.lst ((t12.map foP).map .pu)]) (by kernel_rfl)).trans ?_
  refine (dSeq_at (env' := [some (.pu (loP l24)), some (.pu (.lst [stP [3, 0, 2, 0], .bl false, nmsP ["a", "c"]])), some (.pu (.int 11)), none, some (.pu (trP [("a", "top", 2), ("b", "top", 1), ("c", "", 1), ("top", "", 3)])), some (.pu (stP [1, 1, 1, 0])), some (.pu (.str "abcdefghijkl")), some (.pu (.lst (t12.map foP)))]) (ih' := [.dead]) ?_).trans ?_
  · refine (dSeq_at (env' := [some (.pu (loP l24)), some (.pu (.lst [stP [3, 0, 2, 0], .bl false, nmsP ["a", "c"]])), some (.pu (.int 11)), none, some (.pu (trP [("a", "top", 2), ("b", "top", 1), ("c", "", 1), ("top", "", 3)])), some (.pu (stP [1, 1, 1, 0])), some (.pu (.str "abcdefghijkl")), some (.pu (.lst (t12.map foP)))]) (ih' := [.dead]) (by kernel_rfl)).trans ?_
    refine Eq.trans (dIfS_f (dNot_at (b := true) (dCallP3 (p1 := trP t12) (p2 := stP c12) (p3 := loP l24) (by kernel_rfl) (by kernel_rfl) (by kernel_rfl) (is_right_at T12 S12 L24 C12)))) (by kernel_rfl)
  · kernel_rfl
theorem law_math (ns : List Int) (h : ns.length ≤ 63) : ∃ ih, f_law [.scr ns] [] = .ok (.pu (.bl true), ih) := by
  have ef : f__law_feed [.scr ns] [] = .ok (.ref 0, [fdC ns 0 0 0]) := feed_ok ns h
  obtain ⟨y2, y3, y4, y5, y6, ih', F, e⟩ := laps_ok (ns := ns) (some (.scr ns)) [.int 0, .int 1, .int 2] none none none none none [fdC ns 0 0 0] ⟨0, 0, 0, rfl⟩
  refine ⟨ih', dFn_rt (b := b_law) ?_⟩
  refine (dSeq_at (dSet_at (dCallF1 (d1 := .scr ns) rfl ef))).trans ?_
  refine (dSeq_at (Eq.trans (dIfS_f ?_) rfl)).trans ?_
  · exact dNot_at (b := true) (dCallP0 hand_ok)
  refine (dSeq_at (env' := [some (.scr ns), some (.ref 0), y2, y3, y4, y5, y6]) (ih' := ih') ?_).trans (dSeq_rt (dRet_at rfl))
  exact e

theorem all_of {w : World} {K : PySem.W.Frag} {mg : Str → Option Value} {h base : Heap} (X : K.In h) (G : h.Ns mainGlobals mg) (c : He.SaysD fa fn K) (d : (ex.all fun q => empB q.1 q.2 K) = true) : All ⟨PySem.Challenge.pw_roomrings_k22_whole_ends, w, K, mg, base⟩ where
  prog := rfl
  n_all := He.free_ok X G (c.fact 53 (f := .free "all") rfl)
  n_bool := He.free_ok X G (c.fact 54 (f := .free "bool") rfl)
  n_dict := He.free_ok X G (c.fact 55 (f := .free "dict") rfl)
  n_enumerate := He.free_ok X G (c.fact 56 (f := .free "enumerate") rfl)
  n_int := He.free_ok X G (c.fact 57 (f := .free "int") rfl)
  n_isinstance := He.free_ok X G (c.fact 58 (f := .free "isinstance") rfl)
  n_len := He.free_ok X G (c.fact 59 (f := .free "len") rfl)
  n_list := He.free_ok X G (c.fact 60 (f := .free "list") rfl)
  n_range := He.free_ok X G (c.fact 61 (f := .free "range") rfl)
  n_repr := He.free_ok X G (c.fact 62 (f := .free "repr") rfl)
  n_set := He.free_ok X G (c.fact 63 (f := .free "set") rfl)
  n_sorted := He.free_ok X G (c.fact 64 (f := .free "sorted") rfl)
  n_str := He.free_ok X G (c.fact 65 (f := .free "str") rfl)
  n_sum := He.free_ok X G (c.fact 66 (f := .free "sum") rfl)
  n_tuple := He.free_ok X G (c.fact 67 (f := .free "tuple") rfl)
  n_zip := He.free_ok X G (c.fact 68 (f := .free "zip") rfl)
  c_LETTERS := He.str_ok X G (c.fact 51 (f := .str "LETTERS" "abcdefghijklmnopqrstuvwxyz") rfl)
  c_MOST_LETTERS := He.int_ok X G (c.fact 52 (f := .int "MOST_LETTERS" (8)) rfl)
  d_names_in := (c.def_ 0 (d := d_0) rfl).elim fun fd F => ⟨_, fd, F, He.glo_ok X G (c.fact 0 (f := .glo "names_in") rfl)⟩
  d_parents_by := (c.def_ 1 (d := d_1) rfl).elim fun fd F => ⟨_, fd, F, He.glo_ok X G (c.fact 1 (f := .glo "parents_by") rfl)⟩
  d_rooms_by := (c.def_ 2 (d := d_2) rfl).elim fun fd F => ⟨_, fd, F, He.glo_ok X G (c.fact 2 (f := .glo "rooms_by") rfl)⟩
  d_ways_by := (c.def_ 3 (d := d_3) rfl).elim fun fd F => ⟨_, fd, F, He.glo_ok X G (c.fact 3 (f := .glo "ways_by") rfl)⟩
  d_counts_by := (c.def_ 4 (d := d_4) rfl).elim fun fd F => ⟨_, fd, F, He.glo_ok X G (c.fact 4 (f := .glo "counts_by") rfl)⟩
  d_uses_by := (c.def_ 5 (d := d_5) rfl).elim fun fd F => ⟨_, fd, F, He.glo_ok X G (c.fact 5 (f := .glo "uses_by") rfl)⟩
  d_frees_by := (c.def_ 6 (d := d_6) rfl).elim fun fd F => ⟨_, fd, F, He.glo_ok X G (c.fact 6 (f := .glo "frees_by") rfl)⟩
  d_stand_by := (c.def_ 7 (d := d_7) rfl).elim fun fd F => ⟨_, fd, F, He.glo_ok X G (c.fact 7 (f := .glo "stand_by") rfl)⟩
  d_is_integer := (c.def_ 8 (d := d_8) rfl).elim fun fd F => ⟨_, fd, F, He.glo_ok X G (c.fact 8 (f := .glo "is_integer") rfl)⟩
  d_is_number := (c.def_ 9 (d := d_9) rfl).elim fun fd F => ⟨_, fd, F, He.glo_ok X G (c.fact 9 (f := .glo "is_number") rfl)⟩
  d_is_name := (c.def_ 10 (d := d_10) rfl).elim fun fd F => ⟨_, fd, F, He.glo_ok X G (c.fact 10 (f := .glo "is_name") rfl)⟩
  d_is_spot := (c.def_ 11 (d := d_11) rfl).elim fun fd F => ⟨_, fd, F, He.glo_ok X G (c.fact 11 (f := .glo "is_spot") rfl)⟩
  d_is_pair := (c.def_ 12 (d := d_12) rfl).elim fun fd F => ⟨_, fd, F, He.glo_ok X G (c.fact 12 (f := .glo "is_pair") rfl)⟩
  d_is_triple := (c.def_ 13 (d := d_13) rfl).elim fun fd F => ⟨_, fd, F, He.glo_ok X G (c.fact 13 (f := .glo "is_triple") rfl)⟩
  d_is_folder := (c.def_ 14 (d := d_14) rfl).elim fun fd F => ⟨_, fd, F, He.glo_ok X G (c.fact 14 (f := .glo "is_folder") rfl)⟩
  d_is_move := (c.def_ 15 (d := d_15) rfl).elim fun fd F => ⟨_, fd, F, He.glo_ok X G (c.fact 15 (f := .glo "is_move") rfl)⟩
  d_first_ringed := (c.def_ 16 (d := d_16) rfl).elim fun fd F => ⟨_, fd, F, He.glo_ok X G (c.fact 16 (f := .glo "first_ringed") rfl)⟩
  d_first_unparented := (c.def_ 17 (d := d_17) rfl).elim fun fd F => ⟨_, fd, F, He.glo_ok X G (c.fact 17 (f := .glo "first_unparented") rfl)⟩
  d_tree_fault := (c.def_ 18 (d := d_18) rfl).elim fun fd F => ⟨_, fd, F, He.glo_ok X G (c.fact 18 (f := .glo "tree_fault") rfl)⟩
  d_stand_fault := (c.def_ 19 (d := d_19) rfl).elim fun fd F => ⟨_, fd, F, He.glo_ok X G (c.fact 19 (f := .glo "stand_fault") rfl)⟩
  d_is_move_of := (c.def_ 20 (d := d_20) rfl).elim fun fd F => ⟨_, fd, F, He.glo_ok X G (c.fact 20 (f := .glo "is_move_of") rfl)⟩
  d_moves_fault := (c.def_ 21 (d := d_21) rfl).elim fun fd F => ⟨_, fd, F, He.glo_ok X G (c.fact 21 (f := .glo "moves_fault") rfl)⟩
  d_lot_fault := (c.def_ 22 (d := d_22) rfl).elim fun fd F => ⟨_, fd, F, He.glo_ok X G (c.fact 22 (f := .glo "lot_fault") rfl)⟩
  d_want := (c.def_ 23 (d := d_23) rfl).elim fun fd F => ⟨_, fd, F, He.glo_ok X G (c.fact 23 (f := .glo "want") rfl)⟩
  d_want_tree := (c.def_ 24 (d := d_24) rfl).elim fun fd F => ⟨_, fd, F, He.glo_ok X G (c.fact 24 (f := .glo "want_tree") rfl)⟩
  d_want_stand := (c.def_ 25 (d := d_25) rfl).elim fun fd F => ⟨_, fd, F, He.glo_ok X G (c.fact 25 (f := .glo "want_stand") rfl)⟩
  d_want_lot := (c.def_ 26 (d := d_26) rfl).elim fun fd F => ⟨_, fd, F, He.glo_ok X G (c.fact 26 (f := .glo "want_lot") rfl)⟩
  d_want_case := (c.def_ 27 (d := d_27) rfl).elim fun fd F => ⟨_, fd, F, He.glo_ok X G (c.fact 27 (f := .glo "want_case") rfl)⟩
  d_want_lots := (c.def_ 28 (d := d_28) rfl).elim fun fd F => ⟨_, fd, F, He.glo_ok X G (c.fact 28 (f := .glo "want_lots") rfl)⟩
  d_counts_at := (c.def_ 29 (d := d_29) rfl).elim fun fd F => ⟨_, fd, F, He.glo_ok X G (c.fact 29 (f := .glo "counts_at") rfl)⟩
  d_misfits_at := (c.def_ 30 (d := d_30) rfl).elim fun fd F => ⟨_, fd, F, He.glo_ok X G (c.fact 30 (f := .glo "misfits_at") rfl)⟩
  d_end_counts := (c.def_ 31 (d := d_31) rfl).elim fun fd F => ⟨_, fd, F, He.glo_ok X G (c.fact 31 (f := .glo "end_counts") rfl)⟩
  d_misfits := (c.def_ 32 (d := d_32) rfl).elim fun fd F => ⟨_, fd, F, He.glo_ok X G (c.fact 32 (f := .glo "misfits") rfl)⟩
  d_fits := (c.def_ 33 (d := d_33) rfl).elim fun fd F => ⟨_, fd, F, He.glo_ok X G (c.fact 33 (f := .glo "fits") rfl)⟩
  d__law_feed := (c.def_ 34 (d := d_34) rfl).elim fun fd F => ⟨_, fd, F, He.glo_ok X G (c.fact 34 (f := .glo "_law_feed") rfl)⟩
  d__law_draw := (c.def_ 35 (d := d_35) rfl).elim fun fd F => ⟨_, fd, F, He.glo_ok X G (c.fact 35 (f := .glo "_law_draw") rfl)⟩
  d__law_any := (c.def_ 36 (d := d_36) rfl).elim fun fd F => ⟨_, fd, F, He.glo_ok X G (c.fact 36 (f := .glo "_law_any") rfl)⟩
  d__law_wood := (c.def_ 37 (d := d_37) rfl).elim fun fd F => ⟨_, fd, F, He.glo_ok X G (c.fact 37 (f := .glo "_law_wood") rfl)⟩
  d__law_around := (c.def_ 38 (d := d_38) rfl).elim fun fd F => ⟨_, fd, F, He.glo_ok X G (c.fact 38 (f := .glo "_law_around") rfl)⟩
  d__law_use := (c.def_ 39 (d := d_39) rfl).elim fun fd F => ⟨_, fd, F, He.glo_ok X G (c.fact 39 (f := .glo "_law_use") rfl)⟩
  d__law_uses := (c.def_ 40 (d := d_40) rfl).elim fun fd F => ⟨_, fd, F, He.glo_ok X G (c.fact 40 (f := .glo "_law_uses") rfl)⟩
  d__law_case := (c.def_ 41 (d := d_41) rfl).elim fun fd F => ⟨_, fd, F, He.glo_ok X G (c.fact 41 (f := .glo "_law_case") rfl)⟩
  d__law_pack := (c.def_ 42 (d := d_42) rfl).elim fun fd F => ⟨_, fd, F, He.glo_ok X G (c.fact 42 (f := .glo "_law_pack") rfl)⟩
  d__law_enters := (c.def_ 43 (d := d_43) rfl).elim fun fd F => ⟨_, fd, F, He.glo_ok X G (c.fact 43 (f := .glo "_law_enters") rfl)⟩
  d__law_leaves := (c.def_ 44 (d := d_44) rfl).elim fun fd F => ⟨_, fd, F, He.glo_ok X G (c.fact 44 (f := .glo "_law_leaves") rfl)⟩
  d__law_moved := (c.def_ 45 (d := d_45) rfl).elim fun fd F => ⟨_, fd, F, He.glo_ok X G (c.fact 45 (f := .glo "_law_moved") rfl)⟩
  d__law_end := (c.def_ 46 (d := d_46) rfl).elim fun fd F => ⟨_, fd, F, He.glo_ok X G (c.fact 46 (f := .glo "_law_end") rfl)⟩
  d__law_same := (c.def_ 47 (d := d_47) rfl).elim fun fd F => ⟨_, fd, F, He.glo_ok X G (c.fact 47 (f := .glo "_law_same") rfl)⟩
  d__law_is_right := (c.def_ 48 (d := d_48) rfl).elim fun fd F => ⟨_, fd, F, He.glo_ok X G (c.fact 48 (f := .glo "_law_is_right") rfl)⟩
  d__law_hand_right := (c.def_ 49 (d := d_49) rfl).elim fun fd F => ⟨_, fd, F, He.glo_ok X G (c.fact 49 (f := .glo "_law_hand_right") rfl)⟩
  d_law := (c.def_ 50 (d := d_50) rfl).elim fun fd F => ⟨_, fd, F, He.glo_ok X G (c.fact 50 (f := .glo "law") rfl)⟩
theorem law_fn {w : World} {K : PySem.W.Frag} {mg : Str → Option Value} {h : Heap} {f : Addr} (X : K.In h) (G : h.Ns mainGlobals mg) (hf : mg ("law" : Str) = some (.ref f)) (c : He.SaysD fa fn K) (d : (ex.all fun q => empB q.1 q.2 K) = true) :
    ∃ fd : FuncData, (∀ (s : Shared) (u : Value), BindsTo s fd ⟨[u], []⟩ [("_law_script", u)]) ∧ ∀ base : Heap, K.In base → base.Ns mainGlobals mg → FnG ⟨PySem.Challenge.pw_roomrings_k22_whole_ends, w, K, mg, base⟩ 13 f fd ["_law_script"] f_law := by
  obtain ⟨fd, F⟩ := c.def_ 50 (d := d_50) rfl
  have e := hf.symm.trans (He.glo_ok X G (c.fact 50 (f := .glo "law") rfl))
  cases e
  have b := FunD.bindsA (ps := ["_law_script"]) F fun _ _ _ _ _ _ us hl => match us, hl with | [_], _ => rfl
  exact ⟨fd, fun s u => b s [u] rfl, fun base _ _ => fnG_of F s_law (w_law (all_of X G c d))⟩
end LawP

open PySem PySem.W PySem.Calls PyProof.Rows
theorem PySem.Challenge.cw_roomrings_k22_whole_ends_holds : PySem.Challenge.rw_roomrings_k22_whole_ends.Holds := by
  w_on; o_law
  refine HandSHeadRun.head_any (r := OpenLaw.row PySem.Challenge.rw_roomrings_k22_whole_ends) (q := view (OpenLaw.row PySem.Challenge.rw_roomrings_k22_whole_ends).prog [64]) (H := LawP.hk) (ob := LawP.ob) (M := 6000) (loose := LawP.lo) (d := HandSHeadRun.topDef (OpenLaw.row PySem.Challenge.rw_roomrings_k22_whole_ends).prog 64) (kwd := []) LawP.ob_eq
    (by kernel_rfl) (fun s => by kernel_rfl) LawP.headRun (by kernel_rfl) (by kernel_rfl) (by kernel_rfl) (by rfl) (by first | assumption | decide +kernel) (by decide +kernel) ⟨rfl, rfl, rfl, rfl, rfl, by decide +kernel⟩ ?hw ?hc
  case hw => w_witness2
  case hc =>
    refine Dn.walk_ofG (l := PySem.Challenge.rw_roomrings_k22_whole_ends) (n := 63) (k := 13) (x := "_law_script") (φ := LawP.f_law) rfl (by decide) (by kernel_rfl) ⟨rfl, by decide, by decide⟩ ?F LawP.law_math
    intro w mg fa h Y G hmg0
    obtain ⟨K, KX, c, dd⟩ := Y
    have hmg : mg ("law" : PySem.Str) = some (.ref fa) := by
      have e : (HandSHeadRun.topDef (OpenLaw.row PySem.Challenge.rw_roomrings_k22_whole_ends).prog 64).name = ("law" : PySem.Str) := by kernel_rfl
      rw [← e]
      exact hmg0
    obtain ⟨fd, hb, hF⟩ := LawP.law_fn (w := w) KX G hmg c dd
    exact ⟨K, fd, KX, hb, hF⟩
