import PyProof.Rows.All
import Wide.All
import OpenK.AllK
import Wide.FinOn
import HandS.ForMost
import HandS.ForExc
import HandS.Defaults
import HandS.Star
import HandS.Flow
import HandS.IsInst
import HandS.TupAny
import HandS.NoneIn
import HandS.Strs
import HandS.Zip
import HandS.MakeKw
import HandS.Wide
import HandS.WideBits
import KE.GoesNew
import KE.GoesMore
import HandS.SortKw
import KE.KUnpackStar
import PyProof.Rows.SeqMore3
import PyProof.FactsAll.list
import PySem.Challenge.RW_countfold_k13_whole_sums_of_things
import HandS.MakeKwOnly
import KE.KDictZip
import HandS.RaiseMore
import HandS.Ends
import HandS.HeadEnd
import PyProof.ReprLen
import KE.KStateDown
import HandS.Head0
import HandS.Head1
import HandS.Head2
import HandS.HeadHook1
import HandS.HeadHook2
set_option Elab.async false
set_option linter.all false
set_option maxRecDepth 100000
set_option maxHeartbeats 0
/-! Cf1: data, bases, the judgements of a value logic over HandS. -/
namespace Cf
open PySem PySem.Spec PyProof.Rows L2

/-! ### data -/
inductive Dt where
  | non
  | bl (b : Bool)
  | int (i : Int)
  | str (s : PySem.Str)
  | ty (n : String)
  | tup (xs : List Dt)
  | lst (xs : List Dt)
  | nms (ns : List PySem.Str)
  | tlk (ss ns : List PySem.Str) (top : Int)
  | cell (a : Addr)
  | scr (ns : List Int)
  | dic (kvs : List (PySem.Str × Int))

/-- all that is tracked stays -/
def Ex (H H' : Hp) : Prop := ∀ a o, H a = some o → H' a = some o
theorem Ex.refl (H : Hp) : Ex H H := fun _ _ h => h
theorem Ex.trans {H H1 H2 : Hp} (a : Ex H H1) (b : Ex H1 H2) : Ex H H2 := fun x o h => b x o (a x o h)
theorem Ex.new {H : Hp} {p : Addr} {o : HO} (h : H p = none) : Ex H (upd H p o) := fun a u e => by
  rw [upd_ne (ne_of_none e h)]
  exact e
theorem Ex.rd {H H' : Hp} {a : Addr} {u : HO} (e : Ex H H') (h : Rd H a u) : Rd H' a u := by
  rcases h with h | ⟨o, h⟩
  · exact .inl (e a _ h)
  · exact .inr ⟨o, e a _ h⟩
theorem Ex.l {K : PySem.W.Frag} {H H' : Hp} {a : Addr} {xs : List V} (e : Ex H H') (h : SqL K H a xs) : SqL K H' a xs := by
  rcases h with h | h
  · exact .inl (e.rd h)
  · exact .inr h
theorem Ex.t {K : PySem.W.Frag} {H H' : Hp} {a : Addr} {xs : List V} (e : Ex H H') (h : SqT K H a xs) : SqT K H' a xs := by
  rcases h with h | h
  · exact .inl (e.rd h)
  · exact .inr h
theorem Ex.none {H H' : Hp} {p : Addr} (e : Ex H H') (h : H' p = Option.none) : H p = Option.none := by
  cases q : H p with
  | none => rfl
  | some o =>
    rw [e p o q] at h
    cases h

/-- a tuple of names whose own object is known (it may be asked for its methods) -/
def NmsAt (B : Hp) (a : Addr) (ns : List PySem.Str) : Prop :=
  ∃ o : Obj, B a = some (.frz o (.tup (ns.map V.str))) ∧ o.cls = .type "tuple" ∧ o.dict = none
/-- a talk's fields -/
def tlkFs (p q : Addr) (top : Int) : List (PySem.Str × V) := putF "top" (.int top) (putF "number_names" (.ref q) (putF "set_names" (.ref p) []))
def TlkAt (C : Addr) (B : Hp) (a : Addr) (ss ns : List PySem.Str) (top : Int) : Prop :=
  ∃ dx p q, B a = some (.ins C dx (tlkFs p q top)) ∧ NmsAt B p ss ∧ NmsAt B q ns

mutual
def De (K : PySem.W.Frag) (C : Addr) (B : Hp) : Dt → V → Prop
  | .non, v => v = .non
  | .bl b, v => v = .bl b
  | .int i, v => v = .int i
  | .str s, v => v = .str s
  | .ty n, v => v = .ty n
  | .tup ds, v => ∃ a xs, v = .ref a ∧ SqT K B a xs ∧ DeAll K C B ds xs
  | .lst ds, v => ∃ a xs, v = .ref a ∧ B a = some (.lst xs) ∧ DeAll K C B ds xs
  | .nms ns, v => ∃ a, v = .ref a ∧ NmsAt B a ns
  | .tlk ss ns top, v => ∃ a, v = .ref a ∧ TlkAt C B a ss ns top
  | .cell a, v => v = .ref a
  | .scr ns, v => ∃ a, v = .ref a ∧ SqL K B a (ns.map V.int)
  | .dic kvs, v => ∃ a, v = .ref a ∧ B a = some (.dK (kvs.map fun p => (Sum.inr p.1, V.int p.2)))
def DeAll (K : PySem.W.Frag) (C : Addr) (B : Hp) : List Dt → List V → Prop
  | [], vs => vs = []
  | d :: ds, vs => ∃ x xs, vs = x :: xs ∧ De K C B d x ∧ DeAll K C B ds xs
end

theorem NmsAt.mono {B B' : Hp} {a : Addr} {ns : List PySem.Str} (e : Ex B B') (h : NmsAt B a ns) : NmsAt B' a ns := by
  obtain ⟨o, h1, h2⟩ := h
  exact ⟨o, e a _ h1, h2⟩
theorem TlkAt.mono {C : Addr} {B B' : Hp} {a : Addr} {ss ns : List PySem.Str} {top : Int} (e : Ex B B') (h : TlkAt C B a ss ns top) : TlkAt C B' a ss ns top := by
  obtain ⟨dx, p, q, h1, h2, h3⟩ := h
  exact ⟨dx, p, q, e a _ h1, h2.mono e, h3.mono e⟩
mutual
theorem De.mono {K : PySem.W.Frag} {C : Addr} {B B' : Hp} (e : Ex B B') : ∀ (d : Dt) (v : V), De K C B d v → De K C B' d v
  | .non, _, h => h
  | .bl _, _, h => h
  | .int _, _, h => h
  | .str _, _, h => h
  | .ty _, _, h => h
  | .tup ds, v, h => by
    obtain ⟨a, xs, h1, h2, h3⟩ := h
    exact ⟨a, xs, h1, e.t h2, DeAll.mono e ds xs h3⟩
  | .lst ds, v, h => by
    obtain ⟨a, xs, h1, h2, h3⟩ := h
    exact ⟨a, xs, h1, e a _ h2, DeAll.mono e ds xs h3⟩
  | .nms ns, v, h => by
    obtain ⟨a, h1, h2⟩ := h
    exact ⟨a, h1, h2.mono e⟩
  | .tlk ss ns top, v, h => by
    obtain ⟨a, h1, h2⟩ := h
    exact ⟨a, h1, h2.mono e⟩
  | .cell _, _, h => h
  | .scr ns, v, h => by
    obtain ⟨a, h1, h2⟩ := h
    exact ⟨a, h1, e.l h2⟩
  | .dic kvs, v, h => by
    obtain ⟨a, h1, h2⟩ := h
    exact ⟨a, h1, e a _ h2⟩
theorem DeAll.mono {K : PySem.W.Frag} {C : Addr} {B B' : Hp} (e : Ex B B') : ∀ (ds : List Dt) (vs : List V), DeAll K C B ds vs → DeAll K C B' ds vs
  | [], _, h => h
  | d :: ds, vs, h => by
    obtain ⟨x, xs, h1, h2, h3⟩ := h
    exact ⟨x, xs, h1, De.mono e d x h2, DeAll.mono e ds xs h3⟩
end
section
variable {K : PySem.W.Frag} {C : Addr} {B : Hp}
theorem DeAll.length : ∀ {ds : List Dt} {vs : List V}, DeAll K C B ds vs → vs.length = ds.length
  | [], _, h => by
    cases (show _ = [] from h)
    rfl
  | d :: ds, vs, h => by
    obtain ⟨x, xs, rfl, _, h3⟩ := h
    rw [List.length_cons, List.length_cons, DeAll.length h3]
theorem DeAll.get : ∀ {ds : List Dt} {vs : List V} {i : Nat} {d : Dt}, DeAll K C B ds vs → ds[i]? = some d → ∃ v, vs[i]? = some v ∧ De K C B d v
  | [], _, _, _, _, e => by simp at e
  | d :: ds, vs, 0, d', h, e => by
    obtain ⟨x, xs, rfl, h2, _⟩ := h
    have e' : d = d' := Option.some.inj e
    subst e'
    exact ⟨x, rfl, h2⟩
  | d :: ds, vs, i + 1, d', h, e => by
    obtain ⟨x, xs, rfl, _, h3⟩ := h
    exact DeAll.get (i := i) h3 e
theorem DeAll.append : ∀ {ds es : List Dt} {vs ws : List V}, DeAll K C B ds vs → DeAll K C B es ws → DeAll K C B (ds ++ es) (vs ++ ws)
  | [], _, _, _, h, h' => by
    cases (show _ = [] from h)
    exact h'
  | d :: ds, _, _, _, h, h' => by
    obtain ⟨x, xs, rfl, h2, h3⟩ := h
    exact ⟨x, _, rfl, h2, DeAll.append h3 h'⟩
theorem DeAll.snoc {ds : List Dt} {vs : List V} {d : Dt} {v : V} (h : DeAll K C B ds vs) (h' : De K C B d v) : DeAll K C B (ds ++ [d]) (vs ++ [v]) :=
  h.append ⟨v, [], rfl, h', rfl⟩
theorem DeAll.set : ∀ {ds : List Dt} {vs : List V} (i : Nat) {d : Dt} {v : V}, DeAll K C B ds vs → De K C B d v → DeAll K C B (ds.set i d) (vs.set i v)
  | [], _, _, _, _, h, _ => by
    cases (show _ = [] from h)
    exact rfl
  | d :: ds, _, 0, _, _, h, h' => by
    obtain ⟨x, xs, rfl, h2, h3⟩ := h
    exact ⟨_, _, rfl, h', h3⟩
  | d :: ds, _, i + 1, _, _, h, h' => by
    obtain ⟨x, xs, rfl, h2, h3⟩ := h
    exact ⟨_, _, rfl, h2, DeAll.set i h3 h'⟩
theorem DeAll.take : ∀ {ds : List Dt} {vs : List V} (n : Nat), DeAll K C B ds vs → DeAll K C B (ds.take n) (vs.take n)
  | _, _, 0, _ => rfl
  | [], _, n + 1, h => by
    cases (show _ = [] from h)
    exact rfl
  | d :: ds, _, n + 1, h => by
    obtain ⟨x, xs, rfl, h2, h3⟩ := h
    exact ⟨_, _, rfl, h2, DeAll.take n h3⟩
theorem DeAll.drop : ∀ {ds : List Dt} {vs : List V} (n : Nat), DeAll K C B ds vs → DeAll K C B (ds.drop n) (vs.drop n)
  | _, _, 0, h => h
  | [], _, n + 1, h => by
    cases (show _ = [] from h)
    exact rfl
  | d :: ds, _, n + 1, h => by
    obtain ⟨x, xs, rfl, h2, h3⟩ := h
    exact DeAll.drop n h3
theorem DeAll.rep {d : Dt} {v : V} (h : De K C B d v) : ∀ n : Nat, DeAll K C B (List.replicate n d) (List.replicate n v)
  | 0 => rfl
  | n + 1 => ⟨v, _, rfl, h, DeAll.rep h n⟩
theorem DeAll.ints : ∀ {ns : List Int} {vs : List V}, DeAll K C B (ns.map Dt.int) vs → vs = ns.map V.int
  | [], _, h => h
  | n :: ns, _, h => by
    obtain ⟨x, xs, rfl, h2, h3⟩ := h
    rw [show x = V.int n from h2, DeAll.ints h3, List.map_cons]
theorem DeAll.of_ints : ∀ (ns : List Int), DeAll K C B (ns.map Dt.int) (ns.map V.int)
  | [] => rfl
  | n :: ns => ⟨_, _, rfl, rfl, DeAll.of_ints ns⟩
theorem DeAll.strs : ∀ {ns : List PySem.Str} {vs : List V}, DeAll K C B (ns.map Dt.str) vs → vs = ns.map V.str
  | [], _, h => h
  | n :: ns, _, h => by
    obtain ⟨x, xs, rfl, h2, h3⟩ := h
    rw [show x = V.str n from h2, DeAll.strs h3, List.map_cons]
theorem DeAll.of_strs : ∀ (ns : List PySem.Str), DeAll K C B (ns.map Dt.str) (ns.map V.str)
  | [] => rfl
  | n :: ns => ⟨_, _, rfl, rfl, DeAll.of_strs ns⟩
theorem DeAll.bls : ∀ {ns : List Bool} {vs : List V}, DeAll K C B (ns.map Dt.bl) vs → vs = ns.map V.bl
  | [], _, h => h
  | n :: ns, _, h => by
    obtain ⟨x, xs, rfl, h2, h3⟩ := h
    rw [show x = V.bl n from h2, DeAll.bls h3, List.map_cons]
/-- names as a tuple of texts -/
theorem NmsAt.seqT {a : Addr} {ns : List PySem.Str} (h : NmsAt B a ns) : SqT K B a (ns.map V.str) := by
  obtain ⟨o, h1, _⟩ := h
  exact .inl (.inr ⟨o, h1⟩)
theorem De.nms_tup {ns : List PySem.Str} {v : V} (h : De K C B (.nms ns) v) : De K C B (.tup (ns.map Dt.str)) v := by
  obtain ⟨a, h1, h2⟩ := h
  exact ⟨a, _, h1, h2.seqT, DeAll.of_strs ns⟩
end

/-! ### the environment: data by slot -/
abbrev En := List (Option Dt)
def Sg1 (K : PySem.W.Frag) (C : Addr) (B : Hp) (s : Option V) (d : Option Dt) : Prop := ∀ x, d = some x → ∃ v, s = some v ∧ De K C B x v
def Sg (K : PySem.W.Frag) (C : Addr) (B : Hp) : L2.St → En → Prop := Paired (Sg1 K C B)
section
variable {K : PySem.W.Frag} {C : Addr} {B B' : Hp}
theorem Sg.mono (e : Ex B B') : ∀ {σ : L2.St} {env : En}, Sg K C B σ env → Sg K C B' σ env
  | _, _, .nil => .nil
  | _, _, .cons h t => .cons (fun x hx => let ⟨v, h1, h2⟩ := h x hx; ⟨v, h1, De.mono e x v h2⟩) (Sg.mono e t)
theorem Sg.get : ∀ {σ : L2.St} {env : En} {i : Nat} {d : Dt}, Sg K C B σ env → env[i]? = some (some d) → ∃ v, σ[i]? = some (some v) ∧ De K C B d v
  | _, _, _, _, .nil, e => by simp at e
  | _, _, 0, d, .cons h _, e => by
    obtain ⟨v, h1, h2⟩ := h d (Option.some.inj e)
    subst h1
    exact ⟨v, rfl, h2⟩
  | _, _, i + 1, d, .cons _ t, e => Sg.get (i := i) t e
theorem Sg.set {v : V} {d : Dt} (h : De K C B d v) : ∀ {σ : L2.St} {env : En} (i : Nat), Sg K C B σ env → Sg K C B (σ.set i (some v)) (env.set i (some d))
  | _, _, _, .nil => .nil
  | _, _, 0, .cons _ t => .cons (fun x hx => ⟨v, rfl, by cases hx; exact h⟩) t
  | _, _, i + 1, .cons h' t => .cons h' (Sg.set h i t)
theorem Sg.unset {s : Option V} : ∀ {σ : L2.St} {env : En} (i : Nat), Sg K C B σ env → Sg K C B (σ.set i s) (env.set i none)
  | _, _, _, .nil => .nil
  | _, _, 0, .cons _ t => .cons (fun x hx => by cases hx) t
  | _, _, i + 1, .cons h' t => .cons h' (Sg.unset i t)
theorem Sg.start : ∀ {ds : List Dt} {vs : List V} {m : Nat}, DeAll K C B ds vs → Sg K C B (vs.map some ++ List.replicate m none) (ds.map some ++ List.replicate m none)
  | [], _, m, h => by
    cases (show _ = [] from h)
    induction m with
    | zero => exact .nil
    | succ m ih => exact .cons (fun x hx => by cases hx) ih
  | d :: ds, _, m, h => by
    obtain ⟨x, xs, rfl, h2, h3⟩ := h
    exact .cons (fun y hy => ⟨x, rfl, by cases hy; exact h2⟩) (Sg.start h3)
theorem Sg.len : ∀ {σ : L2.St} {env : En}, Sg K C B σ env → σ.length = env.length := fun h => Paired.length h
end

/-! ### the pool, the one mutable list, what a step leaves -/
def LIM : Nat := 1000000
/-- the pool at p: its counter at most n -/
def PoolAt (H : Hp) (p : Addr) (n : Nat) : Prop := ∃ a b c : Int, H p = some (.lst [.int a, .int b, .int c]) ∧ (0 ≤ b ∧ b < 1000000007) ∧ (0 ≤ c ∧ c ≤ n)
def Pq (q : Option Addr) (n : Nat) (B H : Hp) : Prop := n ≤ LIM ∧ ∀ p, q = some p → B p = none ∧ PoolAt H p n
abbrev Cs := Option (Addr × List Dt)
def Cl (K : PySem.W.Frag) (C : Addr) (q : Option Addr) (B H : Hp) (cs : Cs) : Prop :=
  ∀ p ds, cs = some (p, ds) → q ≠ some p ∧ B p = none ∧ ∃ vs, H p = some (.lst vs) ∧ DeAll K C B ds vs
/-- B2 knows more than B: nothing that H holds besides B -/
structure Nw (B H B2 : Hp) : Prop where
  ex : Ex B B2
  new : ∀ a, H a ≠ none → B a = none → B2 a = none
def ExO (q : Option Addr) (H H2 : Hp) : Prop := ∀ a o, q ≠ some a → H a = some o → H2 a = some o
structure Cfg (K : PySem.W.Frag) (C : Addr) (q : Option Addr) (n : Nat) (env : En) (cs : Cs) (B : Hp) (σ : L2.St) (H : Hp) : Prop where
  sg : Sg K C B σ env
  ex : Ex B H
  pl : Pq q n B H
  cl : Cl K C q B H cs
/-- what a step leaves -/
structure Out (q : Option Addr) (n : Nat) (B H B2 H2 : Hp) : Prop where
  nw : Nw B H B2
  ex : Ex B2 H2
  eo : ExO q H H2
  pl : Pq q n B2 H2
theorem Nw.refl (B H : Hp) : Nw B H B := ⟨Ex.refl B, fun _ _ h => h⟩
theorem ExO.refl (q : Option Addr) (H : Hp) : ExO q H H := fun _ _ _ h => h
theorem ExO.trans {q : Option Addr} {H H1 H2 : Hp} (a : ExO q H H1) (b : ExO q H1 H2) : ExO q H H2 := fun x o h e => b x o h (a x o h e)
theorem Ex.o {q : Option Addr} {H H1 : Hp} (a : Ex H H1) : ExO q H H1 := fun x o _ e => a x o e
section
variable {K : PySem.W.Frag} {C : Addr} {q : Option Addr} {n m : Nat} {env : En} {cs : Cs} {B H B1 H1 B2 H2 : Hp} {σ : L2.St}
theorem Pq.free (h : Pq q n B H) {p : Addr} (e : q = some p) : B p = none := (h.2 p e).1
theorem Pq.there (h : Pq q n B H) {p : Addr} (e : q = some p) : H p ≠ none := by
  obtain ⟨_, a, b, c, e2, _⟩ := h.2 p e
  rw [e2]
  exact fun z => by cases z
theorem Pq.up (h : Pq q n B H) (hm : n ≤ m) (hL : m ≤ LIM) : Pq q m B H := ⟨hL, fun p e => by
  obtain ⟨h1, a, b, c, h2, h3, h4⟩ := h.2 p e
  exact ⟨h1, a, b, c, h2, h3, h4.1, by omega⟩⟩
theorem Out.refl (cf : Cfg K C q n env cs B σ H) : Out q n B H B H := ⟨Nw.refl B H, cf.ex, ExO.refl q H, cf.pl⟩
theorem Nw.trans (a : Nw B H B1) (e : ∀ x, H x ≠ none → H1 x ≠ none) (b : Nw B1 H1 B2) : Nw B H B2 :=
  ⟨a.ex.trans b.ex, fun x h h' => b.new x (e x h) (a.new x h h')⟩
theorem Out.kept (a : Out q n B H B1 H1) : ∀ x, H x ≠ none → H1 x ≠ none := fun x h => by
  by_cases e : q = some x
  · exact a.pl.there e
  · cases z : H x with
    | none => exact absurd z h
    | some o =>
      rw [a.eo x o e z]
      exact fun z => by cases z
theorem Out.trans (a : Out q n B H B1 H1) (b : Out q m B1 H1 B2 H2) : Out q m B H B2 H2 :=
  ⟨a.nw.trans a.kept b.nw, b.ex, a.eo.trans b.eo, b.pl⟩
theorem Cfg.after (cf : Cfg K C q n env cs B σ H) (o : Out q m B H B2 H2) : Cfg K C q m env cs B2 σ H2 :=
  ⟨cf.sg.mono o.nw.ex, o.ex, o.pl, fun p ds e => by
    obtain ⟨h1, h2, vs, h3, h4⟩ := cf.cl p ds e
    exact ⟨h1, o.nw.new p (by rw [h3]; exact fun z => by cases z) h2, vs, o.eo p _ h1 h3, DeAll.mono o.nw.ex ds vs h4⟩⟩
/-- a step that keeps all: the base as it is -/
theorem Cfg.same (cf : Cfg K C q n env cs B σ H) (e : Ex H H2) : Out q n B H B H2 :=
  ⟨Nw.refl B H, cf.ex.trans e, e.o, cf.pl.1, fun p hp => by
    obtain ⟨h1, a, b, c, h2, h3⟩ := cf.pl.2 p hp
    exact ⟨h1, a, b, c, e p _ h2, h3⟩⟩
/-- a new object, told to the base -/
theorem Cfg.newB (cf : Cfg K C q n env cs B σ H) {p : Addr} {o : HO} (h : H p = none) : Out q n B H (upd B p o) (upd H p o) := by
  have hB : B p = none := cf.ex.none h
  refine ⟨⟨Ex.new hB, fun a ha hb => ?_⟩, fun a u e => ?_, (Ex.new h).o, cf.pl.1, fun r hr => ?_⟩
  · rw [upd_ne (fun z => ha (by rw [z]; exact h))]
    exact hb
  · by_cases z : a = p
    · subst z
      rw [upd_same] at e ⊢
      exact e
    · rw [upd_ne z] at e ⊢
      exact cf.ex a u e
  · obtain ⟨h1, a, b, c, h2, h3⟩ := cf.pl.2 r hr
    have z : r ≠ p := fun z => by
      rw [z, h] at h2
      cases h2
    refine ⟨?_, a, b, c, ?_, h3⟩
    · rw [upd_ne z]
      exact h1
    · rw [upd_ne z]
      exact h2
end

/-! ### the weakest reading of a piece of syntax -/
section
variable (X : Cx)
def wpE (e : Expr) : TE := fun σ H Q => ∀ (pins : List (Addr × Obj)) (s : Shared), Inv X pins σ H s → wpAny (model X.prog X.w) X.A (eval e X.env) (EP X pins σ Q) X.xe s
def wpT (e : Expr) : TT := fun σ H Q => ∀ (pins : List (Addr × Obj)) (s : Shared), Inv X pins σ H s → wpAny (model X.prog X.w) X.A (isTrue e X.env (eval e X.env)) (TP X pins σ Q) X.xe s
def wpW (e : Expr) : TT := fun σ H Q => ∀ (whole : Sem Value) (pins : List (Addr × Obj)) (s : Shared), Inv X pins σ H s → wpAny (model X.prog X.w) X.A (isTrue e X.env whole) (TP X pins σ Q) X.xe s
def wpA (es : List Expr) : TA := fun σ H Q => ∀ (pos : Pos) (pins : List (Addr × Obj)) (s : Shared), Inv X pins σ H s → wpAny (model X.prog X.w) X.A (spliced (backTo pos (starEach es X.env))) (AP X pins σ Q) X.xe s
def wpS (st : Stmt) : TS := fun D σ H => ∀ (pins : List (Addr × Obj)) (s : Shared), Inv X pins σ H s → wpAny (model X.prog X.w) X.A (exec st X.env) (SP X pins D) X.xe s
def wpB (sts : List Stmt) : TS := fun D σ H => ∀ (pins : List (Addr × Obj)) (s : Shared), Inv X pins σ H s → wpAny (model X.prog X.w) X.A (execs sts X.env) (SP X pins D) X.xe s
def wpG (tg : Expr) : TG := fun v σ H Q => ∀ (pins : List (Addr × Obj)) (s : Shared) (u : Value), Inv X pins σ H s → RelV v u → wpAny (model X.prog X.w) X.A (assign tg X.env u) (fun _ s' => ∃ σ' H', Inv X pins σ' H' s' ∧ Q σ' H') X.xe s
def wpI (tg iter : Expr) : TI := fun σ H R => ∀ (pins : List (Addr × Obj)) (s : Shared), Inv X pins σ H s → wpAny (model X.prog X.w) X.A (eval iter X.env) (fun v s1 => wpAny (model X.prog X.w) X.A (pyIter v) (PIE X pins σ tg R) X.xe s1) X.xe s
variable {X}
theorem wpE_pe {e : Expr} : PE X e (wpE X e) := ⟨fun pins s _ _ _ I h => h pins s I⟩
theorem wpT_pt {e : Expr} : PT X e (wpT X e) := ⟨fun pins s _ _ _ I h => h pins s I⟩
theorem wpW_pw {e : Expr} : PW X e (wpW X e) := ⟨fun wh pins s _ _ _ I h => h wh pins s I⟩
theorem wpA_pa {es : List Expr} : PA X es (wpA X es) := ⟨fun pos pins s _ _ _ I h => h pos pins s I⟩
theorem wpS_ps {st : Stmt} : PS X st (wpS X st) := ⟨fun pins s _ _ _ I h => h pins s I⟩
theorem wpB_pss {sts : List Stmt} : PSs X sts (wpB X sts) := ⟨fun pins s _ _ _ I h => h pins s I⟩
theorem wpG_pg {tg : Expr} : PG X tg (wpG X tg) := ⟨fun pins s _ _ _ u _ I r h => h pins s u I r⟩
theorem wpI_pi {tg iter : Expr} : PI X tg iter (wpI X tg iter) := ⟨fun pins s _ _ _ I h => h pins s I⟩
theorem wpE_of {e : Expr} {t : TE} {σ : L2.St} {H : Hp} {Q : VK} (h : PE X e t) (q : t σ H Q) : wpE X e σ H Q := fun pins s I => h.run pins s σ H Q I q
theorem wpT_of {e : Expr} {t : TT} {σ : L2.St} {H : Hp} {Q : Bool → Hp → Prop} (h : PT X e t) (q : t σ H Q) : wpT X e σ H Q := fun pins s I => h.run pins s σ H Q I q
theorem wpW_of {e : Expr} {t : TT} {σ : L2.St} {H : Hp} {Q : Bool → Hp → Prop} (h : PW X e t) (q : t σ H Q) : wpW X e σ H Q := fun wh pins s I => h.run wh pins s σ H Q I q
theorem wpA_of {es : List Expr} {t : TA} {σ : L2.St} {H : Hp} {Q : List V → Hp → Prop} (h : PA X es t) (q : t σ H Q) : wpA X es σ H Q := fun pos pins s I => h.run pos pins s σ H Q I q
theorem wpS_of {st : Stmt} {t : TS} {σ : L2.St} {H : Hp} {D : Ends} (h : PS X st t) (q : t D σ H) : wpS X st D σ H := fun pins s I => h.run pins s σ H D I q
theorem wpB_of {sts : List Stmt} {t : TS} {σ : L2.St} {H : Hp} {D : Ends} (h : PSs X sts t) (q : t D σ H) : wpB X sts D σ H := fun pins s I => h.run pins s σ H D I q
theorem wpG_of {tg : Expr} {t : TG} {v : V} {σ : L2.St} {H : Hp} {Q : L2.St → Hp → Prop} (h : PG X tg t) (q : t v σ H Q) : wpG X tg v σ H Q := fun pins s u I r => h.run pins s σ H v u Q I r q
theorem wpI_of {tg iter : Expr} {t : TI} {σ : L2.St} {H : Hp} {R : It → Hp → Prop} (h : PI X tg iter t) (q : t σ H R) : wpI X tg iter σ H R := fun pins s I => h.run pins s σ H R I q
/-- a weaker end -/
theorem wpE_mono {e : Expr} {σ : L2.St} {H : Hp} {Q Q' : VK} (h : wpE X e σ H Q) (q : ∀ v H2, Q v H2 → Q' v H2) : wpE X e σ H Q' := fun pins s I =>
  thn (h pins s I) fun _ _ ⟨v, H', I', r, z⟩ => ⟨v, H', I', r, q _ _ z⟩
end

/-! ### the judgements -/
section
variable (X : Cx) (C : Addr)
/-- e gives a datum of P, by at most k draws -/
def EM (q : Option Addr) (k : Nat) (e : Expr) (env : En) (cs : Cs) (P : Dt → Prop) : Prop :=
  ∀ (n : Nat) (B : Hp) (σ : L2.St) (H : Hp), Cfg X.K C q n env cs B σ H → n + k ≤ LIM → ∀ Q : VK,
    (∀ v d B2 H2, P d → De X.K C B2 d v → Out q (n + k) B H B2 H2 → Q v H2) → wpE X e σ H Q
/-- e gives the datum d, without a draw -/
abbrev ED (q : Option Addr) (e : Expr) (env : En) (cs : Cs) (d : Dt) : Prop := EM X C q 0 e env cs (fun x => x = d)
/-- a test -/
def TM (q : Option Addr) (k : Nat) (e : Expr) (env : En) (cs : Cs) (P : Bool → Prop) : Prop :=
  ∀ (n : Nat) (B : Hp) (σ : L2.St) (H : Hp), Cfg X.K C q n env cs B σ H → n + k ≤ LIM → ∀ Q : Bool → Hp → Prop,
    (∀ b B2 H2, P b → Out q (n + k) B H B2 H2 → Q b H2) → wpT X e σ H Q
abbrev TD (q : Option Addr) (e : Expr) (env : En) (cs : Cs) (b : Bool) : Prop := TM X C q 0 e env cs (fun x => x = b)
/-- the same of and, or -/
def WM (q : Option Addr) (k : Nat) (e : Expr) (env : En) (cs : Cs) (P : Bool → Prop) : Prop :=
  ∀ (n : Nat) (B : Hp) (σ : L2.St) (H : Hp), Cfg X.K C q n env cs B σ H → n + k ≤ LIM → ∀ Q : Bool → Hp → Prop,
    (∀ b B2 H2, P b → Out q (n + k) B H B2 H2 → Q b H2) → wpW X e σ H Q
/-- arguments -/
def AM (q : Option Addr) (k : Nat) (es : List Expr) (env : En) (cs : Cs) (P : List Dt → Prop) : Prop :=
  ∀ (n : Nat) (B : Hp) (σ : L2.St) (H : Hp), Cfg X.K C q n env cs B σ H → n + k ≤ LIM → ∀ Q : List V → Hp → Prop,
    (∀ vs ds B2 H2, P ds → DeAll X.K C B2 ds vs → Out q (n + k) B H B2 H2 → Q vs H2) → wpA X es σ H Q
abbrev AD (q : Option Addr) (es : List Expr) (env : En) (cs : Cs) (ds : List Dt) : Prop := AM X C q 0 es env cs (fun x => x = ds)
end
section
variable {X : Cx} {C : Addr} {q : Option Addr} {k k' : Nat} {e : Expr} {es : List Expr} {env : En} {cs : Cs} {P P' : Dt → Prop}
theorem EM.imp (h : EM X C q k e env cs P) (hp : ∀ d, P d → P' d) : EM X C q k e env cs P' := fun n B σ H cf hn Q hQ =>
  h n B σ H cf hn Q fun v d B2 H2 p de o => hQ v d B2 H2 (hp d p) de o
theorem Out.up {n m : Nat} {B H B2 H2 : Hp} (o : Out q n B H B2 H2) (h : n ≤ m) (hL : m ≤ LIM) : Out q m B H B2 H2 := ⟨o.nw, o.ex, o.eo, o.pl.up h hL⟩
theorem EM.up (h : EM X C q k e env cs P) (hk : k ≤ k') : EM X C q k' e env cs P := fun n B σ H cf hn Q hQ =>
  h n B σ H cf (by omega) Q fun v d B2 H2 p de o => hQ v d B2 H2 p de (o.up (by omega) hn)
theorem TM.imp {P P' : Bool → Prop} (h : TM X C q k e env cs P) (hp : ∀ d, P d → P' d) : TM X C q k e env cs P' := fun n B σ H cf hn Q hQ =>
  h n B σ H cf hn Q fun b B2 H2 p o => hQ b B2 H2 (hp b p) o
theorem TM.up {P : Bool → Prop} (h : TM X C q k e env cs P) (hk : k ≤ k') : TM X C q k' e env cs P := fun n B σ H cf hn Q hQ =>
  h n B σ H cf (by omega) Q fun b B2 H2 p o => hQ b B2 H2 p (o.up (by omega) hn)
theorem ED.to {d d' : Dt} (h : ED X C q e env cs d) (hd : d = d') : ED X C q e env cs d' := hd ▸ h
theorem ED.em {d : Dt} (h : ED X C q e env cs d) (hp : P d) : EM X C q 0 e env cs P := h.imp fun x hx => hx ▸ hp
theorem AM.imp {P P' : List Dt → Prop} (h : AM X C q k es env cs P) (hp : ∀ d, P d → P' d) : AM X C q k es env cs P' := fun n B σ H cf hn Q hQ =>
  h n B σ H cf hn Q fun v d B2 H2 p de o => hQ v d B2 H2 (hp d p) de o
/-- the environment's slot as another datum -/
theorem EM.hold (h : EM X C q k e env cs P) : ∀ (n : Nat) (B : Hp) (σ : L2.St) (H : Hp), Cfg X.K C q n env cs B σ H → n + k ≤ LIM → ∀ Q : VK,
    (∀ v d B2 H2, P d → De X.K C B2 d v → Out q (n + k) B H B2 H2 → Q v H2) → wpE X e σ H Q := h
end
end Cf

/-! Cf2: the rules for expressions. -/
namespace Cf
open PySem PySem.Spec PyProof.Rows L2

/-- what an operation by values is told of the state -/
structure Bs (q : Option Addr) (n : Nat) (B H : Hp) : Prop where
  ex : Ex B H
  pl : Pq q n B H
section
variable {K : PySem.W.Frag} {C : Addr} {q : Option Addr} {n m : Nat} {env : En} {cs : Cs} {B H B1 H1 B2 H2 : Hp} {σ : L2.St}
theorem Cfg.bs (cf : Cfg K C q n env cs B σ H) : Bs q n B H := ⟨cf.ex, cf.pl⟩
theorem Bs.cfg (b : Bs q n B H) : Cfg K C q n [] none B [] H := ⟨.nil, b.ex, b.pl, fun _ _ e => by cases e⟩
theorem Bs.refl (b : Bs q n B H) : Out q n B H B H := ⟨Nw.refl B H, b.ex, ExO.refl q H, b.pl⟩
theorem Bs.same (b : Bs q n B H) (e : Ex H H2) : Out q n B H B H2 := (b.cfg (K := []) (C := 0)).same e
theorem Bs.newB (b : Bs q n B H) {p : Addr} {o : HO} (h : H p = none) : Out q n B H (upd B p o) (upd H p o) := (b.cfg (K := []) (C := 0)).newB h
theorem Out.bs (o : Out q n B H B2 H2) : Bs q n B2 H2 := ⟨o.ex, o.pl⟩
theorem Bs.none (b : Bs q n B H) {p : Addr} (h : H p = none) : B p = none := b.ex.none h
/-- a list, a tuple just made, denoted in the base -/
theorem de_newL {p : Addr} {ds : List Dt} {vs : List V} (h : B p = none) (hd : DeAll K C B ds vs) : De K C (upd B p (.lst vs)) (.lst ds) (.ref p) :=
  ⟨p, vs, rfl, upd_same, DeAll.mono (Ex.new h) ds vs hd⟩
theorem de_newT {p : Addr} {ds : List Dt} {vs : List V} (h : B p = none) (hd : DeAll K C B ds vs) : De K C (upd B p (.tup vs)) (.tup ds) (.ref p) :=
  ⟨p, vs, rfl, .inl (.inl upd_same), DeAll.mono (Ex.new h) ds vs hd⟩
end

/-- the end of a step by values -/
abbrev Fin (K : PySem.W.Frag) (C : Addr) (q : Option Addr) (n : Nat) (B H : Hp) (P : Dt → Prop) (Q : VK) : Prop := ∀ v d B2 H2, P d → De K C B2 d v → Out q n B H B2 H2 → Q v H2
/-- an operation on two data; a call of a built-in on data; an operation on one -/
def RR (K : PySem.W.Frag) (C : Addr) (q : Option Addr) (r : R2) (d1 d2 : Dt) (P : Dt → Prop) : Prop :=
  ∀ (n : Nat) (B H : Hp) (x y : V) (Q : VK), Bs q n B H → De K C B d1 x → De K C B d2 y → Fin K C q n B H P Q → r x y H Q
def CC (K : PySem.W.Frag) (C : Addr) (q : Option Addr) (r : List V → Hp → VK → Prop) (ds : List Dt) (P : Dt → Prop) : Prop :=
  ∀ (n : Nat) (B H : Hp) (xs : List V) (Q : VK), Bs q n B H → DeAll K C B ds xs → Fin K C q n B H P Q → r xs H Q
def UU (K : PySem.W.Frag) (C : Addr) (q : Option Addr) (r : V → Hp → VK → Prop) (d : Dt) (P : Dt → Prop) : Prop :=
  ∀ (n : Nat) (B H : Hp) (x : V) (Q : VK), Bs q n B H → De K C B d x → Fin K C q n B H P Q → r x H Q

section
variable {X : Cx} {C : Addr} {q : Option Addr} {k k1 k2 : Nat} {env : En} {cs : Cs} {P P1 P2 : Dt → Prop} {a b c e : Expr} {es : List Expr} {pos : Pos} {d d1 d2 : Dt}

/-! ### names, constants -/
theorem ed_var (i : Nat) {x : PySem.Str} (he : env[i]? = some (some d)) (hN : X.N[i]? = some x := by rfl) (hv : Vis X.env.scope x := by first | exact Or.inl rfl | exact Or.inr (Or.inl rfl) | exact Or.inr (Or.inr rfl))
    (hd : (x == ("__debug__" : PySem.Str)) = false := by decide) (hcd : (x == ("__classdict__" : PySem.Str)) = false := by decide) : ED X C q (.Name x pos) env cs d := fun n B σ H cf hn Q hQ => by
  obtain ⟨v, h1, h2⟩ := cf.sg.get he
  exact wpE_of (pe_var hN hv hd hcd) ⟨v, h1, hQ v d B H rfl h2 (Out.refl cf)⟩
theorem ed_c {v : V} (h : PE X e (tC v)) (hd : ∀ B, De X.K C B d v) : ED X C q e env cs d := fun n B σ H cf hn Q hQ =>
  wpE_of h (hQ v d B H rfl (hd B) (Out.refl cf))
theorem ed_int {i : Int} {j} : ED X C q (.Constant (.int i) j pos) env cs (.int i) := ed_c pe_int fun _ => rfl
theorem ed_bl {i : Bool} {j} : ED X C q (.Constant (.bool i) j pos) env cs (.bl i) := ed_c pe_bl fun _ => rfl
theorem ed_non {j} : ED X C q (.Constant .none j pos) env cs .non := ed_c pe_non fun _ => rfl
theorem ed_str {s : PySem.Str} {j} : ED X C q (.Constant (.str s) j pos) env cs (.str s) := ed_c pe_str fun _ => rfl
theorem ed_globI {x : PySem.Str} {i : Int} (hm : ∃ t, X.mg x = some (.int i t)) (hg : Gl X x := by rfl) (hd : (x == ("__debug__" : PySem.Str)) = false := by decide) : ED X C q (.Name x pos) env cs (.int i) := by
  obtain ⟨t, hm⟩ := hm
  exact ed_c (pe_glob (v := .int i) hg hm ⟨t, rfl⟩ hd) fun _ => rfl
theorem ed_globS {x z : PySem.Str} (hm : ∃ t, X.mg x = some (.str z t)) (hg : Gl X x := by rfl) (hd : (x == ("__debug__" : PySem.Str)) = false := by decide) : ED X C q (.Name x pos) env cs (.str z) := by
  obtain ⟨t, hm⟩ := hm
  exact ed_c (pe_glob (v := .str z) hg hm ⟨t, rfl⟩ hd) fun _ => rfl
theorem ed_ty {x : PySem.Str} {n : String} (hm : X.mg x = none) (hv : bootBuiltins x = some (.type n)) (hg : Gl X x := by rfl) (hn : x ≠ "__name__" := by decide) (hd : (x == ("__debug__" : PySem.Str)) = false := by decide) :
    ED X C q (.Name x pos) env cs (.ty n) := ed_c (pe_bltn (v := .ty n) hg hm hv rfl hn hd) fun _ => rfl

/-! ### two, one -/
theorem em_two {n : Nat} {B H : Hp} {σ : L2.St} {Q : V → V → Hp → Prop} (ha : EM X C q k1 a env cs P1) (hb : EM X C q k2 b env cs P2) (cf : Cfg X.K C q n env cs B σ H) (hn : n + (k1 + k2) ≤ LIM)
    (h : ∀ x d1 y d2 B2 H2, P1 d1 → P2 d2 → De X.K C B2 d1 x → De X.K C B2 d2 y → Out q (n + (k1 + k2)) B H B2 H2 → Q x y H2) : wpE X a σ H fun x H1 => wpE X b σ H1 fun y H2 => Q x y H2 :=
  ha n B σ H cf (by omega) _ fun x d1 B1 H1 p1 e1 o1 => hb (n + k1) B1 σ H1 (cf.after o1) (by omega) _ fun y d2 B2 H2 p2 e2 o2 =>
    h x d1 y d2 B2 H2 p1 p2 (De.mono o2.nw.ex d1 x e1) e2 (Nat.add_assoc n k1 k2 ▸ o1.trans o2)
theorem em_bin {r : R2} (hp : PE X e (tOp r (wpE X a) (wpE X b))) (ha : EM X C q k1 a env cs P1) (hb : EM X C q k2 b env cs P2) (hr : ∀ d1 d2, P1 d1 → P2 d2 → RR X.K C q r d1 d2 P) : EM X C q (k1 + k2) e env cs P :=
  fun n B σ H cf hn Q hQ => wpE_of hp (em_two ha hb cf hn fun x d1 y d2 B2 H2 p1 p2 e1 e2 o => hr d1 d2 p1 p2 _ B2 H2 x y Q o.bs e1 e2 fun v d B3 H3 p e o' => hQ v d B3 H3 p e (o.trans o'))
theorem em_op {op : Operator} {r : R2} (ho : OpR X (binaryOp op) r) (ha : EM X C q k1 a env cs P1) (hb : EM X C q k2 b env cs P2) (hr : ∀ d1 d2, P1 d1 → P2 d2 → RR X.K C q r d1 d2 P) :
    EM X C q (k1 + k2) (.BinOp a op b pos) env cs P := em_bin (pe_op ho wpE_pe wpE_pe) ha hb hr
theorem ed_op {op : Operator} {r : R2} (ho : OpR X (binaryOp op) r) (ha : ED X C q a env cs d1) (hb : ED X C q b env cs d2) (hr : RR X.K C q r d1 d2 (fun x => x = d)) :
    ED X C q (.BinOp a op b pos) env cs d := em_op (k1 := 0) (k2 := 0) ho ha hb fun _ _ e1 e2 => e1 ▸ e2 ▸ hr
theorem em_cmp {op : CmpOp} {r : R2} (ho : OpR X (compareOp op) r) (hm : behindInMarks op b = false) (ha : EM X C q k1 a env cs P1) (hb : EM X C q k2 b env cs P2) (hr : ∀ d1 d2, P1 d1 → P2 d2 → RR X.K C q r d1 d2 P) :
    EM X C q (k1 + k2) (.Compare a [op] [b] pos) env cs P := em_bin (pe_cmpR ho wpE_pe wpE_pe hm) ha hb hr
theorem ed_cmp {op : CmpOp} {r : R2} (ho : OpR X (compareOp op) r) (hm : behindInMarks op b = false) (ha : ED X C q a env cs d1) (hb : ED X C q b env cs d2) (hr : RR X.K C q r d1 d2 (fun x => x = d)) :
    ED X C q (.Compare a [op] [b] pos) env cs d := em_cmp (k1 := 0) (k2 := 0) ho hm ha hb fun _ _ e1 e2 => e1 ▸ e2 ▸ hr
theorem tm_cmp {op : CmpOp} {r : R2} {PB : Bool → Prop} (ho : OpR X (compareOp op) r) (hm : behindInMarks op b = false) (ha : EM X C q k1 a env cs P1) (hb : EM X C q k2 b env cs P2)
    (hr : ∀ d1 d2, P1 d1 → P2 d2 → RR X.K C q r d1 d2 (fun d => ∃ i, d = .bl i ∧ PB i)) : TM X C q (k1 + k2) (.Compare a [op] [b] pos) env cs PB := fun n B σ H cf hn Q hQ =>
  wpT_of (pt_cmpR ho wpE_pe wpE_pe hm) (em_two ha hb cf hn fun x d1 y d2 B2 H2 p1 p2 e1 e2 o => hr d1 d2 p1 p2 _ B2 H2 x y _ o.bs e1 e2 fun v d B3 H3 ⟨i, ei, p⟩ de o' => by
    subst ei
    exact ⟨i, de, hQ i B3 H3 p (o.trans o')⟩)
theorem td_cmp {op : CmpOp} {r : R2} {i : Bool} (ho : OpR X (compareOp op) r) (hm : behindInMarks op b = false) (ha : ED X C q a env cs d1) (hb : ED X C q b env cs d2) (hr : RR X.K C q r d1 d2 (fun x => x = .bl i)) :
    TD X C q (.Compare a [op] [b] pos) env cs i := tm_cmp (k1 := 0) (k2 := 0) ho hm ha hb fun _ _ e1 e2 => e1 ▸ e2 ▸ fun n B H x y Q hb h1 h2 hf => hr n B H x y Q hb h1 h2 fun v d B2 H2 p => hf v d B2 H2 ⟨i, p, rfl⟩
theorem em_ix {r : R2} (hr : IxR X r) (ha : EM X C q k1 a env cs P1) (hb : EM X C q k2 b env cs P2) (h : ∀ d1 d2, P1 d1 → P2 d2 → RR X.K C q r d1 d2 P) (hs : PlainIx b := by exact fun _ _ => rfl) :
    EM X C q (k1 + k2) (.Subscript a b pos) env cs P := em_bin (pe_ix hr wpE_pe wpE_pe hs) ha hb h
theorem ed_ix {r : R2} (hr : IxR X r) (ha : ED X C q a env cs d1) (hb : ED X C q b env cs d2) (h : RR X.K C q r d1 d2 (fun x => x = d)) (hs : PlainIx b := by exact fun _ _ => rfl) :
    ED X C q (.Subscript a b pos) env cs d := em_ix (k1 := 0) (k2 := 0) hr ha hb (fun _ _ e1 e2 => e1 ▸ e2 ▸ h) hs
theorem em_un {op : UnaryOp} {r : V → Hp → VK → Prop} (ho : UnR X (unaryOp op) r) (ha : EM X C q k a env cs P1) (hr : ∀ d, P1 d → UU X.K C q r d P) : EM X C q k (.UnaryOp op a pos) env cs P := fun n B σ H cf hn Q hQ =>
  wpE_of (pe_un ho wpE_pe) (ha n B σ H cf hn _ fun x d1 B1 H1 p1 e1 o1 => hr d1 p1 _ B1 H1 x Q o1.bs e1 fun v d B2 H2 p e o => hQ v d B2 H2 p e (o1.trans o))

/-! ### by values: ints -/
variable {i j : Int} {K : PySem.W.Frag}
theorem Bs.fin {n : Nat} {B H : Hp} {v : V} {Q : VK} (b : Bs q n B H) (hf : Fin K C q n B H P Q) (hp : P d) (hd : De K C B d v) : Q v H := hf v d B H hp hd b.refl
theorem rr_I {Cn : Int → Int → Prop} {g : Int → Int → Int} (hc : Cn i j) : RR K C q (rI Cn fun i j => .int (g i j)) (.int i) (.int j) (fun x => x = .int (g i j)) := fun n B H x y Q b h1 h2 hf =>
  ⟨i, j, h1, h2, hc, b.fin hf rfl rfl⟩
theorem rr_I0 {g : Int → Int → Int} : RR K C q (rI0 fun i j => .int (g i j)) (.int i) (.int j) (fun x => x = .int (g i j)) := fun n B H x y Q b h1 h2 hf => ⟨i, j, h1, h2, b.fin hf rfl rfl⟩
theorem rr_B0 {g : Int → Int → Bool} : RR K C q (rI0 fun i j => .bl (g i j)) (.int i) (.int j) (fun x => x = .bl (g i j)) := fun n B H x y Q b h1 h2 hf => ⟨i, j, h1, h2, b.fin hf rfl rfl⟩
theorem ed_add (ha : ED X C q a env cs (.int i)) (hb : ED X C q b env cs (.int j)) : ED X C q (.BinOp a .Add b pos) env cs (.int (i + j)) := ed_op op_add ha hb rr_I0
theorem ed_sub (ha : ED X C q a env cs (.int i)) (hb : ED X C q b env cs (.int j)) : ED X C q (.BinOp a .Sub b pos) env cs (.int (i - j)) := ed_op op_sub ha hb rr_I0
theorem ed_mul (hc : CMul i j) (ha : ED X C q a env cs (.int i)) (hb : ED X C q b env cs (.int j)) : ED X C q (.BinOp a .Mult b pos) env cs (.int (i * j)) := ed_op op_mul ha hb (rr_I hc)
theorem ed_mulW (hc : CMulW i j) (ha : ED X C q a env cs (.int i)) (hb : ED X C q b env cs (.int j)) : ED X C q (.BinOp a .Mult b pos) env cs (.int (i * j)) := ed_op op_mulW ha hb (rr_I hc)
theorem ed_mod (hc : 0 < j) (ha : ED X C q a env cs (.int i)) (hb : ED X C q b env cs (.int j)) : ED X C q (.BinOp a .Mod b pos) env cs (.int (i % j)) := ed_op op_mod ha hb (rr_I (Cn := fun _ j => 0 < j) hc)
theorem ed_fdiv (hc : CDiv i j) (ha : ED X C q a env cs (.int i)) (hb : ED X C q b env cs (.int j)) : ED X C q (.BinOp a .FloorDiv b pos) env cs (.int (i / j)) := ed_op op_fdiv ha hb (rr_I hc)
theorem ed_pow (hc : CPow i j) (ha : ED X C q a env cs (.int i)) (hb : ED X C q b env cs (.int j)) : ED X C q (.BinOp a .Pow b pos) env cs (.int (i ^ j.toNat)) := ed_op op_pow ha hb (rr_I hc)
theorem ed_shl (hc : CPow i j) (ha : ED X C q a env cs (.int i)) (hb : ED X C q b env cs (.int j)) : ED X C q (.BinOp a .LShift b pos) env cs (.int (i * 2 ^ j.toNat)) := ed_op op_shl ha hb (rr_I hc)
theorem ed_shr (hc : 0 ≤ j) (ha : ED X C q a env cs (.int i)) (hb : ED X C q b env cs (.int j)) : ED X C q (.BinOp a .RShift b pos) env cs (.int (i / 2 ^ j.toNat)) := ed_op op_shr ha hb (rr_I (Cn := fun _ j => 0 ≤ j) hc)
theorem ed_neg (ha : ED X C q a env cs (.int i)) : ED X C q (.UnaryOp .USub a pos) env cs (.int (-i)) := em_un un_neg ha fun _ e => e ▸ fun n B H x Q b h1 hf => ⟨i, h1, b.fin hf rfl rfl⟩
theorem ed_lt (ha : ED X C q a env cs (.int i)) (hb : ED X C q b env cs (.int j)) : ED X C q (.Compare a [.Lt] [b] pos) env cs (.bl (decide (i < j))) := ed_cmp op_lt (nomark _) ha hb rr_B0
theorem ed_le (ha : ED X C q a env cs (.int i)) (hb : ED X C q b env cs (.int j)) : ED X C q (.Compare a [.LtE] [b] pos) env cs (.bl (decide (i ≤ j))) := ed_cmp op_le (nomark _) ha hb rr_B0
theorem ed_gt (ha : ED X C q a env cs (.int i)) (hb : ED X C q b env cs (.int j)) : ED X C q (.Compare a [.Gt] [b] pos) env cs (.bl (decide (j < i))) := ed_cmp op_gt (nomark _) ha hb rr_B0
theorem ed_ge (ha : ED X C q a env cs (.int i)) (hb : ED X C q b env cs (.int j)) : ED X C q (.Compare a [.GtE] [b] pos) env cs (.bl (decide (j ≤ i))) := ed_cmp op_ge (nomark _) ha hb rr_B0
theorem td_lt (ha : ED X C q a env cs (.int i)) (hb : ED X C q b env cs (.int j)) : TD X C q (.Compare a [.Lt] [b] pos) env cs (decide (i < j)) := td_cmp op_lt (nomark _) ha hb rr_B0
theorem td_le (ha : ED X C q a env cs (.int i)) (hb : ED X C q b env cs (.int j)) : TD X C q (.Compare a [.LtE] [b] pos) env cs (decide (i ≤ j)) := td_cmp op_le (nomark _) ha hb rr_B0
theorem td_gt (ha : ED X C q a env cs (.int i)) (hb : ED X C q b env cs (.int j)) : TD X C q (.Compare a [.Gt] [b] pos) env cs (decide (j < i)) := td_cmp op_gt (nomark _) ha hb rr_B0
theorem td_ge (ha : ED X C q a env cs (.int i)) (hb : ED X C q b env cs (.int j)) : TD X C q (.Compare a [.GtE] [b] pos) env cs (decide (j ≤ i)) := td_cmp op_ge (nomark _) ha hb rr_B0

/-! ### == and != of scalars -/
/-- the scalars -/
def scl : Dt → Bool
  | .non => true
  | .bl _ => true
  | .int _ => true
  | .str _ => true
  | _ => false
/-- a scalar's value -/
def vOf : Dt → V
  | .non => .non
  | .bl b => .bl b
  | .int i => .int i
  | .str s => .str s
  | _ => .non
theorem de_vOf {B : Hp} {d : Dt} {v : V} (h : De K C B d v) (hs : scl d = true) : v = vOf d := by
  cases d with
  | non => exact h
  | bl b => exact h
  | int b => exact h
  | str b => exact h
  | _ => cases hs
theorem rr_eq (h1 : scl d1 = true) (h2 : scl d2 = true) (hs : scal (vOf d1) (vOf d2) = true) : RR K C q rEq d1 d2 (fun x => x = .bl (decide (vOf d1 = vOf d2))) := fun n B H x y Q b e1 e2 hf => by
  rw [de_vOf e1 h1, de_vOf e2 h2]
  exact ⟨hs, b.fin hf rfl rfl⟩
theorem rr_ne (h1 : scl d1 = true) (h2 : scl d2 = true) (hs : scal (vOf d1) (vOf d2) = true) : RR K C q rNe d1 d2 (fun x => x = .bl (!decide (vOf d1 = vOf d2))) := fun n B H x y Q b e1 e2 hf => by
  rw [de_vOf e1 h1, de_vOf e2 h2]
  exact ⟨hs, b.fin hf rfl rfl⟩
theorem decI : decide (V.int i = V.int j) = decide (i = j) := by
  rw [Bool.eq_iff_iff]
  simp
theorem decS {s t : PySem.Str} : decide (V.str s = V.str t) = decide (s = t) := by
  rw [Bool.eq_iff_iff]
  simp
theorem ed_eqI (ha : ED X C q a env cs (.int i)) (hb : ED X C q b env cs (.int j)) : ED X C q (.Compare a [.Eq] [b] pos) env cs (.bl (decide (i = j))) := ed_cmp op_eq (nomark _) ha hb (by
  rw [← decI]
  exact rr_eq rfl rfl rfl)
theorem ed_neI (ha : ED X C q a env cs (.int i)) (hb : ED X C q b env cs (.int j)) : ED X C q (.Compare a [.NotEq] [b] pos) env cs (.bl (!decide (i = j))) := ed_cmp op_ne (nomark _) ha hb (by
  rw [← decI]
  exact rr_ne rfl rfl rfl)
theorem ed_eqS {s t : PySem.Str} (ha : ED X C q a env cs (.str s)) (hb : ED X C q b env cs (.str t)) : ED X C q (.Compare a [.Eq] [b] pos) env cs (.bl (decide (s = t))) := ed_cmp op_eq (nomark _) ha hb (by
  rw [← decS]
  exact rr_eq rfl rfl rfl)
theorem ed_neS {s t : PySem.Str} (ha : ED X C q a env cs (.str s)) (hb : ED X C q b env cs (.str t)) : ED X C q (.Compare a [.NotEq] [b] pos) env cs (.bl (!decide (s = t))) := ed_cmp op_ne (nomark _) ha hb (by
  rw [← decS]
  exact rr_ne rfl rfl rfl)
theorem td_eqI (ha : ED X C q a env cs (.int i)) (hb : ED X C q b env cs (.int j)) : TD X C q (.Compare a [.Eq] [b] pos) env cs (decide (i = j)) := td_cmp op_eq (nomark _) ha hb (by
  rw [← decI]
  exact rr_eq rfl rfl rfl)
theorem td_neI (ha : ED X C q a env cs (.int i)) (hb : ED X C q b env cs (.int j)) : TD X C q (.Compare a [.NotEq] [b] pos) env cs (!decide (i = j)) := td_cmp op_ne (nomark _) ha hb (by
  rw [← decI]
  exact rr_ne rfl rfl rfl)
theorem td_eqS {s t : PySem.Str} (ha : ED X C q a env cs (.str s)) (hb : ED X C q b env cs (.str t)) : TD X C q (.Compare a [.Eq] [b] pos) env cs (decide (s = t)) := td_cmp op_eq (nomark _) ha hb (by
  rw [← decS]
  exact rr_eq rfl rfl rfl)
theorem td_neS {s t : PySem.Str} (ha : ED X C q a env cs (.str s)) (hb : ED X C q b env cs (.str t)) : TD X C q (.Compare a [.NotEq] [b] pos) env cs (!decide (s = t)) := td_cmp op_ne (nomark _) ha hb (by
  rw [← decS]
  exact rr_ne rfl rfl rfl)
/-- is None, is not None -/
def isNon : Dt → Bool
  | .non => true
  | _ => false
theorem de_non {B : Hp} {v : V} (h : De K C B d v) : decide (v = V.non) = isNon d := by
  cases d with
  | non =>
    rw [show v = V.non from h]
    rfl
  | bl b => rw [show v = V.bl b from h]; rfl
  | int b => rw [show v = V.int b from h]; rfl
  | str b => rw [show v = V.str b from h]; rfl
  | ty b => rw [show v = V.ty b from h]; rfl
  | cell b => rw [show v = V.ref b from h]; rfl
  | tup ds => obtain ⟨a, xs, e, _⟩ := h; rw [e]; rfl
  | lst ds => obtain ⟨a, xs, e, _⟩ := h; rw [e]; rfl
  | nms ds => obtain ⟨a, e, _⟩ := h; rw [e]; rfl
  | tlk ss ns top => obtain ⟨a, e, _⟩ := h; rw [e]; rfl
  | scr ns => obtain ⟨a, e, _⟩ := h; rw [e]; rfl
  | dic ns => obtain ⟨a, e, _⟩ := h; rw [e]; rfl
theorem ed_isN {j'} {p'} (ha : ED X C q a env cs d) : ED X C q (.Compare a [.Is] [.Constant .none j' p'] pos) env cs (.bl (isNon d)) := ed_cmp op_isN (nomark _) ha ed_non fun n B H x y Q b h1 h2 hf =>
  ⟨h2, by rw [de_non h1]; exact b.fin hf rfl rfl⟩
theorem ed_notN {j'} {p'} (ha : ED X C q a env cs d) : ED X C q (.Compare a [.IsNot] [.Constant .none j' p'] pos) env cs (.bl (!isNon d)) := ed_cmp op_notN (nomark _) ha ed_non fun n B H x y Q b h1 h2 hf =>
  ⟨h2, by rw [de_non h1]; exact b.fin hf rfl rfl⟩
theorem td_isN {j'} {p'} (ha : ED X C q a env cs d) : TD X C q (.Compare a [.Is] [.Constant .none j' p'] pos) env cs (isNon d) := td_cmp op_isN (nomark _) ha ed_non fun n B H x y Q b h1 h2 hf =>
  ⟨h2, by rw [de_non h1]; exact b.fin hf rfl rfl⟩
theorem td_notN {j'} {p'} (ha : ED X C q a env cs d) : TD X C q (.Compare a [.IsNot] [.Constant .none j' p'] pos) env cs (!isNon d) := td_cmp op_notN (nomark _) ha ed_non fun n B H x y Q b h1 h2 hf =>
  ⟨h2, by rw [de_non h1]; exact b.fin hf rfl rfl⟩

/-! ### truth: and, or, not, if -/
variable {i1 i2 : Bool} {PB PB1 PB2 : Bool → Prop} {rest : List Expr}
/-- an expression whose value is a bool, as a test -/
theorem tm_val (h : EM X C q k e env cs (fun d => ∃ i, d = .bl i ∧ PB i)) (he : ∀ whole, isTrue e X.env whole = (do let v ← whole; standAt e.pos; holding [v] (truthy v)) := by intro _; rfl) : TM X C q k e env cs PB := fun n B σ H cf hn Q hQ =>
  wpT_of (pt_val wpE_pe he) (h n B σ H cf hn _ fun v d B2 H2 ⟨i, ei, p⟩ de o => by
    subst ei
    exact ⟨i, de, hQ i B2 H2 p o⟩)
theorem td_val (h : ED X C q e env cs (.bl i1)) (he : ∀ whole, isTrue e X.env whole = (do let v ← whole; standAt e.pos; holding [v] (truthy v)) := by intro _; rfl) : TD X C q e env cs i1 := tm_val (h.imp fun x hx => ⟨i1, hx, rfl⟩) he
theorem wm_and1 (h : TM X C q k a env cs PB) : WM X C q k (.BoolOp .And [a] pos) env cs PB := fun n B σ H cf hn Q hQ => wpW_of (pw_and1 wpT_pt) (h n B σ H cf hn Q hQ)
theorem wm_or1 (h : TM X C q k a env cs PB) : WM X C q k (.BoolOp .Or [a] pos) env cs PB := fun n B σ H cf hn Q hQ => wpW_of (pw_or1 wpT_pt) (h n B σ H cf hn Q hQ)
theorem tm_w {op} {l : List Expr} (h : WM X C q k (.BoolOp op l pos) env cs PB) : TM X C q k (.BoolOp op l pos) env cs PB := fun n B σ H cf hn Q hQ => wpT_of (PW.pt wpW_pw) (h n B σ H cf hn Q hQ)
theorem wm_and (ha : TM X C q k1 a env cs PB1) (hb : PB1 true → WM X C q k2 (.BoolOp .And (b :: rest) pos) env cs PB) (hf : PB1 false → PB false) : WM X C q (k1 + k2) (.BoolOp .And (a :: b :: rest) pos) env cs PB := fun n B σ H cf hn Q hQ =>
  wpW_of (pw_and wpT_pt wpW_pw) (ha n B σ H cf (by omega) _ fun i B1 H1 p o => by
    cases i with
    | true =>
      rw [if_pos rfl]
      exact hb p (n + k1) B1 σ H1 (cf.after o) (by omega) Q fun i2 B2 H2 p2 o2 => hQ i2 B2 H2 p2 (Nat.add_assoc n k1 k2 ▸ o.trans o2)
    | false =>
      rw [if_neg Bool.false_ne_true]
      exact hQ false B1 H1 (hf p) (o.up (by omega) hn))
theorem wm_or (ha : TM X C q k1 a env cs PB1) (hb : PB1 false → WM X C q k2 (.BoolOp .Or (b :: rest) pos) env cs PB) (hf : PB1 true → PB true) : WM X C q (k1 + k2) (.BoolOp .Or (a :: b :: rest) pos) env cs PB := fun n B σ H cf hn Q hQ =>
  wpW_of (pw_or wpT_pt wpW_pw) (ha n B σ H cf (by omega) _ fun i B1 H1 p o => by
    cases i with
    | false =>
      rw [if_neg Bool.false_ne_true]
      exact hb p (n + k1) B1 σ H1 (cf.after o) (by omega) Q fun i2 B2 H2 p2 o2 => hQ i2 B2 H2 p2 (Nat.add_assoc n k1 k2 ▸ o.trans o2)
    | true =>
      rw [if_pos rfl]
      exact hQ true B1 H1 (hf p) (o.up (by omega) hn))
abbrev WD (X : Cx) (C : Addr) (q : Option Addr) (e : Expr) (env : En) (cs : Cs) (b : Bool) : Prop := WM X C q 0 e env cs (fun x => x = b)
theorem wd_and1 (h : TD X C q a env cs i1) : WD X C q (.BoolOp .And [a] pos) env cs i1 := wm_and1 h
theorem wd_or1 (h : TD X C q a env cs i1) : WD X C q (.BoolOp .Or [a] pos) env cs i1 := wm_or1 h
theorem wd_and (ha : TD X C q a env cs i1) (hb : i1 = true → WD X C q (.BoolOp .And (b :: rest) pos) env cs i2) : WD X C q (.BoolOp .And (a :: b :: rest) pos) env cs (i1 && i2) :=
  wm_and (k1 := 0) (k2 := 0) ha (fun e n B σ H cf hn Q hQ => hb e.symm n B σ H cf hn Q fun b' B2 H2 p => hQ b' B2 H2 (by rw [p, ← e]; rfl)) fun e => by rw [← e]; rfl
theorem wd_or (ha : TD X C q a env cs i1) (hb : i1 = false → WD X C q (.BoolOp .Or (b :: rest) pos) env cs i2) : WD X C q (.BoolOp .Or (a :: b :: rest) pos) env cs (i1 || i2) :=
  wm_or (k1 := 0) (k2 := 0) ha (fun e n B σ H cf hn Q hQ => hb e.symm n B σ H cf hn Q fun b' B2 H2 p => hQ b' B2 H2 (by rw [p, ← e]; rfl)) fun e => by rw [← e]; rfl
theorem td_w {op} {l : List Expr} (h : WD X C q (.BoolOp op l pos) env cs i1) : TD X C q (.BoolOp op l pos) env cs i1 := tm_w h
theorem tm_not (h : TM X C q k a env cs PB1) (hp : ∀ i, PB1 i → PB (!i)) : TM X C q k (.UnaryOp .Not a pos) env cs PB := fun n B σ H cf hn Q hQ =>
  wpT_of (pt_not wpT_pt) (h n B σ H cf hn _ fun i B2 H2 p o => hQ (!i) B2 H2 (hp i p) o)
theorem td_not (h : TD X C q a env cs i1) : TD X C q (.UnaryOp .Not a pos) env cs (!i1) := tm_not h fun _ e => e ▸ rfl
/-- .. as values -/
theorem ed_one {op} (h : EM X C q k a env cs P) : EM X C q k (.BoolOp op [a] pos) env cs P := fun n B σ H cf hn Q hQ => wpE_of (pe_one wpE_pe) (h n B σ H cf hn Q hQ)
theorem ed_and (ha : ED X C q a env cs (.bl i1)) (hb : i1 = true → ED X C q (.BoolOp .And (b :: rest) pos) env cs (.bl i2)) : ED X C q (.BoolOp .And (a :: b :: rest) pos) env cs (.bl (i1 && i2)) := fun n B σ H cf hn Q hQ =>
  wpE_of (pe_and wpE_pe wpE_pe) (ha n B σ H cf hn _ fun v d B1 H1 e de o => by
    subst e
    refine ⟨i1, de, ?_⟩
    cases i1 with
    | true =>
      rw [if_pos rfl]
      exact hb rfl n B1 σ H1 (cf.after o) hn Q fun v2 d2 B2 H2 p2 e2 o2 => hQ v2 d2 B2 H2 p2 e2 (o.trans o2)
    | false =>
      rw [if_neg Bool.false_ne_true]
      exact hQ _ _ B1 H1 rfl rfl o)
theorem ed_or (ha : ED X C q a env cs (.bl i1)) (hb : i1 = false → ED X C q (.BoolOp .Or (b :: rest) pos) env cs (.bl i2)) : ED X C q (.BoolOp .Or (a :: b :: rest) pos) env cs (.bl (i1 || i2)) := fun n B σ H cf hn Q hQ =>
  wpE_of (pe_or wpE_pe wpE_pe) (ha n B σ H cf hn _ fun v d B1 H1 e de o => by
    subst e
    refine ⟨i1, de, ?_⟩
    cases i1 with
    | false =>
      rw [if_neg Bool.false_ne_true]
      exact hb rfl n B1 σ H1 (cf.after o) hn Q fun v2 d2 B2 H2 p2 e2 o2 => hQ v2 d2 B2 H2 p2 e2 (o.trans o2)
    | true =>
      rw [if_pos rfl]
      exact hQ _ _ B1 H1 rfl rfl o)
theorem ed_not (ha : ED X C q a env cs (.bl i1)) : ED X C q (.UnaryOp .Not a pos) env cs (.bl (!i1)) := fun n B σ H cf hn Q hQ =>
  wpE_of (pe_not wpE_pe) (ha n B σ H cf hn _ fun v d B1 H1 e de o => by
    subst e
    exact ⟨i1, de, hQ _ _ B1 H1 rfl rfl o⟩)
theorem em_if (hc : TM X C q k1 c env cs PB) (ha : PB true → EM X C q k2 a env cs P) (hb : PB false → EM X C q k2 b env cs P) : EM X C q (k1 + k2) (.IfExp c a b pos) env cs P := fun n B σ H cf hn Q hQ =>
  wpE_of (pe_ifExp wpT_pt wpE_pe wpE_pe) (hc n B σ H cf (by omega) _ fun i B1 H1 p o => by
    cases i with
    | true =>
      rw [if_pos rfl]
      exact ha p (n + k1) B1 σ H1 (cf.after o) (by omega) Q fun v d B2 H2 p2 e2 o2 => hQ v d B2 H2 p2 e2 (Nat.add_assoc n k1 k2 ▸ o.trans o2)
    | false =>
      rw [if_neg Bool.false_ne_true]
      exact hb p (n + k1) B1 σ H1 (cf.after o) (by omega) Q fun v d B2 H2 p2 e2 o2 => hQ v d B2 H2 p2 e2 (Nat.add_assoc n k1 k2 ▸ o.trans o2))
theorem ed_if (hc : TD X C q c env cs i1) (ha : i1 = true → ED X C q a env cs d1) (hb : i1 = false → ED X C q b env cs d2) : ED X C q (.IfExp c a b pos) env cs (if i1 = true then d1 else d2) :=
  em_if (k1 := 0) (k2 := 0) hc (fun e => (ha e.symm).imp fun x hx => by rw [← e, if_pos rfl]; exact hx) fun e => (hb e.symm).imp fun x hx => by rw [← e, if_neg Bool.false_ne_true]; exact hx

/-! ### arguments, displays, calls of built-ins -/
theorem ad_nil : AD X C q [] env cs [] := fun n B σ H cf hn Q hQ => wpA_of pa_nil (hQ [] [] B H rfl rfl (Out.refl cf))
theorem am_cons {PA1 : List Dt → Prop} (ha : EM X C q k1 a env cs P1) (hr : AM X C q k2 es env cs PA1) (hs : starEach (a :: es) X.env = (false, eval a X.env) :: starEach es X.env := by rfl) :
    AM X C q (k1 + k2) (a :: es) env cs (fun ds => ∃ d r, ds = d :: r ∧ P1 d ∧ PA1 r) := fun n B σ H cf hn Q hQ =>
  wpA_of (pa_cons wpE_pe wpA_pa hs) (ha n B σ H cf (by omega) _ fun x d B1 H1 p e o => hr (n + k1) B1 σ H1 (cf.after o) (by omega) _ fun vs ds B2 H2 p2 e2 o2 =>
    hQ (x :: vs) (d :: ds) B2 H2 ⟨d, ds, rfl, p, p2⟩ ⟨x, vs, rfl, De.mono o2.nw.ex d x e, e2⟩ (Nat.add_assoc n k1 k2 ▸ o.trans o2))
theorem ad_cons {r : List Dt} (ha : ED X C q a env cs d) (hr : AD X C q es env cs r) (hs : starEach (a :: es) X.env = (false, eval a X.env) :: starEach es X.env := by rfl) : AD X C q (a :: es) env cs (d :: r) :=
  (am_cons (k1 := 0) (k2 := 0) ha hr hs).imp fun _ ⟨_, _, e, e1, e2⟩ => by rw [e, e1, e2]
theorem am_cons1 {PA1 : List Dt → Prop} {PA2 : List Dt → Prop} (ha : EM X C q k1 a env cs P1) (hr : AM X C q k2 es env cs PA1) (h : ∀ d r, P1 d → PA1 r → PA2 (d :: r)) (hs : starEach (a :: es) X.env = (false, eval a X.env) :: starEach es X.env := by rfl) :
    AM X C q (k1 + k2) (a :: es) env cs PA2 := (am_cons ha hr hs).imp fun _ ⟨d, r, e, p1, p2⟩ => by
  rw [e]
  exact h d r p1 p2
theorem em_tup {PA1 : List Dt → Prop} {j} (h : AM X C q k es env cs PA1) (hz : ∀ ds, PA1 ds → ds.length ≤ 1000) : EM X C q k (.Tuple es j pos) env cs (fun d => ∃ ds, d = .tup ds ∧ PA1 ds) := fun n B σ H cf hn Q hQ =>
  wpE_of (pe_tup wpA_pa) (h n B σ H cf hn _ fun vs ds B1 H1 p e o => ⟨Nat.le_of_lt (small1000 (e.length ▸ hz ds p)), fun t ht =>
    hQ _ (.tup ds) (upd B1 t (.tup vs)) _ ⟨ds, rfl, p⟩ (de_newT (o.ex.none ht) e) (o.trans ((o.bs).newB ht))⟩)
theorem ed_tup {ds : List Dt} {j} (h : AD X C q es env cs ds) (hz : ds.length ≤ 1000) : ED X C q (.Tuple es j pos) env cs (.tup ds) :=
  (em_tup h fun _ e => e ▸ hz).imp fun _ ⟨_, e1, e2⟩ => e2 ▸ e1
theorem em_lst {PA1 : List Dt → Prop} (h : AM X C q k es env cs PA1) (hz : ∀ ds, PA1 ds → ds.length ≤ 1000) : EM X C q k (.List es pos) env cs (fun d => ∃ ds, d = .lst ds ∧ PA1 ds) := fun n B σ H cf hn Q hQ =>
  wpE_of (pe_lst wpA_pa) (h n B σ H cf hn _ fun vs ds B1 H1 p e o => ⟨Nat.le_of_lt (small1000 (e.length ▸ hz ds p)), fun t ht =>
    hQ _ (.lst ds) (upd B1 t (.lst vs)) _ ⟨ds, rfl, p⟩ (de_newL (o.ex.none ht) e) (o.trans ((o.bs).newB ht))⟩)
theorem ed_lst {ds : List Dt} (h : AD X C q es env cs ds) (hz : ds.length ≤ 1000) : ED X C q (.List es pos) env cs (.lst ds) :=
  (em_lst h fun _ e => e ▸ hz).imp fun _ ⟨_, e1, e2⟩ => e2 ▸ e1
theorem em_callB {PA1 : List Dt → Prop} {x : PySem.Str} {id : String} {r : List V → Hp → VK → Prop} {p : Pos} (hc : CallR X (.builtin id) r) (hm : X.mg x = none) (hv : bootBuiltins x = some (.builtin id)) (ha : AM X C q k (e :: es) env cs PA1) (hr : ∀ ds, PA1 ds → CC X.K C q r ds P)
    (hg : Gl X x := by rfl) (hn : x ≠ "__name__" := by decide) (hdb : (x == ("__debug__" : PySem.Str)) = false := by decide) (he : starEach (e :: es) X.env = (false, eval e X.env) :: starEach es X.env := by rfl) (hpl : (backTo pos (starEach es X.env)).any (·.1) = false := by rfl) :
    EM X C q k (.Call (.Name x p) (e :: es) [] pos) env cs P := fun n B σ H cf hn' Q hQ =>
  wpE_of (pe_callB hc hg hm hv wpA_pa hn hdb he hpl) (ha n B σ H cf hn' _ fun vs ds B1 H1 p1 e1 o1 => hr ds p1 _ B1 H1 vs Q o1.bs e1 fun v d B2 H2 p2 e2 o2 => hQ v d B2 H2 p2 e2 (o1.trans o2))
theorem em_callTy {PA1 : List Dt → Prop} {x : PySem.Str} {T : String} {r : List V → Hp → VK → Prop} {p : Pos} (hc : CallR X (.type T) r) (hm : X.mg x = none) (hv : bootBuiltins x = some (.type T)) (ha : AM X C q k (e :: es) env cs PA1) (hr : ∀ ds, PA1 ds → CC X.K C q r ds P)
    (hg : Gl X x := by rfl) (hn : x ≠ "__name__" := by decide) (hdb : (x == ("__debug__" : PySem.Str)) = false := by decide) (he : starEach (e :: es) X.env = (false, eval e X.env) :: starEach es X.env := by rfl) (hpl : (backTo pos (starEach es X.env)).any (·.1) = false := by rfl) :
    EM X C q k (.Call (.Name x p) (e :: es) [] pos) env cs P := fun n B σ H cf hn' Q hQ =>
  wpE_of (pe_callTy hc hg hm hv wpA_pa hn hdb he hpl) (ha n B σ H cf hn' _ fun vs ds B1 H1 p1 e1 o1 => hr ds p1 _ B1 H1 vs Q o1.bs e1 fun v d B2 H2 p2 e2 o2 => hQ v d B2 H2 p2 e2 (o1.trans o2))
end
end Cf

/-! Cf3: sequences, texts, built-ins by values. -/
namespace Cf
open PySem PySem.Spec PyProof.Rows L2

section
variable {K : PySem.W.Frag} {C : Addr} {q : Option Addr} {B H : Hp} {d d1 d2 : Dt} {ds es : List Dt} {v : V} {i j : Int} {P : Dt → Prop}
/-- the items of a sequence -/
def itemsOf : Dt → Option (List Dt)
  | .tup ds => some ds
  | .lst ds => some ds
  | .nms ns => some (ns.map .str)
  | .scr ns => some (ns.map .int)
  | _ => none
theorem de_items (h : De K C B d v) (e : itemsOf d = some ds) : ∃ a xs, v = .ref a ∧ (SqL K B a xs ∨ SqT K B a xs) ∧ DeAll K C B ds xs := by
  cases d with
  | tup es =>
    cases e
    obtain ⟨a, xs, h1, h2, h3⟩ := h
    exact ⟨a, xs, h1, .inr h2, h3⟩
  | lst es =>
    cases e
    obtain ⟨a, xs, h1, h2, h3⟩ := h
    exact ⟨a, xs, h1, .inl (SqL.of h2), h3⟩
  | nms ns =>
    cases e
    obtain ⟨a, h1, h2⟩ := h
    exact ⟨a, _, h1, .inr h2.seqT, DeAll.of_strs ns⟩
  | scr ns =>
    cases e
    obtain ⟨a, h1, h2⟩ := h
    exact ⟨a, _, h1, .inl h2, DeAll.of_ints ns⟩
  | _ => cases e
theorem sq_up {a : Addr} {xs : List V} (e : Ex B H) (h : SqL K B a xs ∨ SqT K B a xs) : SqL K H a xs ∨ SqT K H a xs := h.imp e.l e.t
theorem DeAll.atI {vs : List V} (h : DeAll K C B ds vs) (e : atI ds i = some d) : ∃ v, L2.atI vs i = some v ∧ De K C B d v := by
  unfold L2.atI at e ⊢
  rw [h.length]
  cases q : ixN ds.length i with
  | none =>
    rw [q] at e
    cases e
  | some j =>
    rw [q] at e
    exact h.get (i := j) e
theorem atI_of {α : Type} {xs : List α} {j : Nat} {x : α} (hi : i = (j : Int)) (h : xs[j]? = some x) : L2.atI xs i = some x := by
  rw [hi]
  exact atI_nat h

/-! ### in -/
theorem inV_str {s : PySem.Str} : ∀ {ns : List PySem.Str}, inV (.str s) (ns.map V.str) = decide (s ∈ ns)
  | [] => rfl
  | n :: ns => by
    have ih := inV_str (s := s) (ns := ns)
    unfold inV at ih ⊢
    rw [List.map_cons, List.any_cons, ih]
    show ((n == s) || _) = _
    rw [Bool.eq_iff_iff, Bool.or_eq_true, decide_eq_true_eq, decide_eq_true_eq, beq_iff_eq, List.mem_cons]
    exact ⟨fun h => h.imp Eq.symm id, fun h => h.imp Eq.symm id⟩
theorem inV_int {s : Int} : ∀ {ns : List Int}, inV (.int s) (ns.map V.int) = decide (s ∈ ns)
  | [] => rfl
  | n :: ns => by
    have ih := inV_int (s := s) (ns := ns)
    unfold inV at ih ⊢
    rw [List.map_cons, List.any_cons, ih]
    show ((n == s) || _) = _
    rw [Bool.eq_iff_iff, Bool.or_eq_true, decide_eq_true_eq, decide_eq_true_eq, beq_iff_eq, List.mem_cons]
    exact ⟨fun h => h.imp Eq.symm id, fun h => h.imp Eq.symm id⟩
theorem flat_ints (ns : List Int) : (ns.map V.int).all flatV = true := by
  rw [List.all_map]
  exact List.all_eq_true.mpr fun _ _ => rfl
theorem rr_inS {s : PySem.Str} {ns : List PySem.Str} {neg : Bool} (hi : itemsOf d = some (ns.map Dt.str)) : RR K C q (rIn K neg) (.str s) d (fun x => x = .bl (if neg then !decide (s ∈ ns) else decide (s ∈ ns))) := fun n B H x y Q b h1 h2 hf => by
  obtain ⟨a, xs, e1, e2, e3⟩ := de_items h2 hi
  rw [e3.strs] at e2
  rw [show x = .str s from h1]
  refine ⟨a, _, e1, sq_up b.ex e2, rfl, flat_strs ns, ?_⟩
  rw [inV_str]
  exact b.fin hf rfl rfl
theorem rr_inI {s : Int} {ns : List Int} {neg : Bool} (hi : itemsOf d = some (ns.map Dt.int)) : RR K C q (rIn K neg) (.int s) d (fun x => x = .bl (if neg then !decide (s ∈ ns) else decide (s ∈ ns))) := fun n B H x y Q b h1 h2 hf => by
  obtain ⟨a, xs, e1, e2, e3⟩ := de_items h2 hi
  rw [e3.ints] at e2
  rw [show x = .int s from h1]
  refine ⟨a, _, e1, sq_up b.ex e2, rfl, flat_ints ns, ?_⟩
  rw [inV_int]
  exact b.fin hf rfl rfl

/-! ### subscripts, slices -/
theorem rr_item (hi : itemsOf d1 = some ds) (ha : L2.atI ds i = some d) : RR K C q (rIx K) d1 (.int i) (fun x => x = d) := fun n B H x y Q b h1 h2 hf => by
  obtain ⟨a, xs, e1, e2, e3⟩ := de_items h1 hi
  obtain ⟨w, w1, w2⟩ := e3.atI ha
  rcases e2 with e2 | e2
  · exact .inl ⟨a, xs, i, w, e1, h2, b.ex.l e2, w1, b.fin hf rfl w2⟩
  · exact .inr (.inl ⟨a, xs, i, w, e1, h2, b.ex.t e2, w1, b.fin hf rfl w2⟩)
theorem rr_itemS {s : PySem.Str} {c : Nat} (hz : s.length ≤ 1000) (ha : L2.atI s.cps.toList i = some c) : RR K C q (rIx K) (.str s) (.int i) (fun x => x = .str ⟨#[c]⟩) := fun n B H x y Q b h1 h2 hf =>
  .inr (.inr ⟨s, i, c, h1, h2, Nat.le_of_lt (small1000 hz), ha, b.fin hf rfl rfl⟩)
/-- a run of a list by a slice's bounds -/
def cutG {α : Type} (xs : List α) (lo hi : Option Int) : List α := (xs.drop (HT.sIx xs.length 0 lo)).take (HT.sIx xs.length xs.length hi - HT.sIx xs.length 0 lo)
theorem DeAll.cut {vs : List V} (h : DeAll K C B ds vs) (lo hi : Option Int) : DeAll K C B (cutG ds lo hi) (cutV vs lo hi) := by
  unfold cutG cutV
  rw [h.length]
  exact (h.drop _).take _
theorem cut_whole {α : Type} {xs : List α} {lo hi : Option Int} (h : HT.sIx xs.length 0 lo = 0 ∧ HT.sIx xs.length xs.length hi = xs.length) : cutG xs lo hi = xs := by
  unfold cutG
  rw [h.1, h.2, Nat.sub_zero, List.drop_zero]
  exact List.take_length
theorem cut_from {α : Type} (xs : List α) (k : Nat) : cutG xs (some (k : Int)) none = xs.drop k := by
  unfold cutG
  rw [HT.sIx_nat, HT.sIx_none]
  rcases Nat.le_total k xs.length with h | h
  · rw [Nat.min_eq_left h]
    exact List.take_of_length_le (by rw [List.length_drop]; exact Nat.le_refl _)
  · rw [Nat.min_eq_right h, List.drop_length, List.drop_of_length_le h]
    exact List.take_nil
theorem cut_to {α : Type} (xs : List α) (k : Nat) : cutG xs none (some (k : Int)) = xs.take k := by
  unfold cutG
  rw [HT.sIx_nat, HT.sIx_none, Nat.sub_zero, List.drop_zero]
  rcases Nat.le_total k xs.length with h | h
  · rw [Nat.min_eq_left h]
  · rw [Nat.min_eq_right h, List.take_length, List.take_of_length_le h]
def SS (K : PySem.W.Frag) (C : Addr) (q : Option Addr) (r : V → Option Int → Option Int → Hp → VK → Prop) (d : Dt) (lo hi : Option Int) (P : Dt → Prop) : Prop :=
  ∀ (n : Nat) (B H : Hp) (x : V) (Q : VK), Bs q n B H → De K C B d x → Fin K C q n B H P Q → r x lo hi H Q
theorem ss_lst {lo hi : Option Int} (hi' : itemsOf d = some ds) (hl : ∀ es, d ≠ .tup es) (hn : ∀ es, d ≠ .nms es) : SS K C q (rSlL K) d lo hi (fun x => x = .lst (cutG ds lo hi)) := fun n B H x Q b h1 hf => by
  obtain ⟨a, xs, e1, e2, e3⟩ : ∃ a xs, x = .ref a ∧ SqL K B a xs ∧ DeAll K C B ds xs := by
    cases d with
    | tup es => exact absurd rfl (hl es)
    | nms es => exact absurd rfl (hn es)
    | lst es =>
      cases hi'
      obtain ⟨a, xs, h1, h2, h3⟩ := h1
      exact ⟨a, xs, h1, SqL.of h2, h3⟩
    | scr ns =>
      cases hi'
      obtain ⟨a, h1, h2⟩ := h1
      exact ⟨a, _, h1, h2, DeAll.of_ints ns⟩
    | _ => cases hi'
  exact ⟨a, xs, e1, b.ex.l e2, fun p hp => hf _ (.lst (cutG ds lo hi)) (upd B p (.lst (cutV xs lo hi))) _ rfl (de_newL (b.none hp) (e3.cut lo hi)) (b.newB hp)⟩
theorem ss_tup {lo hi : Option Int} : SS K C q (rSlA K) (.tup ds) lo hi (fun x => x = .tup (cutG ds lo hi)) := fun n B H x Q b h1 hf => by
  obtain ⟨a, xs, e1, e2, e3⟩ := id h1
  refine ⟨a, xs, e1, b.ex.t e2, fun hw => ?_, fun hw p hp => hf _ (.tup (cutG ds lo hi)) (upd B p (.tup (cutV xs lo hi))) _ rfl (de_newT (b.none hp) (e3.cut lo hi)) (b.newB hp)⟩
  rw [e3.length] at hw
  exact hf _ (.tup (cutG ds lo hi)) B H rfl (by rw [cut_whole hw, ← e1]; exact h1) b.refl
theorem ss_nms {lo hi : Option Int} {ns : List PySem.Str} : SS K C q (rSlA K) (.nms ns) lo hi (fun x => x = .tup (cutG (ns.map Dt.str) lo hi)) := fun n B H x Q b h1 hf => ss_tup n B H x Q b h1.nms_tup hf
theorem ss_str {lo hi : Option Int} {s : PySem.Str} (hz : s.length ≤ 1000) : SS K C q rSlS (.str s) lo hi (fun x => x = .str (cutS s lo hi)) := fun n B H x Q b h1 hf =>
  ⟨s, h1, Nat.le_of_lt (small1000 hz), b.fin hf rfl rfl⟩

/-! ### +, * of sequences and texts -/
theorem rr_catL (hz : ds.length + es.length ≤ 1000) : RR K C q rCat (.lst ds) (.lst es) (fun x => x = .lst (ds ++ es)) := fun n B H x y Q b h1 h2 hf => by
  obtain ⟨a, xs, e1, e2, e3⟩ := h1
  obtain ⟨a', ys, f1, f2, f3⟩ := h2
  have hz' : xs.length + ys.length ≤ 1000 := by
    rw [e3.length, f3.length]
    exact hz
  exact ⟨a, a', xs, ys, e1, f1, b.ex _ _ e2, b.ex _ _ f2, Nat.le_of_lt (small1000 hz'), fun p hp => hf _ (.lst (ds ++ es)) (upd B p (.lst (xs ++ ys))) _ rfl (de_newL (b.none hp) (e3.append f3)) (b.newB hp)⟩
theorem rr_catT (hz : ds.length + es.length ≤ 1000) : RR K C q (rCatA K) (.tup ds) (.tup es) (fun x => x = .tup (ds ++ es)) := fun n B H x y Q b h1 h2 hf => by
  obtain ⟨a, xs, e1, e2, e3⟩ := id h1
  obtain ⟨a', ys, f1, f2, f3⟩ := id h2
  have hz' : xs.length + ys.length ≤ 1000 := by
    rw [e3.length, f3.length]
    exact hz
  refine ⟨a, a', xs, ys, e1, f1, b.ex.t e2, b.ex.t f2, Nat.le_of_lt (small1000 hz'), fun hx => ?_, fun _ hy => ?_, fun _ _ p hp => hf _ (.tup (ds ++ es)) (upd B p (.tup (xs ++ ys))) _ rfl (de_newT (b.none hp) (e3.append f3)) (b.newB hp)⟩
  · have l := e3.length
    rw [hx] at l
    have : ds = [] := List.length_eq_zero_iff.mp l.symm
    subst this
    exact hf _ (.tup ([] ++ es)) B H rfl (by rw [← f1]; exact h2) b.refl
  · have l := f3.length
    rw [hy] at l
    have : es = [] := List.length_eq_zero_iff.mp l.symm
    subst this
    exact hf _ (.tup (ds ++ [])) B H rfl (by rw [List.append_nil, ← e1]; exact h1) b.refl
theorem rr_rep {k : Int} (h0 : 0 ≤ k) (hz : k ≤ 1000) : RR K C q rRep (.lst [d]) (.int k) (fun x => x = .lst (List.replicate k.toNat d)) := fun n B H x y Q b h1 h2 hf => by
  obtain ⟨a, xs, e1, e2, e3⟩ := h1
  obtain ⟨w, r, rfl, h4, h5⟩ := e3
  cases (show r = [] from h5)
  refine ⟨a, k, [w], e1, h2, b.ex _ _ e2, by omega, by omega, by
    rw [List.length_singleton, Nat.one_mul, sizeLine_eq]
    omega, fun p hp => ?_⟩
  have e : (List.replicate k.toNat [w]).flatten = List.replicate k.toNat w := by
    generalize k.toNat = m
    induction m with
    | zero => rfl
    | succ m ih => rw [List.replicate_succ, List.flatten_cons, ih, List.replicate_succ]; rfl
  rw [e]
  exact hf _ (.lst (List.replicate k.toNat d)) (upd B p (.lst (List.replicate k.toNat w))) _ rfl (de_newL (b.none hp) (DeAll.rep h4 _)) (b.newB hp)
theorem rr_catS {s t : PySem.Str} (hz : s.length + t.length ≤ 1000) : RR K C q (fun x y H Q => ∃ i j, x = .str i ∧ y = .str j ∧ i.length + j.length ≤ sizeLine ∧ Q (.str (i ++ j)) H) (.str s) (.str t) (fun x => x = .str (s ++ t)) := fun n B H x y Q b h1 h2 hf =>
  ⟨s, t, h1, h2, Nat.le_of_lt (small1000 hz), b.fin hf rfl rfl⟩

/-! ### calls of built-ins by values -/
theorem DeAll.one {xs : List V} (h : DeAll K C B [d] xs) : ∃ x, xs = [x] ∧ De K C B d x := by
  obtain ⟨x, r, rfl, h1, h2⟩ := h
  cases (show r = [] from h2)
  exact ⟨x, rfl, h1⟩
theorem DeAll.two {xs : List V} (h : DeAll K C B [d1, d2] xs) : ∃ x y, xs = [x, y] ∧ De K C B d1 x ∧ De K C B d2 y := by
  obtain ⟨x, r, rfl, h1, h2⟩ := h
  obtain ⟨y, rfl, h3⟩ := h2.one
  exact ⟨x, y, rfl, h1, h3⟩
abbrev rLenQ (K : PySem.W.Frag) : List V → Hp → VK → Prop := fun xs H Q => ∃ p ys, xs = [.ref p] ∧ (SqL K H p ys ∨ SqT K H p ys) ∧ Q (.int ys.length) H
theorem cc_len (hi : itemsOf d = some ds) : CC K C q (rLenQ K) [d] (fun x => x = .int ds.length) := fun n B H xs Q b h hf => by
  obtain ⟨x, rfl, h1⟩ := h.one
  obtain ⟨a, ys, rfl, e2, e3⟩ := de_items h1 hi
  refine ⟨a, ys, rfl, sq_up b.ex e2, ?_⟩
  rw [e3.length]
  exact b.fin hf rfl rfl
theorem cc_lenS {s : PySem.Str} (hz : s.length ≤ 1000) : CC K C q (fun xs H Q => ∃ z, xs = [.str z] ∧ z.length ≤ sizeLine ∧ Q (.int z.length) H) [.str s] (fun x => x = .int s.length) := fun n B H xs Q b h hf => by
  obtain ⟨x, rfl, h1⟩ := h.one
  rw [show x = .str s from h1]
  exact ⟨s, rfl, Nat.le_of_lt (small1000 hz), b.fin hf rfl rfl⟩
theorem cc_list (hi : itemsOf d = some ds) : CC K C q (fun xs H Q => ∃ p ys, xs = [.ref p] ∧ (SqL K H p ys ∨ SqT K H p ys) ∧ ∀ l, H l = none → Q (.ref l) (upd H l (.lst ys))) [d] (fun x => x = .lst ds) := fun n B H xs Q b h hf => by
  obtain ⟨x, rfl, h1⟩ := h.one
  obtain ⟨a, ys, rfl, e2, e3⟩ := de_items h1 hi
  exact ⟨a, ys, rfl, sq_up b.ex e2, fun p hp => hf _ (.lst ds) (upd B p (.lst ys)) _ rfl (de_newL (b.none hp) e3) (b.newB hp)⟩
theorem cc_tuple : CC K C q (fun xs H Q => ∃ p ys, xs = [.ref p] ∧ ((SqL K H p ys ∧ ∀ l, H l = none → Q (.ref l) (upd H l (.tup ys))) ∨ (SqT K H p ys ∧ Q (.ref p) H))) [.lst ds] (fun x => x = .tup ds) := fun n B H xs Q b h hf => by
  obtain ⟨x, rfl, h1⟩ := h.one
  obtain ⟨a, ys, rfl, e2, e3⟩ := h1
  exact ⟨a, ys, rfl, .inl ⟨SqL.of (b.ex _ _ e2), fun p hp => hf _ (.tup ds) (upd B p (.tup ys)) _ rfl (de_newT (b.none hp) e3) (b.newB hp)⟩⟩
theorem cc_max2 : CC K C q (fun xs H Q => ∃ i j, xs = [.int i, .int j] ∧ Q (.int (if j > i then j else i)) H) [.int i, .int j] (fun x => x = .int (if j > i then j else i)) := fun n B H xs Q b h hf => by
  obtain ⟨x, y, rfl, h1, h2⟩ := h.two
  exact ⟨i, j, by rw [show x = .int i from h1, show y = .int j from h2], b.fin hf rfl rfl⟩
theorem cc_min2 : CC K C q (fun xs H Q => ∃ i j, xs = [.int i, .int j] ∧ Q (.int (if j < i then j else i)) H) [.int i, .int j] (fun x => x = .int (if j < i then j else i)) := fun n B H xs Q b h hf => by
  obtain ⟨x, y, rfl, h1, h2⟩ := h.two
  exact ⟨i, j, by rw [show x = .int i from h1, show y = .int j from h2], b.fin hf rfl rfl⟩
theorem lst_ints {ns : List Int} {x : V} (h : De K C B (.lst (ns.map Dt.int)) x) : ∃ a, x = .ref a ∧ B a = some (.lst (ns.map V.int)) := by
  obtain ⟨a, xs, h1, h2, h3⟩ := h
  rw [h3.ints] at h2
  exact ⟨a, h1, h2⟩
theorem lst_strs {ns : List PySem.Str} {x : V} (h : De K C B (.lst (ns.map Dt.str)) x) : ∃ a, x = .ref a ∧ B a = some (.lst (ns.map V.str)) := by
  obtain ⟨a, xs, h1, h2, h3⟩ := h
  rw [h3.strs] at h2
  exact ⟨a, h1, h2⟩
theorem lst_bls {ns : List Bool} {x : V} (h : De K C B (.lst (ns.map Dt.bl)) x) : ∃ a, x = .ref a ∧ B a = some (.lst (ns.map V.bl)) := by
  obtain ⟨a, xs, h1, h2, h3⟩ := h
  rw [h3.bls] at h2
  exact ⟨a, h1, h2⟩
theorem cc_sum {ns : List Int} : CC K C q (rSum K) [.lst (ns.map Dt.int)] (fun x => x = .int ns.sum) := fun n B H xs Q b h hf => by
  obtain ⟨x, rfl, h1⟩ := h.one
  obtain ⟨a, rfl, h2⟩ := lst_ints h1
  exact ⟨a, ns, rfl, SqL.of (b.ex _ _ h2), b.fin hf rfl rfl⟩
theorem cc_all {ns : List Bool} : CC K C q (rAll K) [.lst (ns.map Dt.bl)] (fun x => x = .bl (ns.all id)) := fun n B H xs Q b h hf => by
  obtain ⟨x, rfl, h1⟩ := h.one
  obtain ⟨a, rfl, h2⟩ := lst_bls h1
  exact ⟨a, ns, rfl, SqL.of (b.ex _ _ h2), b.fin hf rfl rfl⟩
theorem cc_any {ns : List Bool} : CC K C q (rAny K) [.lst (ns.map Dt.bl)] (fun x => x = .bl (ns.any id)) := fun n B H xs Q b h hf => by
  obtain ⟨x, rfl, h1⟩ := h.one
  obtain ⟨a, rfl, h2⟩ := lst_bls h1
  exact ⟨a, ns, rfl, SqL.of (b.ex _ _ h2), b.fin hf rfl rfl⟩
theorem cc_sortedS {ns : List PySem.Str} (hz : ns.length < 64) : CC K C q (rSortedS K) [.lst (ns.map Dt.str)] (fun x => ∃ ys : List PySem.Str, x = .lst (ys.map Dt.str) ∧ ys.Perm ns ∧ sortedS ys = true) := fun n B H xs Q b h hf => by
  obtain ⟨x, rfl, h1⟩ := h.one
  obtain ⟨a, rfl, h2⟩ := lst_strs h1
  exact ⟨a, ns, rfl, SqL.of (b.ex _ _ h2), hz, fun ys p h3 h4 hp => hf _ (.lst (ys.map Dt.str)) (upd B p (.lst (ys.map V.str))) _ ⟨ys, rfl, h3, h4⟩ (de_newL (b.none hp) (DeAll.of_strs ys)) (b.newB hp)⟩

/-! ### isinstance -/
/-- a datum's built-in type -/
def tyOf : Dt → Option String
  | .non => some "NoneType"
  | .bl _ => some "bool"
  | .int _ => some "int"
  | .str _ => some "str"
  | .tup _ => some "tuple"
  | .nms _ => some "tuple"
  | .lst _ => some "list"
  | _ => none
theorem de_ty {T : String} (h : De K C B d v) (e : tyOf d = some T) (hx : Ex B H) : TyX K H v (.type T) := by
  cases d with
  | non => cases e; rw [show v = .non from h]; exact .base .non
  | bl b => cases e; rw [show v = .bl b from h]; exact .base (.bl b)
  | int b => cases e; rw [show v = .int b from h]; exact .base (.int b)
  | str b => cases e; rw [show v = .str b from h]; exact .base (.str b)
  | tup ds =>
    cases e
    obtain ⟨a, xs, rfl, h2, _⟩ := h
    rcases h2 with (h2 | ⟨o, h2⟩) | ⟨o, its, m, h2, h3, _⟩
    · exact .base (.tup (hx _ _ h2))
    · exact .fTuple (hx _ _ h2)
    · exact .kTuple h2 h3
  | lst ds =>
    cases e
    obtain ⟨a, xs, rfl, h2, _⟩ := h
    exact .base (.lst (hx _ _ h2))
  | nms ns =>
    cases e
    obtain ⟨a, rfl, o, h2, _⟩ := h
    exact .fTuple (hx _ _ h2)
  | _ => cases e
theorem cc_isi {T U : String} {i : Bool} (hT : tyOf d = some T) (hk : kitB T U = some i) : CC K C q (rIsi K) [d, .ty U] (fun x => x = .bl i) := fun n B H xs Q b h hf => by
  obtain ⟨x, y, rfl, h1, h2⟩ := h.two
  rw [show y = .ty U from h2]
  exact ⟨x, .ty U, .type T, .type U, i, rfl, .ty U, de_ty h1 hT b.ex, kit_ty hk, b.fin hf rfl rfl⟩

/-! ### data as the library's, for == and repr -/
mutual
def toPy : Dt → PyData
  | .non => .none
  | .bl b => .bool b
  | .int i => .int i
  | .str s => .str s
  | .tup ds => .tuple (toPyAll ds)
  | .lst ds => .list (toPyAll ds)
  | .nms ns => .tuple (ns.map .str)
  | .scr ns => .list (ns.map .int)
  | .ty _ => .none
  | .tlk _ _ _ => .none
  | .cell _ => .none
  | .dic _ => .none
def toPyAll : List Dt → List PyData
  | [] => []
  | d :: ds => toPy d :: toPyAll ds
end
mutual
/-- no talk, no cell, no type within -/
def plainD : Dt → Bool
  | .non => true
  | .bl _ => true
  | .int _ => true
  | .str _ => true
  | .tup ds => plainDs ds
  | .lst ds => plainDs ds
  | .nms _ => true
  | .scr _ => true
  | .ty _ => false
  | .tlk _ _ _ => false
  | .cell _ => false
  | .dic _ => false
def plainDs : List Dt → Bool
  | [] => true
  | d :: ds => plainD d && plainDs ds
end
theorem dpAll_strs : ∀ ns : List PySem.Str, DpAll K H (ns.map V.str) (ns.map PyData.str)
  | [] => .nil
  | n :: ns => .cons (.str n) (dpAll_strs ns)
theorem dpAll_ints : ∀ ns : List Int, DpAll K H (ns.map V.int) (ns.map PyData.int)
  | [] => .nil
  | n :: ns => .cons (.int n) (dpAll_ints ns)
mutual
theorem De.dp (hx : Ex B H) : ∀ (d : Dt) (v : V), De K C B d v → plainD d = true → Dp K H v (toPy d)
  | .non, v, h, _ => by rw [show v = .non from h]; exact .non
  | .bl b, v, h, _ => by rw [show v = .bl b from h]; exact .bl b
  | .int b, v, h, _ => by rw [show v = .int b from h]; exact .int b
  | .str b, v, h, _ => by rw [show v = .str b from h]; exact .str b
  | .tup ds, v, h, hp => by
    obtain ⟨a, xs, rfl, h2, h3⟩ := h
    exact .tup (hx.t h2) (DeAll.dp hx ds xs h3 hp)
  | .lst ds, v, h, hp => by
    obtain ⟨a, xs, rfl, h2, h3⟩ := h
    exact .lst (SqL.of (hx _ _ h2)) (DeAll.dp hx ds xs h3 hp)
  | .nms ns, v, h, _ => by
    obtain ⟨a, rfl, h2⟩ := h
    exact .tup (hx.t h2.seqT) (dpAll_strs ns)
  | .scr ns, v, h, _ => by
    obtain ⟨a, rfl, h2⟩ := h
    exact .lst (hx.l h2) (dpAll_ints ns)
  | .ty _, _, _, hp => by cases hp
  | .tlk _ _ _, _, _, hp => by cases hp
  | .cell _, _, _, hp => by cases hp
  | .dic _, _, _, hp => by cases hp
theorem DeAll.dp (hx : Ex B H) : ∀ (ds : List Dt) (vs : List V), DeAll K C B ds vs → plainDs ds = true → DpAll K H vs (toPyAll ds)
  | [], _, h, _ => by
    cases (show _ = [] from h)
    exact .nil
  | d :: ds, _, h, hp => by
    obtain ⟨x, xs, rfl, h2, h3⟩ := h
    have hp' : (plainD d && plainDs ds) = true := hp
    obtain ⟨p1, p2⟩ := Bool.and_eq_true_iff.mp hp'
    exact .cons (De.dp hx d x h2 p1) (DeAll.dp hx ds xs h3 p2)
end
theorem rr_eqD (p1 : plainD d1 = true) (p2 : plainD d2 = true) (s1 : SeqAt.shaped (toPy d1) = true) (s2 : SeqAt.shaped (toPy d2) = true) : RR K C q (rEqD K) d1 d2 (fun x => x = .bl (PyData.eqv (toPy d1) (toPy d2))) := fun n B H x y Q b h1 h2 hf =>
  ⟨_, _, De.dp b.ex d1 x h1 p1, De.dp b.ex d2 y h2 p2, s1, s2, b.fin hf rfl rfl⟩
theorem rr_neD (p1 : plainD d1 = true) (p2 : plainD d2 = true) (s1 : SeqAt.shaped (toPy d1) = true) (s2 : SeqAt.shaped (toPy d2) = true) : RR K C q (rNeD K) d1 d2 (fun x => x = .bl (!PyData.eqv (toPy d1) (toPy d2))) := fun n B H x y Q b h1 h2 hf =>
  ⟨_, _, De.dp b.ex d1 x h1 p1, De.dp b.ex d2 y h2 p2, s1, s2, b.fin hf rfl rfl⟩
end

/-! ### the rules over syntax -/
section
variable {X : Cx} {C : Addr} {q : Option Addr} {k k1 k2 : Nat} {env : En} {cs : Cs} {P P1 P2 : Dt → Prop} {a b c e : Expr} {es : List Expr} {pos p p2 : Pos} {d d1 d2 : Dt} {ds es' : List Dt} {i j : Int}
theorem ed_len (hm : X.mg "len" = none) (ha : ED X C q e env cs d) (hi : itemsOf d = some ds) (hg : Gl X "len" := by rfl) (he : starEach [e] X.env = (false, eval e X.env) :: starEach [] X.env := by rfl) : ED X C q (.Call (.Name "len" p) [e] [] pos) env cs (.int ds.length) :=
  em_callB call_len_seq hm PySem.boot_len (ad_cons ha ad_nil he) (fun _ h => h ▸ cc_len hi) hg (by decide) (by decide) he rfl
theorem ed_lenS (hm : X.mg "len" = none) {s : PySem.Str} (ha : ED X C q e env cs (.str s)) (hz : s.length ≤ 1000) (hg : Gl X "len" := by rfl) (he : starEach [e] X.env = (false, eval e X.env) :: starEach [] X.env := by rfl) : ED X C q (.Call (.Name "len" p) [e] [] pos) env cs (.int s.length) :=
  em_callB call_len_str hm PySem.boot_len (ad_cons ha ad_nil he) (fun _ h => h ▸ cc_lenS hz) hg (by decide) (by decide) he rfl
theorem ed_list (hm : X.mg "list" = none) (ha : ED X C q e env cs d) (hi : itemsOf d = some ds) (hg : Gl X "list" := by rfl) (he : starEach [e] X.env = (false, eval e X.env) :: starEach [] X.env := by rfl) : ED X C q (.Call (.Name "list" p) [e] [] pos) env cs (.lst ds) :=
  em_callTy call_list_of hm (by decide +kernel) (ad_cons ha ad_nil he) (fun _ h => h ▸ cc_list hi) hg (by decide) (by decide) he rfl
theorem em_tuple {PL : List Dt → Prop} (hm : X.mg "tuple" = none) (ha : EM X C q k e env cs (fun d => ∃ ds, d = .lst ds ∧ PL ds)) (hg : Gl X "tuple" := by rfl) (he : starEach [e] X.env = (false, eval e X.env) :: starEach [] X.env := by rfl) :
    EM X C q k (.Call (.Name "tuple" p) [e] [] pos) env cs (fun d => ∃ ds, d = .tup ds ∧ PL ds) :=
  em_callTy call_tuple_of hm (by decide +kernel) (am_cons (k2 := 0) ha ad_nil he) (fun ds' ⟨_, _, h1, ⟨ds, h2, h3⟩, h4⟩ n B H xs Q b hd hf => by
    subst h1 h2 h4
    exact cc_tuple n B H xs Q b hd fun v d B2 H2 e => hf v d B2 H2 ⟨ds, e, h3⟩) hg (by decide) (by decide) he rfl
theorem ed_tuple (hm : X.mg "tuple" = none) (ha : ED X C q e env cs (.lst ds)) (hg : Gl X "tuple" := by rfl) (he : starEach [e] X.env = (false, eval e X.env) :: starEach [] X.env := by rfl) : ED X C q (.Call (.Name "tuple" p) [e] [] pos) env cs (.tup ds) :=
  em_callTy call_tuple_of hm (by decide +kernel) (ad_cons ha ad_nil he) (fun _ h => h ▸ cc_tuple) hg (by decide) (by decide) he rfl
theorem ed_max2 (hc : X.calm = true) (hm : X.mg "max" = none) (ha : ED X C q a env cs (.int i)) (hb : ED X C q b env cs (.int j)) (hg : Gl X "max" := by rfl) (he : starEach [a, b] X.env = (false, eval a X.env) :: starEach [b] X.env := by rfl) (he2 : starEach [b] X.env = (false, eval b X.env) :: starEach [] X.env := by rfl)
    (hpl : (backTo pos (starEach [b] X.env)).any (·.1) = false := by rfl) : ED X C q (.Call (.Name "max" p) [a, b] [] pos) env cs (.int (if j > i then j else i)) :=
  em_callB (call_max2 hc) hm (by decide +kernel) (ad_cons ha (ad_cons hb ad_nil he2) he) (fun _ h => h ▸ cc_max2) hg (by decide) (by decide) he hpl
theorem ed_min2 (hc : X.calm = true) (hm : X.mg "min" = none) (ha : ED X C q a env cs (.int i)) (hb : ED X C q b env cs (.int j)) (hg : Gl X "min" := by rfl) (he : starEach [a, b] X.env = (false, eval a X.env) :: starEach [b] X.env := by rfl) (he2 : starEach [b] X.env = (false, eval b X.env) :: starEach [] X.env := by rfl)
    (hpl : (backTo pos (starEach [b] X.env)).any (·.1) = false := by rfl) : ED X C q (.Call (.Name "min" p) [a, b] [] pos) env cs (.int (if j < i then j else i)) :=
  em_callB (call_min2 hc) hm (by decide +kernel) (ad_cons ha (ad_cons hb ad_nil he2) he) (fun _ h => h ▸ cc_min2) hg (by decide) (by decide) he hpl
theorem ed_sum {ns : List Int} (hc : X.calm = true) (hm : X.mg "sum" = none) (ha : ED X C q e env cs (.lst (ns.map Dt.int))) (hg : Gl X "sum" := by rfl) (he : starEach [e] X.env = (false, eval e X.env) :: starEach [] X.env := by rfl) : ED X C q (.Call (.Name "sum" p) [e] [] pos) env cs (.int ns.sum) :=
  em_callB (cr_sum hc) hm (by decide +kernel) (ad_cons ha ad_nil he) (fun _ h => h ▸ cc_sum) hg (by decide) (by decide) he rfl
theorem ed_all {ns : List Bool} (hc : X.calm = true) (hm : X.mg "all" = none) (ha : ED X C q e env cs (.lst (ns.map Dt.bl))) (hg : Gl X "all" := by rfl) (he : starEach [e] X.env = (false, eval e X.env) :: starEach [] X.env := by rfl) : ED X C q (.Call (.Name "all" p) [e] [] pos) env cs (.bl (ns.all id)) :=
  em_callB (cr_all hc) hm (by decide +kernel) (ad_cons ha ad_nil he) (fun _ h => h ▸ cc_all) hg (by decide) (by decide) he rfl
theorem ed_any {ns : List Bool} (hc : X.calm = true) (hm : X.mg "any" = none) (ha : ED X C q e env cs (.lst (ns.map Dt.bl))) (hg : Gl X "any" := by rfl) (he : starEach [e] X.env = (false, eval e X.env) :: starEach [] X.env := by rfl) : ED X C q (.Call (.Name "any" p) [e] [] pos) env cs (.bl (ns.any id)) :=
  em_callB (cr_any hc) hm (by decide +kernel) (ad_cons ha ad_nil he) (fun _ h => h ▸ cc_any) hg (by decide) (by decide) he rfl
theorem em_sortedS {ns : List PySem.Str} (hm : X.mg "sorted" = none) (hz : ns.length < 64) (ha : ED X C q e env cs (.lst (ns.map Dt.str))) (hg : Gl X "sorted" := by rfl) (he : starEach [e] X.env = (false, eval e X.env) :: starEach [] X.env := by rfl) :
    EM X C q 0 (.Call (.Name "sorted" p) [e] [] pos) env cs (fun x => ∃ ys : List PySem.Str, x = .lst (ys.map Dt.str) ∧ ys.Perm ns ∧ sortedS ys = true) :=
  em_callB cr_sortedS hm (by decide +kernel) (ad_cons ha ad_nil he) (fun _ h => h ▸ cc_sortedS hz) hg (by decide) (by decide) he rfl
theorem ed_isi {T U : String} {i : Bool} (hm : X.mg "isinstance" = none) (ha : ED X C q a env cs d) (hb : ED X C q b env cs (.ty U)) (hT : tyOf d = some T) (hk : kitB T U = some i) (hg : Gl X "isinstance" := by rfl) (he : starEach [a, b] X.env = (false, eval a X.env) :: starEach [b] X.env := by rfl) (he2 : starEach [b] X.env = (false, eval b X.env) :: starEach [] X.env := by rfl)
    (hpl : (backTo pos (starEach [b] X.env)).any (·.1) = false := by rfl) : ED X C q (.Call (.Name "isinstance" p) [a, b] [] pos) env cs (.bl i) :=
  em_callB call_isi hm (by decide +kernel) (ad_cons ha (ad_cons hb ad_nil he2) he) (fun _ h => h ▸ cc_isi hT hk) hg (by decide) (by decide) he hpl
theorem ed_item (ha : ED X C q a env cs d1) (hb : ED X C q b env cs (.int i)) (hi : itemsOf d1 = some ds) (hd : L2.atI ds i = some d) (hs : PlainIx b := by exact fun _ _ => rfl) : ED X C q (.Subscript a b pos) env cs d := ed_ix ix_seq ha hb (rr_item hi hd) hs
theorem ed_inS {s : PySem.Str} {ns : List PySem.Str} (ha : ED X C q a env cs (.str s)) (hb : ED X C q b env cs d) (hi : itemsOf d = some (ns.map Dt.str)) (hm : behindInMarks .In b = false := by rfl) : ED X C q (.Compare a [.In] [b] pos) env cs (.bl (decide (s ∈ ns))) := ed_cmp op_in_seq hm ha hb (rr_inS hi)
theorem td_inS {s : PySem.Str} {ns : List PySem.Str} (ha : ED X C q a env cs (.str s)) (hb : ED X C q b env cs d) (hi : itemsOf d = some (ns.map Dt.str)) (hm : behindInMarks .In b = false := by rfl) : TD X C q (.Compare a [.In] [b] pos) env cs (decide (s ∈ ns)) := td_cmp op_in_seq hm ha hb (rr_inS hi)
theorem td_ninS {s : PySem.Str} {ns : List PySem.Str} (ha : ED X C q a env cs (.str s)) (hb : ED X C q b env cs d) (hi : itemsOf d = some (ns.map Dt.str)) (hm : behindInMarks .NotIn b = false := by rfl) : TD X C q (.Compare a [.NotIn] [b] pos) env cs (!decide (s ∈ ns)) := td_cmp op_notIn_seq hm ha hb (rr_inS hi)
theorem td_inI {s : Int} {ns : List Int} (ha : ED X C q a env cs (.int s)) (hb : ED X C q b env cs d) (hi : itemsOf d = some (ns.map Dt.int)) (hm : behindInMarks .In b = false := by rfl) : TD X C q (.Compare a [.In] [b] pos) env cs (decide (s ∈ ns)) := td_cmp op_in_seq hm ha hb (rr_inI hi)
theorem ed_inC {c : Nat} {s : PySem.Str} (ha : ED X C q a env cs (.str ⟨#[c]⟩)) (hb : ED X C q b env cs (.str s)) (hm : behindInMarks .In b = false := by rfl) : ED X C q (.Compare a [.In] [b] pos) env cs (.bl (decide (c ∈ s.cps.toList))) :=
  ed_cmp op_in_sign hm ha hb fun n B H x y Q bb h1 h2 hf => ⟨c, s, h1, h2, bb.fin hf rfl rfl⟩
theorem ed_ltS {s t : PySem.Str} (ha : ED X C q a env cs (.str s)) (hb : ED X C q b env cs (.str t)) : ED X C q (.Compare a [.Lt] [b] pos) env cs (.bl (decide (s.cps.toList < t.cps.toList))) :=
  ed_cmp op_lt_str (nomark _) ha hb fun n B H x y Q bb h1 h2 hf => ⟨s, t, h1, h2, bb.fin hf rfl rfl⟩
theorem ed_catL (hz : ds.length + es'.length ≤ 1000) (ha : ED X C q a env cs (.lst ds)) (hb : ED X C q b env cs (.lst es')) : ED X C q (.BinOp a .Add b pos) env cs (.lst (ds ++ es')) := ed_op op_cat ha hb (rr_catL hz)
theorem ed_catT (hz : ds.length + es'.length ≤ 1000) (ha : ED X C q a env cs (.tup ds)) (hb : ED X C q b env cs (.tup es')) : ED X C q (.BinOp a .Add b pos) env cs (.tup (ds ++ es')) := ed_op op_catA ha hb (rr_catT hz)
theorem ed_catS {s t : PySem.Str} (hz : s.length + t.length ≤ 1000) (ha : ED X C q a env cs (.str s)) (hb : ED X C q b env cs (.str t)) : ED X C q (.BinOp a .Add b pos) env cs (.str (s ++ t)) := ed_op op_add_str ha hb (rr_catS hz)
theorem ed_rep (h0 : 0 ≤ i) (hz : i ≤ 1000) (ha : ED X C q a env cs (.lst [d])) (hb : ED X C q b env cs (.int i)) : ED X C q (.BinOp a .Mult b pos) env cs (.lst (List.replicate i.toNat d)) := ed_op op_rep ha hb (rr_rep h0 hz)
/-- a chain of two comparisons of ints, a <= b <= c -/
theorem td_chain {m : Int} (ha : ED X C q a env cs (.int i)) (hb : ED X C q b env cs (.int j)) (hc : ED X C q c env cs (.int m)) (hm : lastMarks [.LtE, .LtE] [b, c] = false := by with_unfolding_all rfl) :
    TD X C q (.Compare a [.LtE, .LtE] [b, c] pos) env cs (decide (i ≤ j) && decide (j ≤ m)) := fun n B σ H cf hn Q hQ =>
  wpT_of (pt_chain op_le op_le wpE_pe wpE_pe wpE_pe hm) (em_two (k1 := 0) (k2 := 0) ha hb cf hn fun x d1 y d2 B2 H2 e1 e2 f1 f2 o => by
    subst e1 e2
    refine ⟨i, j, f1, f2, _, rfl, ?_⟩
    cases z : decide (i ≤ j) with
    | true =>
      rw [if_pos rfl]
      exact hc n B2 σ H2 (cf.after o) hn _ fun w d3 B3 H3 e3 f3 o3 => by
        subst e3
        exact ⟨j, m, f2, f3, _, rfl, hQ _ B3 H3 (by rw [z]; rfl) (o.trans o3)⟩
    | false =>
      rw [if_neg Bool.false_ne_true]
      exact ⟨false, rfl, hQ _ B2 H2 (by rw [z]; rfl) o⟩)

/-! ### slices -/
inductive PD (X : Cx) (C : Addr) (q : Option Addr) (env : En) (cs : Cs) : Option Expr → Option Int → Prop
  | none : PD X C q env cs none none
  | some {e : Expr} {i : Int} (h : ED X C q e env cs (.int i)) : PD X C q env cs (some e) (some i)
def wpO (X : Cx) (o : Option Expr) : TO := fun σ H Q => ∀ (pins : List (Addr × Obj)) (s : Shared), Inv X pins σ H s → wpAny (model X.prog X.w) X.A (evalPart o X.env) (fun u s' => ∃ o H', Inv X pins σ H' s' ∧ IsPart u o ∧ Q o H') X.xe s
theorem wpO_po {o : Option Expr} : PO X o (wpO X o) := ⟨fun pins s _ _ _ I h => h pins s I⟩
theorem PD.run {o : Option Expr} {v : Option Int} (h : PD X C q env cs o v) {n : Nat} {B H : Hp} {σ : L2.St} (cf : Cfg X.K C q n env cs B σ H) (hn : n ≤ LIM) {Q : Option Int → Hp → Prop} (hQ : ∀ B2 H2, Out q n B H B2 H2 → Q v H2) : wpO X o σ H Q := by
  cases h with
  | none => exact fun pins s I => po_none.run pins s σ H Q I (hQ B H (Out.refl cf))
  | some h => exact fun pins s I => (po_some wpE_pe).run pins s σ H Q I (h n B σ H cf hn _ fun v d B2 H2 e de o => by
      subst e
      exact ⟨_, de, hQ B2 H2 o⟩)
theorem em_slice {r : V → Option Int → Option Int → Hp → VK → Prop} {lo hi : Option Expr} {l u : Option Int} (hr : SlR X r) (ha : ED X C q a env cs d) (hl : PD X C q env cs lo l) (hu : PD X C q env cs hi u) (h : SS X.K C q r d l u P) :
    EM X C q 0 (.Subscript a (.Slice lo hi none p2) pos) env cs P := fun n B σ H cf hn Q hQ =>
  wpE_of (pe_slice hr wpE_pe wpO_po wpO_po) (ha n B σ H cf hn _ fun v d' B1 H1 e de o1 => hl.run (cf.after o1) hn fun B2 H2 o2 => hu.run ((cf.after o1).after o2) hn fun B3 H3 o3 => by
    subst e
    exact h n B3 H3 v Q o3.bs (De.mono (o2.nw.ex.trans o3.nw.ex) _ v de) fun v d B4 H4 p e o4 => hQ v d B4 H4 p e (((o1.trans o2).trans o3).trans o4))
theorem ed_sliceL {lo hi : Option Expr} {l u : Option Int} (ha : ED X C q a env cs (.lst ds)) (hl : PD X C q env cs lo l) (hu : PD X C q env cs hi u) : ED X C q (.Subscript a (.Slice lo hi none p2) pos) env cs (.lst (cutG ds l u)) :=
  em_slice sl_list ha hl hu (ss_lst rfl (fun _ h => by cases h) fun _ h => by cases h)
theorem ed_sliceT {lo hi : Option Expr} {l u : Option Int} (ha : ED X C q a env cs (.tup ds)) (hl : PD X C q env cs lo l) (hu : PD X C q env cs hi u) : ED X C q (.Subscript a (.Slice lo hi none p2) pos) env cs (.tup (cutG ds l u)) :=
  em_slice sl_tupA ha hl hu ss_tup
theorem ed_sliceN {lo hi : Option Expr} {l u : Option Int} {ns : List PySem.Str} (ha : ED X C q a env cs (.nms ns)) (hl : PD X C q env cs lo l) (hu : PD X C q env cs hi u) : ED X C q (.Subscript a (.Slice lo hi none p2) pos) env cs (.tup (cutG (ns.map Dt.str) l u)) :=
  em_slice sl_tupA ha hl hu ss_nms
theorem ed_sliceS {lo hi : Option Expr} {l u : Option Int} {s : PySem.Str} (hz : s.length ≤ 1000) (ha : ED X C q a env cs (.str s)) (hl : PD X C q env cs lo l) (hu : PD X C q env cs hi u) : ED X C q (.Subscript a (.Slice lo hi none p2) pos) env cs (.str (cutS s l u)) :=
  em_slice sl_str ha hl hu (ss_str hz)
end
end Cf

/-! Cf4: own defs, methods, attributes; targets; what is walked. -/
namespace Cf
open PySem PySem.Spec PyProof.Rows L2

/-! ### what a def promises, by data -/
def SpQ (K : PySem.W.Frag) (C : Addr) (k : Nat) (pre : Option Addr → List Dt → Prop) (post : List Dt → Dt → Prop) : Sp := fun vs H Q _ =>
  ∃ ds B q n, DeAll K C B ds vs ∧ Bs q n B H ∧ n + k ≤ LIM ∧ pre q ds ∧ ∀ v d B2 H2, post ds d → De K C B2 d v → Out q (n + k) B H B2 H2 → Q v H2

section
variable {X : Cx} {C : Addr} {q : Option Addr} {k k1 k2 kf lv : Nat} {env : En} {cs : Cs} {P P1 P2 : Dt → Prop} {a b c e o : Expr} {es : List Expr} {pos p p2 apos kpos : Pos} {d d1 d2 : Dt} {ds es' : List Dt} {i j : Int}
  {f : Addr} {fd : FuncData} {ps ks : List PySem.Str} {pre : Option Addr → List Dt → Prop} {post : List Dt → Dt → Prop} {PA1 : List Dt → Prop} {x m : PySem.Str}
theorem em_call (F : FnOk X.prog X.w X.K X.mg X.base CX0 lv f fd ps (SpQ X.K C kf pre post)) (hr : Room lv X.A) (hm : X.mg x = some (.ref f)) (hk : PySem.W.keepIn X.K (.ref f) = true) (hb : Binds X.K fd ps []) (ha : AM X C q k (e :: es) env cs PA1)
    (hpre : ∀ ds, PA1 ds → pre q ds) (hp : ∀ ds d, PA1 ds → post ds d → P d) (hg : Gl X x := by rfl) (hdb : (x == ("__debug__" : PySem.Str)) = false := by decide)
    (he : starEach (e :: es) X.env = (false, eval e X.env) :: starEach es X.env := by rfl) (hpl : (backTo pos (starEach es X.env)).any (·.1) = false := by rfl) : EM X C q (k + kf) (.Call (.Name x p) (e :: es) [] pos) env cs P := fun n B σ H cf hn Q hQ =>
  wpE_of (pe_call F hr hg hm hk hb .nil (pass0 (X := X)) wpA_pa hdb he hpl) (ha n B σ H cf (by omega) _ fun vs ds B1 H1 p1 e1 o1 => by
    rw [List.append_nil]
    exact ⟨ds, B1, q, n + k, e1, o1.bs, by omega, hpre ds p1, fun v d B2 H2 h2 e2 o2 => hQ v d B2 H2 (hp ds d p1 h2) e2 (Nat.add_assoc n k kf ▸ o1.trans o2)⟩)
/-- a pure def, its answer a function of the data -/
theorem ed_call {g : List Dt → Dt} (F : FnOk X.prog X.w X.K X.mg X.base CX0 lv f fd ps (SpQ X.K C 0 pre (fun ds d => d = g ds))) (hr : Room lv X.A) (hm : X.mg x = some (.ref f)) (hk : PySem.W.keepIn X.K (.ref f) = true) (hb : Binds X.K fd ps []) (ha : AD X C q (e :: es) env cs ds)
    (hpre : pre q ds) (hg : Gl X x := by rfl) (hdb : (x == ("__debug__" : PySem.Str)) = false := by decide)
    (he : starEach (e :: es) X.env = (false, eval e X.env) :: starEach es X.env := by rfl) (hpl : (backTo pos (starEach es X.env)).any (·.1) = false := by rfl) : ED X C q (.Call (.Name x p) (e :: es) [] pos) env cs (g ds) :=
  em_call (k := 0) (kf := 0) F hr hm hk hb ha (fun _ h => h ▸ hpre) (fun _ _ h1 h2 => h1 ▸ h2) hg hdb he hpl

/-! ### keywords -/
def wpK (X : Cx) (kws : List Keyword) : TA := fun σ H Q => ∀ (pos : Pos) (pins : List (Addr × Obj)) (s : Shared), Inv X pins σ H s → wpAny (model X.prog X.w) X.A (evalAll ((backToKw pos (keywordEach kws X.env)).map (·.2))) (AP X pins σ Q) X.xe s
theorem wpK_pk {kws : List Keyword} : PK X kws (wpK X kws) := ⟨fun pos pins s _ _ _ I h => h pos pins s I⟩
theorem wpK_of {kws : List Keyword} {t : TA} {σ : L2.St} {H : Hp} {Q : List V → Hp → Prop} (h : PK X kws t) (hq : t σ H Q) : wpK X kws σ H Q := fun pos pins s I => h.run pos pins s σ H Q I hq
def KD (X : Cx) (C : Addr) (q : Option Addr) (kws : List Keyword) (env : En) (cs : Cs) (ds : List Dt) : Prop :=
  ∀ (n : Nat) (B : Hp) (σ : L2.St) (H : Hp), Cfg X.K C q n env cs B σ H → n ≤ LIM → ∀ Q : List V → Hp → Prop,
    (∀ vs B2 H2, DeAll X.K C B2 ds vs → Out q n B H B2 H2 → Q vs H2) → wpK X kws σ H Q
theorem kd_nil : KD X C q [] env cs [] := fun n B σ H cf hn Q hQ => wpK_of pk_nil (hQ [] B H rfl (Out.refl cf))
theorem kd_cons {kws : List Keyword} {nm : Option PySem.Str} (ha : ED X C q e env cs d) (hr : KD X C q kws env cs ds) : KD X C q (⟨nm, e, kpos⟩ :: kws) env cs (d :: ds) := fun n B σ H cf hn Q hQ =>
  wpK_of (pk_cons wpE_pe wpK_pk) (ha n B σ H cf hn _ fun x d' B1 H1 e1 f1 o1 => hr n B1 σ H1 (cf.after o1) hn _ fun vs B2 H2 f2 o2 => by
    subst e1
    exact hQ (x :: vs) B2 H2 ⟨x, vs, rfl, De.mono o2.nw.ex _ x f1, f2⟩ (o1.trans o2))
/-- f(e, .., k = v, ..) of a pure def -/
theorem em_callN {n : Nat} {kws : List Keyword} {g : List Value → List Value → List Value} {gV : List V → List V → List V} {gD : List Dt → List Dt → List Dt} {zs : List Dt} (F : FnOk X.prog X.w X.K X.mg X.base CX0 lv f fd ps (SpQ X.K C 0 pre post)) (hr : Room lv X.A) (hm : X.mg x = some (.ref f))
    (hk : PySem.W.keepIn X.K (.ref f) = true) (hb : KBn X.K fd ps n ks g gV) (hgD : ∀ B ds vs es zs, DeAll X.K C B ds vs → DeAll X.K C B es zs → DeAll X.K C B (gD ds es) (gV vs zs)) (ha : AD X C q (e :: es) env cs ds) (hkw : KD X C q kws env cs zs) (l1 : ds.length = n) (l2 : zs.length = ks.length) (hpre : pre q (gD ds zs))
    (hg : Gl X x := by rfl) (hall : (backToKw pos (keywordEach kws X.env)).all (·.1.isSome) = true := by rfl) (hks : (backToKw pos (keywordEach kws X.env)).filterMap (·.1) = ks := by rfl)
    (hdb : (x == ("__debug__" : PySem.Str)) = false := by decide) (he : starEach (e :: es) X.env = (false, eval e X.env) :: starEach es X.env := by rfl)
    (hpl : ((backTo pos (starEach (e :: es) X.env)).any (·.1) || (backToKw pos (keywordEach kws X.env)).any (·.1.isNone)) = false := by rfl) : EM X C q 0 (.Call (.Name x p) (e :: es) kws pos) env cs (fun d => post (gD ds zs) d) := fun m B σ H cf hn Q hQ =>
  wpE_of (pe_callN F hr hg hm hk hb (pass0 (X := X)) wpA_pa wpK_pk hall hks hdb he hpl) (ha m B σ H cf hn _ fun vs ds' B1 H1 p1 e1 o1 => hkw m B1 σ H1 (cf.after o1) hn _ fun ws B2 H2 e2 o2 => by
    subst p1
    have e3 := DeAll.mono o2.nw.ex _ _ e1
    exact ⟨e3.length.trans l1, e2.length.trans l2, gD ds' zs, B2, q, m, hgD _ _ _ _ _ e3 e2, o2.bs, hn, hpre, fun v d B3 H3 h3 e3 o3 => hQ v d B3 H3 h3 e3 ((o1.trans o2).trans o3)⟩)

/-! ### a talk's methods, its fields -/
theorem tlk_ins {B H : Hp} {ss ns : List PySem.Str} {top : Int} {v : V} (h : De X.K C B (.tlk ss ns top) v) (e : Ex B H) : ∃ a dx p q, v = .ref a ∧ H a = some (.ins C dx (tlkFs p q top)) ∧ NmsAt B p ss ∧ NmsAt B q ns := by
  obtain ⟨a, rfl, dx, p, q, h1, h2, h3⟩ := h
  exact ⟨a, dx, p, q, rfl, e a _ h1, h2, h3⟩
theorem tlkFs_no {p q : Addr} {top : Int} {m : PySem.Str} (h1 : ¬ m = "top") (h2 : ¬ m = "number_names") (h3 : ¬ m = "set_names") : (tlkFs p q top).lookup m = none := by
  unfold tlkFs
  rw [lookup_putF, if_neg h1, lookup_putF, if_neg h2, lookup_putF, if_neg h3]
  rfl
theorem tlkFs_top {p q : Addr} {top : Int} : (tlkFs p q top).lookup ("top" : PySem.Str) = some (.int top) := by
  unfold tlkFs
  rw [lookup_putF, if_pos rfl]
theorem tlkFs_nums {p q : Addr} {top : Int} : (tlkFs p q top).lookup ("number_names" : PySem.Str) = some (.ref q) := by
  unfold tlkFs
  rw [lookup_putF, if_neg (by decide +kernel), lookup_putF, if_pos rfl]
theorem tlkFs_sets {p q : Addr} {top : Int} : (tlkFs p q top).lookup ("set_names" : PySem.Str) = some (.ref p) := by
  unfold tlkFs
  rw [lookup_putF, if_neg (by decide +kernel), lookup_putF, if_neg (by decide +kernel), lookup_putF, if_pos rfl]
theorem ed_sets {ss ns : List PySem.Str} {top : Int} (hc : Cls X.K C) (hn : NoAttr X.K C "set_names") (ha : ED X C q e env cs (.tlk ss ns top)) (hb : attributeBase e "set_names" X.env (eval e X.env) = eval e X.env := by rfl) : ED X C q (.Attribute e "set_names" pos) env cs (.nms ss) := fun n B σ H cf hn' Q hQ =>
  wpE_of (pe_fld wpE_pe hb) (ha n B σ H cf hn' _ fun v d B1 H1 e1 f1 o1 => by
    subst e1
    obtain ⟨a, dx, p, r, rfl, h1, h2, h3⟩ := tlk_ins f1 o1.ex
    exact ⟨a, C, dx, _, _, rfl, h1, hc, hn, tlkFs_sets, hQ _ _ B1 H1 rfl ⟨p, rfl, h2⟩ o1⟩)
theorem ed_nums {ss ns : List PySem.Str} {top : Int} (hc : Cls X.K C) (hn : NoAttr X.K C "number_names") (ha : ED X C q e env cs (.tlk ss ns top)) (hb : attributeBase e "number_names" X.env (eval e X.env) = eval e X.env := by rfl) : ED X C q (.Attribute e "number_names" pos) env cs (.nms ns) := fun n B σ H cf hn' Q hQ =>
  wpE_of (pe_fld wpE_pe hb) (ha n B σ H cf hn' _ fun v d B1 H1 e1 f1 o1 => by
    subst e1
    obtain ⟨a, dx, p, r, rfl, h1, h2, h3⟩ := tlk_ins f1 o1.ex
    exact ⟨a, C, dx, _, _, rfl, h1, hc, hn, tlkFs_nums, hQ _ _ B1 H1 rfl ⟨r, rfl, h3⟩ o1⟩)
/-- talk.m() -/
theorem em_meth0 {pl : Sem Bool} {ss ns : List PySem.Str} {top : Int} (hc : Cls X.K C) (hm : Meth X.K C m f) (F : FnOk X.prog X.w X.K X.mg X.base CX0 lv f fd ps (SpQ X.K C 0 pre post)) (hr : Room lv X.A) (hb : Binds X.K fd ps []) (ho : ED X C q o env cs (.tlk ss ns top)) (hpre : pre q [.tlk ss ns top])
    (h1 : ¬ m = "top" := by decide +kernel) (h2 : ¬ m = "number_names" := by decide +kernel) (h3 : ¬ m = "set_names" := by decide +kernel)
    (ht : eval (.Call (.Attribute o m apos) [] [] pos) X.env = (do
      let ov ← eval o X.env
      standAt apos.atName
      let (f, first) ← holding [ov] (getMethod ov m pl)
      callWith pos f first (backTo pos (starEach [] X.env)) (backToKw pos (keywordEach [] X.env))) := by rfl) : EM X C q 0 (.Call (.Attribute o m apos) [] [] pos) env cs (fun d => post [.tlk ss ns top] d) := fun n B σ H cf hn Q hQ =>
  wpE_of (pe_meth0 wpE_pe hc hm F hr hb .nil (pass0 (X := X)) ht) (ho n B σ H cf hn _ fun v d B1 H1 e1 f1 o1 => by
    subst e1
    obtain ⟨a, dx, p, r, rfl, g1, g2, g3⟩ := tlk_ins f1 o1.ex
    exact ⟨a, dx, _, rfl, g1, tlkFs_no h1 h2 h3, [.tlk ss ns top], B1, q, n, ⟨_, [], rfl, f1, rfl⟩, o1.bs, hn, hpre, fun v d B2 H2 h2 e2 o2 => hQ v d B2 H2 h2 e2 (o1.trans o2)⟩)
/-- talk.m(e, ..) -/
theorem em_meth {pl : Sem Bool} {ss ns : List PySem.Str} {top : Int} (hc : Cls X.K C) (hm : Meth X.K C m f) (F : FnOk X.prog X.w X.K X.mg X.base CX0 lv f fd ps (SpQ X.K C 0 pre post)) (hr : Room lv X.A) (hb : Binds X.K fd ps []) (ho : ED X C q o env cs (.tlk ss ns top)) (ha : AD X C q (e :: es) env cs ds) (hpre : pre q (.tlk ss ns top :: ds))
    (h1 : ¬ m = "top" := by decide +kernel) (h2 : ¬ m = "number_names" := by decide +kernel) (h3 : ¬ m = "set_names" := by decide +kernel)
    (hst : starEach (e :: es) X.env = (false, eval e X.env) :: starEach es X.env := by rfl) (hpl : (backTo pos (starEach es X.env)).any (·.1) = false := by rfl)
    (ht : eval (.Call (.Attribute o m apos) (e :: es) [] pos) X.env = (do
      let ov ← eval o X.env
      standAt apos.atName
      let (f, first) ← holding [ov] (getMethod ov m pl)
      callWith pos f first (backTo pos (starEach (e :: es) X.env)) (backToKw pos (keywordEach [] X.env))) := by rfl) : EM X C q 0 (.Call (.Attribute o m apos) (e :: es) [] pos) env cs (fun d => post (.tlk ss ns top :: ds) d) := fun n B σ H cf hn Q hQ =>
  wpE_of (pe_meth wpE_pe hc hm F hr hb .nil (pass0 (X := X)) wpA_pa hst hpl ht) (ho n B σ H cf hn _ fun v d B1 H1 e1 f1 o1 => by
    subst e1
    obtain ⟨a, dx, p, r, rfl, g1, g2, g3⟩ := tlk_ins f1 o1.ex
    refine ⟨a, dx, _, rfl, g1, tlkFs_no h1 h2 h3, ha n B1 σ H1 (cf.after o1) hn _ fun vs ds' B2 H2 p2 e2 o2 => ?_⟩
    subst p2
    rw [List.append_nil]
    exact ⟨.tlk ss ns top :: ds', B2, q, n, ⟨_, vs, rfl, De.mono o2.nw.ex _ _ f1, e2⟩, o2.bs, hn, hpre, fun v d B3 H3 h3 e3 o3 => hQ v d B3 H3 h3 e3 ((o1.trans o2).trans o3)⟩)
end

/-! ### targets -/
def setS : L2.St → List Nat → List V → L2.St
  | σ, i :: is, w :: ws => setS (σ.set i (some w)) is ws
  | σ, _, _ => σ
def setE : En → List Nat → List Dt → En
  | env, i :: is, d :: ds => setE (env.set i (some d)) is ds
  | env, _, _ => env
theorem Sg.sets {K : PySem.W.Frag} {C : Addr} {B : Hp} : ∀ {sl : List Nat} {ds : List Dt} {ws : List V} {σ : L2.St} {env : En}, Sg K C B σ env → DeAll K C B ds ws → Sg K C B (setS σ sl ws) (setE env sl ds)
  | [], _, _, _, _, h, _ => h
  | i :: is, [], _, _, _, h, hd => by
    cases (show _ = [] from hd)
    exact h
  | i :: is, d :: ds, _, σ, env, h, hd => by
    obtain ⟨x, xs, rfl, h2, h3⟩ := hd
    exact Sg.sets (σ := σ.set i (some x)) (env := env.set i (some d)) (Sg.set h2 i h) h3
section
variable (X : Cx) (C : Addr) (q : Option Addr)
/-- the target tg takes x: its slots sl hold ds -/
def GD (tg : Expr) (sl : List Nat) (x : Dt) (ds : List Dt) : Prop := ∀ (n : Nat) (B : Hp) (σ : L2.St) (H : Hp) (v : V), Bs q n B H → De X.K C B x v → ∀ Q : L2.St → Hp → Prop,
  (∀ ws B2 H2, DeAll X.K C B2 ds ws → Out q n B H B2 H2 → Q (setS σ sl ws) H2) → wpG X tg v σ H Q
/-- several, one behind another -/
def wpGs (ts : List Expr) : TGs := fun vs σ H Q => ∀ (pins : List (Addr × Obj)) (s : Shared) (us : List Value), Inv X pins σ H s → Vals vs us → wpAny (model X.prog X.w) X.A (assignInOrder ((assignEach ts X.env).map (·.2)) us) (fun _ s' => ∃ σ' H', Inv X pins σ' H' s' ∧ Q σ' H') X.xe s
def GDs (ts : List Expr) (sl : List Nat) : Prop := ∀ (σ : L2.St) (H : Hp) (vs : List V), vs.length = sl.length → ∀ Q : L2.St → Hp → Prop, Q (setS σ sl vs) H → wpGs X ts vs σ H Q
end
section
variable {X : Cx} {C : Addr} {q : Option Addr} {i : Nat} {x : PySem.Str} {pos tpos : Pos} {d : Dt} {ds : List Dt} {es : List Expr} {sl : List Nat}
theorem gd_name (hN : X.N.Nodup) (hi : X.N[i]? = some x := by rfl) (hx : Loc X.env.scope x := by first | exact Or.inl rfl | exact Or.inr rfl) (hf : X.fn x = true ∨ X.env.scope.names.lookup x = some .local := by first | exact .inl rfl | exact .inr rfl) : GD X C q (.Name x pos) [i] d [d] := fun n B σ H v b h Q hQ =>
  wpG_of (pg_name hN hi hx hf) (hQ [v] B H ⟨v, [], rfl, h, rfl⟩ b.refl)
theorem gds_nil : GDs X [] [] := fun σ H vs hl Q hQ => by
  have : vs = [] := List.length_eq_zero_iff.mp hl
  subst this
  exact fun pins s us I r => pgs_nil.run pins s σ H [] us Q I r ⟨rfl, hQ⟩
theorem gds_name (hN : X.N.Nodup) (hr : GDs X es sl) (hi : X.N[i]? = some x := by rfl) (hx : Loc X.env.scope x := by first | exact Or.inl rfl | exact Or.inr rfl) (hf : X.fn x = true ∨ X.env.scope.names.lookup x = some .local := by first | exact .inl rfl | exact .inr rfl)
    (hs : (assignEach (.Name x pos :: es) X.env).map (·.2) = assign (.Name x pos) X.env :: (assignEach es X.env).map (·.2) := by rfl) : GDs X (.Name x pos :: es) (i :: sl) := fun σ H vs hl Q hQ => by
  cases vs with
  | nil => cases hl
  | cons v vr =>
    exact fun pins s us I r => (pgs_cons (pg_name hN hi hx hf) (⟨fun pins s σ H vs us Q I r h => h pins s us I r⟩ : PGs X es (wpGs X es)) hs).run pins s σ H (v :: vr) us Q I r ⟨v, vr, rfl, hr _ H vr (Nat.succ.inj hl) Q hQ⟩
theorem gd_tup {j : Nat} (hc : X.calm = true) (h : GDs X es sl) (hl : ds.length = sl.length) (hn : (assignEach es X.env).length = sl.length := by rfl) (hst : (assignEach es X.env).findIdx? (·.1) = none := by rfl) : GD X C q (.Tuple es j tpos) sl (.tup ds) ds := fun n B σ H v b hd Q hQ => by
  obtain ⟨a, xs, rfl, h2, h3⟩ := hd
  exact wpG_of (pg_tup hc (⟨fun pins s σ H vs us Q I r h => h pins s us I r⟩ : PGs X es (wpGs X es)) hn hst) ⟨a, xs, rfl, b.ex.t h2, h3.length.trans hl, h σ H xs (h3.length.trans hl) _ (hQ xs B H h3 b.refl)⟩
theorem gd_unl {j : Nat} (hc : X.calm = true) (h : GDs X es sl) (hl : ds.length = sl.length) (hn : (assignEach es X.env).length = sl.length := by rfl) (hst : (assignEach es X.env).findIdx? (·.1) = none := by rfl) : GD X C q (.Tuple es j tpos) sl (.lst ds) ds := fun n B σ H v b hd Q hQ => by
  obtain ⟨a, xs, rfl, h2, h3⟩ := hd
  exact wpG_of (pg_unl hc (⟨fun pins s σ H vs us Q I r h => h pins s us I r⟩ : PGs X es (wpGs X es)) hn hst) ⟨a, xs, rfl, SqL.of (b.ex _ _ h2), h3.length.trans hl, h σ H xs (h3.length.trans hl) _ (hQ xs B H h3 b.refl)⟩
end

/-! ### what is walked -/
structure ItOk (K : PySem.W.Frag) (C : Addr) (q : Option Addr) (J : It) (B1 : Hp) (xs : List Dt) : Prop where
  go : ∀ (i : Nat) (d : Dt) (B H : Hp), xs[i]? = some d → Ex B1 B → Ex B H → J.go i H
  yld : ∀ (i : Nat) (d : Dt) (n : Nat) (B H : Hp) (x : V) (H' : Hp), xs[i]? = some d → Ex B1 B → Bs q n B H → J.yld i H x H' → ∃ B', De K C B' d x ∧ Out q n B H B' H'
  stop : ∀ (B H : Hp), Ex B1 B → Ex B H → J.stop xs.length H
/-- iter tells the data xs, one by one, to the target tg -/
def ID (X : Cx) (C : Addr) (q : Option Addr) (tg iter : Expr) (env : En) (cs : Cs) (xs : List Dt) : Prop :=
  ∀ (n : Nat) (B : Hp) (σ : L2.St) (H : Hp), Cfg X.K C q n env cs B σ H → n ≤ LIM → ∀ R : It → Hp → Prop, (∀ J B1 H1, ItOk X.K C q J B1 xs → Out q n B H B1 H1 → R J H1) → wpI X tg iter σ H R
section
variable {X : Cx} {C : Addr} {q : Option Addr} {env : En} {cs : Cs} {e a b tg : Expr} {pos p : Pos} {d : Dt} {ds : List Dt} {i j : Int}
theorem itok_list {K : PySem.W.Frag} {B1 : Hp} {a : Addr} {xs : List V} (h : SqL K B1 a xs) (hd : DeAll K C B1 ds xs) : ItOk K C q (Itl K a) B1 ds where
  go := fun i d B H hi e1 e2 => by
    obtain ⟨v, h1, _⟩ := hd.get hi
    exact ⟨xs, v, e2.l (e1.l h), h1⟩
  yld := fun i d n B H x H' hi e1 b y => by
    obtain ⟨v, h1, h2⟩ := hd.get hi
    obtain ⟨y1, y2⟩ := y
    have e : some x = some v := (y2 xs (b.ex.l (e1.l h))).symm.trans h1
    cases e
    subst y1
    exact ⟨B, De.mono e1 _ _ h2, b.refl⟩
  stop := fun B H e1 e2 => ⟨xs, e2.l (e1.l h), by rw [hd.length]; exact Nat.le_refl _⟩
theorem itok_tup {K : PySem.W.Frag} {B1 : Hp} {a : Addr} {xs : List V} (h : SqT K B1 a xs) (hd : DeAll K C B1 ds xs) : ItOk K C q (Itt K a) B1 ds where
  go := fun i d B H hi e1 e2 => by
    obtain ⟨v, h1, _⟩ := hd.get hi
    exact ⟨xs, v, e2.t (e1.t h), h1⟩
  yld := fun i d n B H x H' hi e1 b y => by
    obtain ⟨v, h1, h2⟩ := hd.get hi
    obtain ⟨y1, y2⟩ := y
    have e : some x = some v := (y2 xs (b.ex.t (e1.t h))).symm.trans h1
    cases e
    subst y1
    exact ⟨B, De.mono e1 _ _ h2, b.refl⟩
  stop := fun B H e1 e2 => ⟨xs, e2.t (e1.t h), by rw [hd.length]; exact Nat.le_refl _⟩
theorem id_list (ha : ED X C q e env cs (.lst ds)) : ID X C q tg e env cs ds := fun n B σ H cf hn R hR =>
  wpI_of (pi_list wpE_pe) (ha n B σ H cf hn _ fun v d' B1 H1 e1 f1 o1 => by
    subst e1
    obtain ⟨a, xs, rfl, h2, h3⟩ := f1
    exact ⟨a, rfl, ⟨xs, SqL.of (o1.ex _ _ h2)⟩, hR _ B1 H1 (itok_list (SqL.of h2) h3) o1⟩)
theorem id_tup (ha : ED X C q e env cs (.tup ds)) : ID X C q tg e env cs ds := fun n B σ H cf hn R hR =>
  wpI_of (pi_tup wpE_pe) (ha n B σ H cf hn _ fun v d' B1 H1 e1 f1 o1 => by
    subst e1
    obtain ⟨a, xs, rfl, h2, h3⟩ := f1
    exact ⟨a, rfl, ⟨xs, o1.ex.t h2⟩, hR _ B1 H1 (itok_tup h2 h3) o1⟩)
theorem id_nms {ns : List PySem.Str} (ha : ED X C q e env cs (.nms ns)) : ID X C q tg e env cs (ns.map Dt.str) := id_tup fun n B σ H cf hn Q hQ =>
  ha n B σ H cf hn Q fun v d B2 H2 h1 h2 o => by
    subst h1
    exact hQ v _ B2 H2 rfl h2.nms_tup o
/-- range's data -/
def rngD (n : Nat) : List Dt := (List.range n).map fun (m : Nat) => Dt.int (m : Int)
theorem rngD_get {n i : Nat} {d : Dt} (h : (rngD n)[i]? = some d) : i < n ∧ d = .int (i : Int) := by
  unfold rngD at h
  rw [List.getElem?_map] at h
  rcases Nat.lt_or_ge i n with hl | hl
  · rw [List.getElem?_range hl] at h
    exact ⟨hl, (Option.some.inj h).symm⟩
  · rw [List.getElem?_eq_none (by rw [List.length_range]; exact hl)] at h
    cases h
theorem rngD_len (n : Nat) : (rngD n).length = n := by
  unfold rngD
  rw [List.length_map, List.length_range]
theorem rngD_at {n i : Nat} (h : i < n) : (rngD n)[i]? = some (.int (i : Int)) := by
  unfold rngD
  rw [List.getElem?_map, List.getElem?_range h]
  rfl
theorem itok_range {K : PySem.W.Frag} {B1 : Hp} {n : Nat} : ItOk K C q (Itr 0 n) B1 (rngD n) where
  go := fun i d B H hi _ _ => (rngD_get hi).1
  yld := fun i d m B H x H' hi e1 b y => by
    obtain ⟨y1, y2⟩ := y
    subst y1
    refine ⟨B, ?_, b.refl⟩
    rw [(rngD_get hi).2]
    show x = .int (i : Int)
    rw [y2, Int.zero_add]
  stop := fun B H _ _ => by
    show n ≤ (rngD n).length
    rw [rngD_len]
    exact Nat.le_refl _
theorem id_range1 (hm : X.mg "range" = none) (ha : ED X C q a env cs (.int j)) (hj : -(2 ^ 62) ≤ j ∧ j < 2 ^ 62) (hg : Gl X "range" := by rfl) (hs : starEach [a] X.env = [(false, eval a X.env)] := by rfl) : ID X C q tg (.Call (.Name "range" p) [a] [] pos) env cs (rngD j.toNat) := fun n B σ H cf hn R hR =>
  wpI_of (pi_range1 hg hm (pa_cons wpE_pe pa_nil (by rw [hs]; rfl)) hs) (ha n B σ H cf hn _ fun v d' B1 H1 e1 f1 o1 => by
    subst e1
    rw [show v = .int j from f1]
    exact ⟨j, rfl, hj.1, hj.2, hR _ B1 H1 itok_range o1⟩)
/-- a text's signs -/
def sgnD (s : PySem.Str) : List Dt := s.cps.toList.map fun c => Dt.str ⟨#[c]⟩
theorem id_str {s : PySem.Str} (ha : ED X C q e env cs (.str s)) : ID X C q tg e env cs (sgnD s) := fun n B σ H cf hn R hR =>
  wpI_of (pi_str wpE_pe) (ha n B σ H cf hn _ fun v d' B1 H1 e1 f1 o1 => by
    subst e1
    refine ⟨s, f1, hR _ B1 H1 ⟨fun i d B H hi _ _ => ?_, fun i d n B H x H' hi e1 b y => ?_, fun B H _ _ => ?_⟩ o1⟩
    · show i < s.cps.size
      have := (List.getElem?_eq_some_iff.mp hi).1
      unfold sgnD at this
      rw [List.length_map, Array.length_toList] at this
      exact this
    · obtain ⟨y1, c, y2, y3⟩ := y
      subst y1
      refine ⟨B, ?_, b.refl⟩
      unfold sgnD at hi
      rw [List.getElem?_map, Array.getElem?_toList, y2] at hi
      cases hi
      exact y3
    · show s.cps.size ≤ (sgnD s).length
      unfold sgnD
      rw [List.length_map, Array.length_toList]
      exact Nat.le_refl _)
end
end Cf

/-! Cf5: zip of lists and tuples in any mixture (two, three), enumerate of a list or a tuple. -/
namespace Cf
open PySem PySem.Spec PyProof.Rows L2

/-- a list or a tuple -/
inductive Sc where
  | l (a : Addr)
  | t (a : Addr)
def Sc.ad : Sc → Addr
  | .l a => a
  | .t a => a
def SqX (K : PySem.W.Frag) (H : Hp) : Sc → List V → Prop
  | .l a, xs => SqL K H a xs
  | .t a, xs => SqT K H a xs
def IsS (h : Heap) : Sc → Array Value → Prop
  | .l a, us => h.IsList a us
  | .t a, us => h.IsTuple a us
def IsIt (h : Heap) (it : Addr) : Sc → Nat → Prop
  | .l a, i => h.IsListIter it a i
  | .t a, i => h.IsTupleIter it a i
def Sc.ob : Sc → Obj
  | .l a => { cls := .type "list_iterator", data := .fields #[.ref a, .int 0 0] }
  | .t a => { cls := .type "tuple_iterator", data := .fields #[.ref a, .int 0 0] }
theorem Sc.begins (c : Sc) (us : Array Value) : Begins (.ref c.ad) c.ob (fun h => IsS h c us) := by
  cases c with
  | l a => exact begins_list a us
  | t a => exact begins_tuple a us
theorem Sc.draws {prog : Program} {w : World} {A : Around} (hh : A.handled = none) (c : Sc) (it : Addr) (hne : c.ad ≠ it) (us : Array Value) :
    Draws prog w A it [it, c.ad] us.size (fun i v => us[i]? = some v) (fun i h => IsIt h it c i ∧ IsS h c us) := by
  cases c with
  | l a => exact .list hh it a hne us
  | t a => exact .tuple hh it a hne us
theorem Sc.it0 {h : Heap} {it : Addr} {c : Sc} (e : h.get? it = some c.ob) : IsIt h it c 0 := by
  cases c with
  | l a => exact ⟨_, e, rfl, rfl⟩
  | t a => exact ⟨_, e, rfl, rfl⟩
theorem Sc.itAt {h h' : Heap} {it : Addr} {c : Sc} {i : Nat} (st : IsIt h it c i) (k : ∀ o, h.get? it = some o → h'.get? it = some o) : IsIt h' it c i := by
  cases c with
  | l a => exact Heap.IsListIter.at st k
  | t a => exact Heap.IsTupleIter.at st k
theorem Sc.itOb {h : Heap} {it : Addr} {c : Sc} {i : Nat} (st : IsIt h it c i) : ∃ o, h.get? it = some o ∧ ∀ v, o.data ≠ .cell v := by
  cases c with
  | l a =>
    obtain ⟨o, e, _, d⟩ := st
    exact ⟨o, e, fun v q => by rw [d] at q; cases q⟩
  | t a =>
    obtain ⟨o, e, _, d⟩ := st
    exact ⟨o, e, fun v q => by rw [d] at q; cases q⟩
section
variable {X : Cx} {pins : List (Addr × Obj)} {σ : L2.St} {H : Hp} {s : Shared}
theorem Sc.seq {c : Sc} {xs : List V} (I : Inv X pins σ H s) (h : SqX X.K H c xs) : ∃ its : List Value, Vals xs its ∧ IsS s.heap c its.toArray ∧ c.ad < s.heap.objs.size := by
  cases c with
  | l a =>
    obtain ⟨its, rv, p, _⟩ := I.list h
    exact ⟨its, rv, p.isList, p.lt⟩
  | t a =>
    obtain ⟨its, rv, p, _⟩ := I.tuple h
    obtain ⟨o, e, _⟩ := id p
    exact ⟨its, rv, p, Heap.lt_size e⟩
theorem Sc.inj {c : Sc} {xs ys : List V} (I : Inv X pins σ H s) (h : SqX X.K H c xs) (h' : SqX X.K H c ys) : xs = ys := by
  cases c with
  | l a => exact I.list_inj h h'
  | t a => exact I.tuple_inj h h'
end

/-! ### zip of two -/
def ItX2 (K : PySem.W.Frag) (c1 c2 : Sc) : It :=
  ⟨fun i H => ∃ (xs ys : List V) (x y : V), SqX K H c1 xs ∧ SqX K H c2 ys ∧ xs[i]? = some x ∧ ys[i]? = some y,
    fun i H v H' => ∃ T x y, v = .ref T ∧ H T = none ∧ H' = upd H T (.tup [x, y]) ∧ (∀ xs, SqX K H c1 xs → xs[i]? = some x) ∧ ∀ ys, SqX K H c2 ys → ys[i]? = some y,
    fun i H => ∃ xs ys : List V, SqX K H c1 xs ∧ SqX K H c2 ys ∧ i = min xs.length ys.length⟩
theorem sep2 {N a b : Nat} (ha : a < N) (hb : b < N) : ZipSep2 (N + 4) (N + 2) (N + 3) N (N + 1) [N, a] [N + 1, b] where
  TIz := fun z => by have : N + 2 = N + 4 := z; omega
  TOz := fun z => by have : N + 3 = N + 4 := z; omega
  TITO := fun z => by have : N + 2 = N + 3 := z; omega
  TIi1 := fun z => by have : N + 2 = N := z; omega
  mem1 := by simp
  zf1 := fun z => by
    have : N + 4 = N ∨ N + 4 = a := by simpa using z
    have h1 : (a : Nat) < N := ha
    omega
  Tf1 := fun z => by
    have : N + 3 = N ∨ N + 3 = a := by simpa using z
    have h1 : (a : Nat) < N := ha
    omega
  TIi2 := fun z => by have : N + 2 = N + 1 := z; omega
  mem2 := by simp
  zf2 := fun z => by
    have : N + 4 = N + 1 ∨ N + 4 = b := by simpa using z
    have h1 : (b : Nat) < N := hb
    omega
  Tf2 := fun z => by
    have : N + 3 = N + 1 ∨ N + 3 = b := by simpa using z
    have h1 : (b : Nat) < N := hb
    omega
  sep1_2 := fun z => by
    have : N = N + 1 ∨ N = b := by simpa using z
    have h1 : (b : Nat) < N := hb
    omega
  sep2_1 := fun z => by
    have : N + 1 = N ∨ N + 1 = a := by simpa using z
    have h1 : (a : Nat) < N := ha
    omega
def tn2 (N : Addr) (c1 c2 : Sc) : Nat → Heap → Prop := fun i h => IsZip h (N + 4) (N + 2) (N + 3) .none ∧ IsTupOf2 h (N + 2) (.ref N) (.ref (N + 1)) ∧ (∃ a1 a2, IsTupOf2 h (N + 3) a1 a2) ∧ IsIt h N c1 i ∧ IsIt h (N + 1) c2 i
theorem cells5 {N c : Addr} (h : c ∈ [N + 4, N + 2, N + 3, N, N + 1]) : c = N + 4 ∨ c = N + 2 ∨ c = N + 3 ∨ c = N ∨ c = N + 1 := by simpa using h
theorem turn2 {P : Program} {w : World} {K : PySem.W.Frag} {elts : List Expr} {kk : Nat} {tpos : Pos} {N : Addr} {c1 c2 : Sc} (h1 : c1.ad < N) (h2 : c2.ad < N) :
    Turn P w K (.Tuple elts kk tpos) (ItX2 K c1 c2) [N + 4, N + 2, N + 3, N, N + 1] (N + 4) (tn2 N c1 c2) where
  mem := by simp
  obj := fun i h st c hc => by
    obtain ⟨hz, hTI, ⟨x, y, hTO⟩, i1, i2⟩ := st
    rcases cells5 hc with q | q | q | q | q
    · rw [q]; exact ⟨_, hz, fun v q => nomatch q⟩
    · rw [q]; exact ⟨_, hTI, fun v q => nomatch q⟩
    · rw [q]; exact ⟨_, hTO, fun v q => nomatch q⟩
    · rw [q]; exact Sc.itOb i1
    · rw [q]; exact Sc.itOb i2
  keep := fun i h h' st k => by
    obtain ⟨hz, hTI, ⟨x, y, hTO⟩, i1, i2⟩ := st
    exact ⟨k _ (by simp) _ hz, k _ (by simp) _ hTI, ⟨x, y, k _ (by simp) _ hTO⟩, Sc.itAt i1 fun o q => k N (by simp) o q, Sc.itAt i2 fun o q => k (N + 1) (by simp) o q⟩
  item := by
    intro X hP hw hK hc i pins s σ H E I hf st hg
    subst hP hw hK
    obtain ⟨hz, hTI, hTO, i1, i2⟩ := st
    obtain ⟨xs, ys, x, y, hqx, hqy, hx, hy⟩ := hg
    obtain ⟨its, rv, p, _⟩ := Sc.seq I hqx
    obtain ⟨its2, rv2, p2, _⟩ := Sc.seq I hqy
    obtain ⟨u, hu, ru⟩ := rv.get hx
    obtain ⟨u2, hu2, ru2⟩ := rv2.get hy
    have hh : X.A.in1.handled = none := I.ok.hd hc
    have lt1 : i < its.toArray.size := by
      have := (List.getElem?_eq_some_iff.mp hu).1
      simpa using this
    have lt2 : i < its2.toArray.size := by
      have := (List.getElem?_eq_some_iff.mp hu2).1
      simpa using this
    have G := GoesN.zip2 (elts := elts) (x1 := kk) (pos := tpos) (sep2 h1 h2) (Sc.draws (prog := X.prog) (w := X.w) hh c1 N (Nat.ne_of_lt h1) its.toArray) (Sc.draws (prog := X.prog) (w := X.w) hh c2 (N + 1) (Nat.ne_of_lt (Nat.lt_succ_of_lt h2)) its2.toArray)
    refine thn (G.goes i s _ E (by omega) ⟨hz, hTI, hTO, ⟨i1, p⟩, ⟨i2, p2⟩⟩ fun v h' tk hY st' hk htk => ?_) fun r s1 q => q
    obtain ⟨T, z1, z2, rfl, hT, e1, e2, tT⟩ := hY
    obtain ⟨hz', hTI', hTO', ⟨i1', _⟩, ⟨i2', _⟩⟩ := st'
    have e1' : u = z1 := Option.some.inj (hu.symm.trans (by simpa using e1))
    have e2' : u2 = z2 := Option.some.inj (hu2.symm.trans (by simpa using e2))
    subst e1' e2'
    have new : ObjOk X.prog X.w (upd H T (.tup [x, y])) h' T (.tup [x, y]) := ⟨by show 2 ≤ sizeLine; decide, [u, u2], .cons ru (.cons ru2 .nil), tT⟩
    refine ⟨.ref T, _, I.turnedNew (t' := tk) (ch := [N + 4, N + 2, N + 3, N, N + 1]) (fun c o hb q => hk c o (fun z => hb ?_) q) hf hT new, rfl, ⟨T, x, y, rfl, I.hok.fresh hT, rfl, fun l hl => by rw [Sc.inj I hl hqx]; exact hx, fun l hl => by rw [Sc.inj I hl hqy]; exact hy⟩, ⟨hz', hTI', hTO', i1', i2'⟩, fun c hcm => ?_⟩
    · have : c = N + 4 ∨ c = N + 3 ∨ c = N ∨ c = N + 1 := by simpa using z
      rcases this with q | q | q | q <;> simp [q]
    · have hlt : c < s.heap.objs.size := by
        rcases cells5 hcm with q | q | q | q | q
        · rw [q]; exact Heap.lt_size hz
        · rw [q]; exact Heap.lt_size hTI
        · rw [q]; obtain ⟨_, _, e⟩ := hTO; exact Heap.lt_size e
        · rw [q]; obtain ⟨_, e, _⟩ := Sc.itOb i1; exact Heap.lt_size e
        · rw [q]; obtain ⟨_, e, _⟩ := Sc.itOb i2; exact Heap.lt_size e
      rw [upd_ne (Nat.ne_of_lt (Nat.lt_of_lt_of_le hlt hT))]
      exact (hf c hcm).1
  done := by
    intro X hP hw hK hc i pins s σ H E I hf st hg
    subst hP hw hK
    obtain ⟨hz, hTI, hTO, i1, i2⟩ := st
    obtain ⟨xs, ys, hqx, hqy, hend⟩ := hg
    obtain ⟨its, rv, p, _⟩ := Sc.seq I hqx
    obtain ⟨its2, rv2, p2, _⟩ := Sc.seq I hqy
    have hh : X.A.in1.handled = none := I.ok.hd hc
    have G := GoesN.zip2 (elts := elts) (x1 := kk) (pos := tpos) (sep2 h1 h2) (Sc.draws (prog := X.prog) (w := X.w) hh c1 N (Nat.ne_of_lt h1) its.toArray) (Sc.draws (prog := X.prog) (w := X.w) hh c2 (N + 1) (Nat.ne_of_lt (Nat.lt_succ_of_lt h2)) its2.toArray)
    have hn : min its.toArray.size its2.toArray.size = i := by
      rw [List.size_toArray, List.size_toArray, ← rv.length, ← rv2.length]
      exact hend.symm
    refine G.stops s (fun s1 => Inv X pins σ H s1) E (by rw [hn]; exact ⟨hz, hTI, hTO, ⟨i1, p⟩, ⟨i2, p2⟩⟩) fun h' tk hk htk => ?_
    exact I.turnedL (t' := tk) (ch := [N + 4, N + 2, N + 3, N, N + 1]) (fun c o hb q => hk c o (fun z => hb (by
      have : c = N + 4 ∨ c = N + 3 ∨ c = N ∨ c = N + 1 := by simpa using z
      rcases this with q | q | q | q <;> simp [q])) q) hf
  self := fun A i s Q E st h => wpAny_pyIter_zip st.1 h
def iZip2 (K : PySem.W.Frag) (ta : TA) : TI := fun σ H R => ta σ H fun vs H1 => ∃ (c1 c2 : Sc) (xs ys : List V), vs = [.ref c1.ad, .ref c2.ad] ∧ SqX K H1 c1 xs ∧ SqX K H1 c2 ys ∧ R (ItX2 K c1 c2) H1
theorem pi_zip2 {X : Cx} {e e2 : Expr} {ta : TA} {p pos tpos : Pos} {elts : List Expr} {kk : Nat} (hg : Gl X "zip") (hm : X.mg "zip" = none) (ha : PA X [e, e2] ta)
    (hs : starEach [e, e2] X.env = (false, eval e X.env) :: starEach [e2] X.env := by rfl) (hpl : (backTo pos (starEach [e2] X.env)).any (·.1) = false := by rfl) :
    PI X (.Tuple elts kk tpos) (.Call (.Name "zip" p) [e, e2] [] pos) (iZip2 X.K ta) := by
  refine ⟨fun pins s σ H R I h => ?_⟩
  refine Call_ (ld_blt I hg hm PyProof.Rows.boot_zip (PyProof.Rows.callWith_type1 (thn (ha.run pos pins s σ H _ I h) fun us s1 ⟨vs, H1, I1, r1, q1⟩ => ?_) hs hpl))
  obtain ⟨c1, c2, xs, ys, ex, hqx, hqy, q⟩ := q1
  subst ex
  cases r1 with
  | cons r rr =>
    cases rr with
    | cons r' rr =>
      cases rr
      cases r
      cases r'
      obtain ⟨its, rv, p1, l1⟩ := Sc.seq I1 hqx
      obtain ⟨its2, rv2, p2, l2⟩ := Sc.seq I1 hqy
      refine zip_begins2 (c1.begins its.toArray) (c2.begins its2.toArray) p1 p2 fun h' hz hTI hTO g1 g2 hsz hk => wpAny_pyIter_zip hz ?_
      have I2 : Inv X pins σ H1 { s1 with heap := h' } := I1.kept (t' := s1.toks) hk
      refine ⟨s1.heap.objs.size + 4, [s1.heap.objs.size + 4, s1.heap.objs.size + 2, s1.heap.objs.size + 3, s1.heap.objs.size, s1.heap.objs.size + 1], _, _, H1, rfl, I2, turn2 l1 l2, ⟨hz, hTI, ⟨_, _, hTO⟩, Sc.it0 g1, Sc.it0 g2⟩, fun c hcm => ?_, q⟩
      have hle : s1.heap.objs.size ≤ c := by
        rcases cells5 hcm with z | z | z | z | z
        · rw [z]; exact Nat.le_add_right _ _
        · rw [z]; exact Nat.le_add_right _ _
        · rw [z]; exact Nat.le_add_right _ _
        · rw [z]; exact Nat.le_refl _
        · rw [z]; exact Nat.le_add_right _ _
      exact I1.fpOk hle (I1.hok.fresh hle)

/-! ### zip of three -/
def ItX3 (K : PySem.W.Frag) (c1 c2 c3 : Sc) : It :=
  ⟨fun i H => ∃ (xs ys zs : List V) (x y z : V), SqX K H c1 xs ∧ SqX K H c2 ys ∧ SqX K H c3 zs ∧ xs[i]? = some x ∧ ys[i]? = some y ∧ zs[i]? = some z,
    fun i H v H' => ∃ T x y z, v = .ref T ∧ H T = none ∧ H' = upd H T (.tup [x, y, z]) ∧ (∀ xs, SqX K H c1 xs → xs[i]? = some x) ∧ (∀ ys, SqX K H c2 ys → ys[i]? = some y) ∧ ∀ zs, SqX K H c3 zs → zs[i]? = some z,
    fun i H => ∃ xs ys zs : List V, SqX K H c1 xs ∧ SqX K H c2 ys ∧ SqX K H c3 zs ∧ i = min (min xs.length ys.length) zs.length⟩
theorem sep3 {N a b d : Nat} (ha : a < N) (hb : b < N) (hd : d < N) : ZipSep3 (N + 5) (N + 3) (N + 4) N (N + 1) (N + 2) [N, a] [N + 1, b] [N + 2, d] := by
  have h1 : (a : Nat) < N := ha
  have h2 : (b : Nat) < N := hb
  have h3 : (d : Nat) < N := hd
  have ne : ∀ {x y : Nat}, x ≠ y → (show Addr from x) ≠ y := fun h => h
  constructor
  case mem1 => simp
  case mem2 => simp
  case mem3 => simp
  case TIz => exact fun z => by have : N + 3 = N + 5 := z; omega
  case TOz => exact fun z => by have : N + 4 = N + 5 := z; omega
  case TITO => exact fun z => by have : N + 3 = N + 4 := z; omega
  case TIi1 => exact fun z => by have : N + 3 = N := z; omega
  case TIi2 => exact fun z => by have : N + 3 = N + 1 := z; omega
  case TIi3 => exact fun z => by have : N + 3 = N + 2 := z; omega
  case zf1 => exact fun z => by have : N + 5 = N ∨ N + 5 = a := by simpa using z
                                omega
  case Tf1 => exact fun z => by have : N + 4 = N ∨ N + 4 = a := by simpa using z
                                omega
  case zf2 => exact fun z => by have : N + 5 = N + 1 ∨ N + 5 = b := by simpa using z
                                omega
  case Tf2 => exact fun z => by have : N + 4 = N + 1 ∨ N + 4 = b := by simpa using z
                                omega
  case zf3 => exact fun z => by have : N + 5 = N + 2 ∨ N + 5 = d := by simpa using z
                                omega
  case Tf3 => exact fun z => by have : N + 4 = N + 2 ∨ N + 4 = d := by simpa using z
                                omega
  case sep1_2 => exact fun z => by have : N = N + 1 ∨ N = b := by simpa using z
                                   omega
  case sep1_3 => exact fun z => by have : N = N + 2 ∨ N = d := by simpa using z
                                   omega
  case sep2_1 => exact fun z => by have : N + 1 = N ∨ N + 1 = a := by simpa using z
                                   omega
  case sep2_3 => exact fun z => by have : N + 1 = N + 2 ∨ N + 1 = d := by simpa using z
                                   omega
  case sep3_1 => exact fun z => by have : N + 2 = N ∨ N + 2 = a := by simpa using z
                                   omega
  case sep3_2 => exact fun z => by have : N + 2 = N + 1 ∨ N + 2 = b := by simpa using z
                                   omega
def tn3 (N : Addr) (c1 c2 c3 : Sc) : Nat → Heap → Prop := fun i h => IsZip h (N + 5) (N + 3) (N + 4) .none ∧ IsTupOf3 h (N + 3) (.ref N) (.ref (N + 1)) (.ref (N + 2)) ∧ (∃ a1 a2 a3, IsTupOf3 h (N + 4) a1 a2 a3) ∧ IsIt h N c1 i ∧ IsIt h (N + 1) c2 i ∧ IsIt h (N + 2) c3 i
theorem cells6 {N c : Addr} (h : c ∈ [N + 5, N + 3, N + 4, N, N + 1, N + 2]) : c = N + 5 ∨ c = N + 3 ∨ c = N + 4 ∨ c = N ∨ c = N + 1 ∨ c = N + 2 := by simpa using h
theorem turn3 {P : Program} {w : World} {K : PySem.W.Frag} {elts : List Expr} {kk : Nat} {tpos : Pos} {N : Addr} {c1 c2 c3 : Sc} (h1 : c1.ad < N) (h2 : c2.ad < N) (h3 : c3.ad < N) :
    Turn P w K (.Tuple elts kk tpos) (ItX3 K c1 c2 c3) [N + 5, N + 3, N + 4, N, N + 1, N + 2] (N + 5) (tn3 N c1 c2 c3) where
  mem := by simp
  obj := fun i h st c hc => by
    obtain ⟨hz, hTI, ⟨x, y, y3, hTO⟩, i1, i2, i3⟩ := st
    rcases cells6 hc with q | q | q | q | q | q
    · rw [q]; exact ⟨_, hz, fun v q => nomatch q⟩
    · rw [q]; exact ⟨_, hTI, fun v q => nomatch q⟩
    · rw [q]; exact ⟨_, hTO, fun v q => nomatch q⟩
    · rw [q]; exact Sc.itOb i1
    · rw [q]; exact Sc.itOb i2
    · rw [q]; exact Sc.itOb i3
  keep := fun i h h' st k => by
    obtain ⟨hz, hTI, ⟨x, y, y3, hTO⟩, i1, i2, i3⟩ := st
    exact ⟨k _ (by simp) _ hz, k _ (by simp) _ hTI, ⟨x, y, y3, k _ (by simp) _ hTO⟩, Sc.itAt i1 fun o q => k N (by simp) o q, Sc.itAt i2 fun o q => k (N + 1) (by simp) o q, Sc.itAt i3 fun o q => k (N + 2) (by simp) o q⟩
  item := by
    intro X hP hw hK hc i pins s σ H E I hf st hg
    subst hP hw hK
    obtain ⟨hz, hTI, hTO, i1, i2, i3⟩ := st
    obtain ⟨xs, ys, zs, x, y, z, hqx, hqy, hqz, hx, hy, hzz⟩ := hg
    obtain ⟨its, rv, p, _⟩ := Sc.seq I hqx
    obtain ⟨its2, rv2, p2, _⟩ := Sc.seq I hqy
    obtain ⟨its3, rv3, p3, _⟩ := Sc.seq I hqz
    obtain ⟨u, hu, ru⟩ := rv.get hx
    obtain ⟨u2, hu2, ru2⟩ := rv2.get hy
    obtain ⟨u3, hu3, ru3⟩ := rv3.get hzz
    have hh : X.A.in1.handled = none := I.ok.hd hc
    have lt1 : i < its.toArray.size := by
      have := (List.getElem?_eq_some_iff.mp hu).1
      simpa using this
    have lt2 : i < its2.toArray.size := by
      have := (List.getElem?_eq_some_iff.mp hu2).1
      simpa using this
    have lt3 : i < its3.toArray.size := by
      have := (List.getElem?_eq_some_iff.mp hu3).1
      simpa using this
    have G := GoesN.zip3 (elts := elts) (x1 := kk) (pos := tpos) (sep3 h1 h2 h3) (Sc.draws (prog := X.prog) (w := X.w) hh c1 N (Nat.ne_of_lt h1) its.toArray) (Sc.draws (prog := X.prog) (w := X.w) hh c2 (N + 1) (Nat.ne_of_lt (Nat.lt_succ_of_lt h2)) its2.toArray) (Sc.draws (prog := X.prog) (w := X.w) hh c3 (N + 2) (Nat.ne_of_lt (Nat.lt_succ_of_lt (Nat.lt_succ_of_lt h3))) its3.toArray)
    refine thn (G.goes i s _ E (by omega) ⟨hz, hTI, hTO, ⟨i1, p⟩, ⟨i2, p2⟩, ⟨i3, p3⟩⟩ fun v h' tk hY st' hk htk => ?_) fun r s1 q => q
    obtain ⟨T, z1, z2, z3, rfl, hT, e1, e2, e3, tT⟩ := hY
    obtain ⟨hz', hTI', hTO', ⟨i1', _⟩, ⟨i2', _⟩, ⟨i3', _⟩⟩ := st'
    have e1' : u = z1 := Option.some.inj (hu.symm.trans (by simpa using e1))
    have e2' : u2 = z2 := Option.some.inj (hu2.symm.trans (by simpa using e2))
    have e3' : u3 = z3 := Option.some.inj (hu3.symm.trans (by simpa using e3))
    subst e1' e2' e3'
    have new : ObjOk X.prog X.w (upd H T (.tup [x, y, z])) h' T (.tup [x, y, z]) := ⟨by show 3 ≤ sizeLine; decide, [u, u2, u3], .cons ru (.cons ru2 (.cons ru3 .nil)), tT⟩
    refine ⟨.ref T, _, I.turnedNew (t' := tk) (ch := [N + 5, N + 3, N + 4, N, N + 1, N + 2]) (fun c o hb q => hk c o (fun z => hb ?_) q) hf hT new, rfl, ⟨T, x, y, z, rfl, I.hok.fresh hT, rfl, fun l hl => by rw [Sc.inj I hl hqx]; exact hx, fun l hl => by rw [Sc.inj I hl hqy]; exact hy, fun l hl => by rw [Sc.inj I hl hqz]; exact hzz⟩, ⟨hz', hTI', hTO', i1', i2', i3'⟩, fun c hcm => ?_⟩
    · have : c = N + 5 ∨ c = N + 4 ∨ c = N ∨ c = N + 1 ∨ c = N + 2 := by simpa using z
      rcases this with q | q | q | q | q <;> simp [q]
    · have hlt : c < s.heap.objs.size := by
        rcases cells6 hcm with q | q | q | q | q | q
        · rw [q]; exact Heap.lt_size hz
        · rw [q]; exact Heap.lt_size hTI
        · rw [q]; obtain ⟨_, _, _, e⟩ := hTO; exact Heap.lt_size e
        · rw [q]; obtain ⟨_, e, _⟩ := Sc.itOb i1; exact Heap.lt_size e
        · rw [q]; obtain ⟨_, e, _⟩ := Sc.itOb i2; exact Heap.lt_size e
        · rw [q]; obtain ⟨_, e, _⟩ := Sc.itOb i3; exact Heap.lt_size e
      rw [upd_ne (Nat.ne_of_lt (Nat.lt_of_lt_of_le hlt hT))]
      exact (hf c hcm).1
  done := by
    intro X hP hw hK hc i pins s σ H E I hf st hg
    subst hP hw hK
    obtain ⟨hz, hTI, hTO, i1, i2, i3⟩ := st
    obtain ⟨xs, ys, zs, hqx, hqy, hqz, hend⟩ := hg
    obtain ⟨its, rv, p, _⟩ := Sc.seq I hqx
    obtain ⟨its2, rv2, p2, _⟩ := Sc.seq I hqy
    obtain ⟨its3, rv3, p3, _⟩ := Sc.seq I hqz
    have hh : X.A.in1.handled = none := I.ok.hd hc
    have G := GoesN.zip3 (elts := elts) (x1 := kk) (pos := tpos) (sep3 h1 h2 h3) (Sc.draws (prog := X.prog) (w := X.w) hh c1 N (Nat.ne_of_lt h1) its.toArray) (Sc.draws (prog := X.prog) (w := X.w) hh c2 (N + 1) (Nat.ne_of_lt (Nat.lt_succ_of_lt h2)) its2.toArray) (Sc.draws (prog := X.prog) (w := X.w) hh c3 (N + 2) (Nat.ne_of_lt (Nat.lt_succ_of_lt (Nat.lt_succ_of_lt h3))) its3.toArray)
    have hn : min (min its.toArray.size its2.toArray.size) its3.toArray.size = i := by
      rw [List.size_toArray, List.size_toArray, List.size_toArray, ← rv.length, ← rv2.length, ← rv3.length]
      exact hend.symm
    refine G.stops s (fun s1 => Inv X pins σ H s1) E (by rw [hn]; exact ⟨hz, hTI, hTO, ⟨i1, p⟩, ⟨i2, p2⟩, ⟨i3, p3⟩⟩) fun h' tk hk htk => ?_
    exact I.turnedL (t' := tk) (ch := [N + 5, N + 3, N + 4, N, N + 1, N + 2]) (fun c o hb q => hk c o (fun z => hb (by
      have : c = N + 5 ∨ c = N + 4 ∨ c = N ∨ c = N + 1 ∨ c = N + 2 := by simpa using z
      rcases this with q | q | q | q | q <;> simp [q])) q) hf
  self := fun A i s Q E st h => wpAny_pyIter_zip st.1 h
def iZip3 (K : PySem.W.Frag) (ta : TA) : TI := fun σ H R => ta σ H fun vs H1 => ∃ (c1 c2 c3 : Sc) (xs ys zs : List V), vs = [.ref c1.ad, .ref c2.ad, .ref c3.ad] ∧ SqX K H1 c1 xs ∧ SqX K H1 c2 ys ∧ SqX K H1 c3 zs ∧ R (ItX3 K c1 c2 c3) H1
theorem pi_zip3 {X : Cx} {e e2 e3 : Expr} {ta : TA} {p pos tpos : Pos} {elts : List Expr} {kk : Nat} (hg : Gl X "zip") (hm : X.mg "zip" = none) (ha : PA X [e, e2, e3] ta)
    (hs : starEach [e, e2, e3] X.env = (false, eval e X.env) :: starEach [e2, e3] X.env := by rfl) (hpl : (backTo pos (starEach [e2, e3] X.env)).any (·.1) = false := by rfl) :
    PI X (.Tuple elts kk tpos) (.Call (.Name "zip" p) [e, e2, e3] [] pos) (iZip3 X.K ta) := by
  refine ⟨fun pins s σ H R I h => ?_⟩
  refine Call_ (ld_blt I hg hm PyProof.Rows.boot_zip (PyProof.Rows.callWith_type1 (thn (ha.run pos pins s σ H _ I h) fun us s1 ⟨vs, H1, I1, r1, q1⟩ => ?_) hs hpl))
  obtain ⟨c1, c2, c3, xs, ys, zs, ex, hqx, hqy, hqz, q⟩ := q1
  subst ex
  cases r1 with
  | cons r rr =>
    cases rr with
    | cons r' rr =>
      cases rr with
      | cons r'' rr =>
        cases rr
        cases r
        cases r'
        cases r''
        obtain ⟨its, rv, p1, l1⟩ := Sc.seq I1 hqx
        obtain ⟨its2, rv2, p2, l2⟩ := Sc.seq I1 hqy
        obtain ⟨its3, rv3, p3, l3⟩ := Sc.seq I1 hqz
        refine zip_begins3 (c1.begins its.toArray) (c2.begins its2.toArray) (c3.begins its3.toArray) p1 p2 p3 fun h' hz hTI hTO g1 g2 g3 hsz hk => wpAny_pyIter_zip hz ?_
        have I2 : Inv X pins σ H1 { s1 with heap := h' } := I1.kept (t' := s1.toks) hk
        refine ⟨s1.heap.objs.size + 5, [s1.heap.objs.size + 5, s1.heap.objs.size + 3, s1.heap.objs.size + 4, s1.heap.objs.size, s1.heap.objs.size + 1, s1.heap.objs.size + 2], _, _, H1, rfl, I2, turn3 l1 l2 l3, ⟨hz, hTI, ⟨_, _, _, hTO⟩, Sc.it0 g1, Sc.it0 g2, Sc.it0 g3⟩, fun c hcm => ?_, q⟩
        have hle : s1.heap.objs.size ≤ c := by
          rcases cells6 hcm with z | z | z | z | z | z
          · rw [z]; exact Nat.le_add_right _ _
          · rw [z]; exact Nat.le_add_right _ _
          · rw [z]; exact Nat.le_add_right _ _
          · rw [z]; exact Nat.le_refl _
          · rw [z]; exact Nat.le_add_right _ _
          · rw [z]; exact Nat.le_add_right _ _
        exact I1.fpOk hle (I1.hok.fresh hle)
end Cf

/-! Cf6: enumerate of a tuple; a star among a target's names; sum(xs, start=c); xs[a:b:c]; xs[i] += e. -/
namespace Cf
open PySem PySem.Spec PyProof.Rows L2

/-! ### enumerate -/
theorem meets_enum1 {v : Value} {o : Obj} {H : Heap → Prop} (B : Begins v o H) :
    Meets (Builtin.«enumerate.__new__» ⟨[.type "enumerate", v], []⟩) (fun _ R s => H s.heap ∧
      R (.ok (.ret (.ref (s.heap.push o).objs.size))) { s with heap := (s.heap.push o).push { cls := .type "enumerate", data := .fields #[.none, .bool false, .ref s.heap.objs.size, rawInt 0, .none, .none] } }) :=
  .of_wp fun prog w A R s h => by
    obtain ⟨hp, g, d, tk, os⟩ := s; obtain ⟨h1, h⟩ := h
    have hsub := sub_enumerate
    have q1 : ∀ {A' : Around} {E : Value → Shared → Prop} {Q : Value → Shared → Prop}, Q (.ref hp.objs.size) ⟨hp.push o, g, d, tk, os⟩ → wpAny (model prog w) A' (pyIter v) Q E ⟨hp, g, d, tk, os⟩ :=
      fun q => B.iter prog w _ _ ⟨hp, g, d, tk, os⟩ _ h1 q
    wp_walk using q1
    refine wpAny_stack_any fun st => wpAny_pure ?_
    split
    · rename_i c _ _ _ _ _
      cases (c == Value.type "enumerate")
      · wp_walk using q1
        exact ⟨_, rfl, h⟩
      · wp_walk using q1
        exact ⟨_, rfl, h⟩
    · wp_walk using q1
      exact ⟨_, rfl, h⟩
theorem enum_begins1 {prog : Program} {w : World} {A : Around} {E : Value → Shared → Prop} {s : Shared} {v : Value} {o : Obj} {H : Heap → Prop} {Q : Value → Shared → Prop} (B : Begins v o H) (h1 : H s.heap)
    (h : ∀ h', IsEnum h' (s.heap.objs.size + 1) s.heap.objs.size 0 .none → h'.get? s.heap.objs.size = some o → h'.objs.size = s.heap.objs.size + 2 →
      (∀ b o, s.heap.get? b = some o → h'.get? b = some o) → Q (.ref (s.heap.objs.size + 1)) { s with heap := h' }) :
    wpAny (model prog w) A (call (.type "enumerate") [v]) Q E s := by
  refine callType_new F.called_enumerate (by decide) (F.typeCall_enumerate_1 _) (F.newCall_enumerate_1 _) (fun obj => F.args_object_init_2 obj _) F.entry_enumerate_new
    (meets_enum1 B) ⟨h1, ?_⟩
  have hz : (s.heap.push o).objs.size = s.heap.objs.size + 1 := Heap.size_push ..
  show _ ∧ _
  rw [hz]
  have he : IsEnum ((s.heap.push o).push { cls := .type "enumerate", data := .fields #[.none, .bool false, .ref s.heap.objs.size, rawInt 0, .none, .none] }) (s.heap.objs.size + 1) s.heap.objs.size 0 .none := by
    have := Heap.get?_push_size (s.heap.push o) (o := { cls := .type "enumerate", data := .fields #[.none, .bool false, .ref s.heap.objs.size, rawInt 0, .none, .none] }) rfl
    rw [hz] at this; exact this
  refine ⟨⟨_, he, rfl⟩, h _ he (Heap.get?_push_of_some _ (Heap.get?_push_size _ B.free)) (by rw [Heap.size_push, hz]) fun b o x => Heap.get?_push_of_some _ (Heap.get?_push_of_some _ x)⟩

theorem notMem2 {N a : Nat} (h : a < N) : ¬ (N + 1) ∈ [N, a] := fun z => by
  have : N + 1 = N ∨ N + 1 = a := by simpa using z
  omega
def ItXe (K : PySem.W.Frag) (c : Sc) : It :=
  ⟨fun i H => ∃ (xs : List V) (x : V), SqX K H c xs ∧ xs[i]? = some x,
    fun i H v H' => ∃ T x, v = .ref T ∧ H T = none ∧ H' = upd H T (.tup [.int (i : Int), x]) ∧ ∀ xs, SqX K H c xs → xs[i]? = some x,
    fun i H => ∃ xs : List V, SqX K H c xs ∧ i = xs.length⟩
def tnE (N : Addr) (c : Sc) : Nat → Heap → Prop := fun i h => (∃ old, IsEnum h (N + 1) N (0 + (i : Int)) old) ∧ IsIt h N c i
theorem cells2 {N c : Addr} (h : c ∈ [N + 1, N]) : c = N + 1 ∨ c = N := by simpa using h
theorem turnE {P : Program} {w : World} {K : PySem.W.Frag} {elts : List Expr} {kk : Nat} {tpos : Pos} {N : Nat} {c : Sc} (h1 : c.ad < (N : Nat)) :
    Turn P w K (.Tuple elts kk tpos) (ItXe K c) [N + 1, N] (N + 1) (tnE N c) where
  mem := by simp
  obj := fun i h st b hb => by
    obtain ⟨⟨old, hz⟩, i1⟩ := st
    rcases cells2 hb with q | q
    · rw [q]; exact ⟨_, hz, fun v q => nomatch q⟩
    · rw [q]; exact Sc.itOb i1
  keep := fun i h h' st k => by
    obtain ⟨⟨old, hz⟩, i1⟩ := st
    exact ⟨⟨old, k _ (by simp) _ hz⟩, Sc.itAt i1 fun o q => k N (by simp) o q⟩
  item := by
    intro X hP hw hK hc i pins s σ H E I hf st hg
    subst hP hw hK
    obtain ⟨hz, i1⟩ := st
    obtain ⟨xs, x, hqx, hx⟩ := hg
    obtain ⟨its, rv, p, _⟩ := Sc.seq I hqx
    obtain ⟨u, hu, ru⟩ := rv.get hx
    have hh : X.A.in1.handled = none := I.ok.hd hc
    have lt1 : i < its.toArray.size := by
      have := (List.getElem?_eq_some_iff.mp hu).1
      simpa using this
    have G := GoesN.enumFrom (elts := elts) (x1 := kk) (pos := tpos) 0 (Sc.draws (prog := X.prog) (w := X.w) hh c N (Nat.ne_of_lt h1) its.toArray) (N + 1) (fun z => by
      have : N + 1 = N := z
      omega) (notMem2 h1) (by simp)
    refine thn (G.goes i s _ E lt1 ⟨hz, i1, p⟩ fun v h' tk hY st' hk htk => ?_) fun r s1 q => q
    obtain ⟨T, t, z1, rfl, hT, e1, tT⟩ := hY
    obtain ⟨hz', i1', _⟩ := st'
    have e1' : u = z1 := Option.some.inj (hu.symm.trans (by simpa using e1))
    subst e1'
    have new : ObjOk X.prog X.w (upd H T (.tup [.int (i : Int), x])) h' T (.tup [.int (i : Int), x]) := ⟨by show 2 ≤ sizeLine; decide, [_, u], .cons ⟨t, by rw [Int.zero_add]⟩ (.cons ru .nil), tT⟩
    refine ⟨.ref T, _, I.turnedNew (t' := tk) (ch := [N + 1, N]) (fun c o hb q => hk c o hb q) hf hT new, rfl, ⟨T, x, rfl, I.hok.fresh hT, rfl, fun l hl => by rw [Sc.inj I hl hqx]; exact hx⟩, ⟨hz', i1'⟩, fun c hcm => ?_⟩
    have hlt : c < s.heap.objs.size := by
      rcases cells2 hcm with q | q
      · rw [q]; obtain ⟨_, e⟩ := hz; exact Heap.lt_size e
      · rw [q]; obtain ⟨_, e, _⟩ := Sc.itOb i1; exact Heap.lt_size e
    rw [upd_ne (Nat.ne_of_lt (Nat.lt_of_lt_of_le hlt hT))]
    exact (hf c hcm).1
  done := by
    intro X hP hw hK hc i pins s σ H E I hf st hg
    subst hP hw hK
    obtain ⟨hz, i1⟩ := st
    obtain ⟨xs, hqx, hend⟩ := hg
    obtain ⟨its, rv, p, _⟩ := Sc.seq I hqx
    have hh : X.A.in1.handled = none := I.ok.hd hc
    have G := GoesN.enumFrom (elts := elts) (x1 := kk) (pos := tpos) 0 (Sc.draws (prog := X.prog) (w := X.w) hh c N (Nat.ne_of_lt h1) its.toArray) (N + 1) (fun z => by
      have : N + 1 = N := z
      omega) (notMem2 h1) (by simp)
    have hn : its.toArray.size = i := by
      rw [List.size_toArray, ← rv.length]
      exact hend.symm
    refine G.stops s (fun s1 => Inv X pins σ H s1) E (by rw [hn]; exact ⟨hz, i1, p⟩) fun h' tk hk htk => ?_
    exact I.turnedL (t' := tk) (ch := [N + 1, N]) (fun c o hb q => hk c o hb q) hf
  self := fun A i s Q E st h => by
    obtain ⟨⟨old, hz⟩, _⟩ := st
    exact wpAny_pyIter_enum hz h
def iEnumX (K : PySem.W.Frag) (ta : TA) : TI := fun σ H R => ta σ H fun vs H1 => ∃ (c : Sc) (xs : List V), vs = [.ref c.ad] ∧ SqX K H1 c xs ∧ R (ItXe K c) H1
theorem pi_enumX {X : Cx} {e : Expr} {ta : TA} {p pos tpos : Pos} {elts : List Expr} {kk : Nat} (hg : Gl X "enumerate") (hm : X.mg "enumerate" = none) (ha : PA X [e] ta)
    (hs : starEach [e] X.env = [(false, eval e X.env)] := by rfl) :
    PI X (.Tuple elts kk tpos) (.Call (.Name "enumerate" p) [e] [] pos) (iEnumX X.K ta) := by
  refine ⟨fun pins s σ H R I h => ?_⟩
  refine Call_ (ld_blt I hg hm boot_enumerate (PyProof.Rows.callWith_type1 (thn (ha.run pos pins s σ H _ I h) fun us s1 ⟨vs, H1, I1, r1, q1⟩ => ?_) hs rfl))
  obtain ⟨c, xs, ex, hq, q⟩ := q1
  subst ex
  cases r1 with
  | cons r rr =>
    cases rr
    cases r
    obtain ⟨its, rv, p1, l1⟩ := Sc.seq I1 hq
    refine enum_begins1 (c.begins its.toArray) p1 fun h' he g1 hsz hk => wpAny_pyIter_enum he ?_
    have I2 : Inv X pins σ H1 { s1 with heap := h' } := I1.kept (t' := s1.toks) hk
    refine ⟨s1.heap.objs.size + 1, [s1.heap.objs.size + 1, s1.heap.objs.size], _, _, H1, rfl, I2, turnE l1, ⟨⟨.none, he⟩, Sc.it0 g1⟩, fun b hb => ?_, q⟩
    have hle : s1.heap.objs.size ≤ b := by
      rcases cells2 hb with z | z
      · rw [z]; exact Nat.le_add_right _ _
      · rw [z]; exact Nat.le_refl _
    exact I1.fpOk hle (I1.hok.fresh hle)

/-! ### a, b, *rest = xs -/
section
variable {prog : Program} {w : World} {A : Around} {E : Value → Shared → Prop} {s : Shared}
/-- a list or a tuple unpacked, the last name a star: what stands behind the first i becomes a new list -/
theorem unpack_star {c : Sc} {us : Array Value} {i : Nat} {Q : List Value → Shared → Prop} (hh : A.handled = none) (hl : IsS s.heap c us) (hi : i ≤ us.size) (hz : us.size ≤ sizeLine)
    (hQ : ∀ (h' : Heap) (tk : Nat), (∀ b o, s.heap.get? b = some o → h'.get? b = some o) → Q (us.toList.take i ++ [.ref h'.objs.size]) { s with heap := h'.push { cls := .type "list", data := .seq (us.toList.drop i).toArray }, toks := tk }) :
    wpAny (model prog w) A (unpackItems (.ref c.ad) (i + 1) (some i)) Q E s := by
  have hle : c.ad < s.heap.objs.size := by
    cases c with
    | l a => obtain ⟨o, ho, _⟩ := hl; exact Heap.lt_size ho
    | t a => obtain ⟨o, ho, _⟩ := hl; exact Heap.lt_size ho
  have hne : c.ad ≠ s.heap.objs.size := Nat.ne_of_lt hle
  have hfl : ¬ ((us.toList.take i).length < i) := by
    rw [List.length_take, Array.length_toList]
    omega
  have last : ∀ (h₁ : Heap) (tk : Nat), (∀ b o, s.heap.get? b = some o → h₁.get? b = some o) →
      wpAny (model prog w) A (do
        let after := i + 1 - 1 - i
        if (us.toList.drop i).length < after then
          rule "unpack.star.too-few"
          raiseError "ValueError" s!"not enough values to unpack (expected at least {i + 1 - 1}, got {i + (us.toList.drop i).length})"
        let mid := (us.toList.drop i).length - after
        return (us.toList.take i) ++ [← newList ((us.toList.drop i).take mid)] ++ (us.toList.drop i).drop mid) Q E { s with heap := h₁, toks := tk } := by
    intro g1 tk he
    have e0 : i + 1 - 1 - i = 0 := by omega
    dsimp only
    rw [e0, if_neg (Nat.not_lt_zero _), Nat.sub_zero, List.take_length, List.drop_length]
    refine wpAny_bind (wpAny_newObj_type (wpAny_pure ?_) ?_)
    · rw [List.append_nil]
      exact hQ g1 tk he
    · show (us.toList.drop i).toArray.size ≤ sizeLine
      rw [List.size_toArray, List.length_drop, Array.length_toList]
      omega
  cases c with
  | l a =>
    have hl' : s.heap.IsList a us := hl
    have hne' : a ≠ s.heap.objs.size := hne
    unfold unpackItems
    refine wpAny_bind ?_
    unfold notIterableAtAll
    refine wpAny_bind (wpAny_specialOf hl'.typeIs slot_list_iter.lookup ?_)
    refine wpAny_pure ?_
    simp only [Bool.false_eq_true, if_false]
    refine wpAny_bind (wpAny_holding (wpAny_pyIter_list hl' ?_))
    refine wpAny_bind (wpAny_holding (PySem.W.kun_draw hne' i 0 _ _ ⟨_, Heap.get?_push_size _ rfl, rfl, rfl⟩ (hl'.push _) (by omega) fun g1 it1 sb1 => ?_))
    have hl1 : g1.IsList a us := (hl'.push _).extBut sb1.extBut hne'
    rw [Nat.zero_add] at it1
    obtain ⟨oi, hoi, _⟩ := id it1
    obtain ⟨ol, hol, _⟩ := id hl1
    rw [List.drop_zero, if_neg hfl]
    refine wpAny_bind (wpAny_holding (PySem.W.kun_collect (s := { s with heap := g1 }) (T := "list_iterator") (.inr (.inr (.inl rfl))) (Walks.list (A := A.in1) hh s.heap.objs.size a hne' us) (fun j u st => st.1.typeIs) (k := i) hi ⟨it1, hl1⟩ (Heap.lt_size hoi) (Heap.lt_size hol) (fun g2 tk hk => ?_) hz))
    exact last g2 tk fun b o e => hk b o (Nat.ne_of_lt (Heap.lt_size e)) (sb1.extBut b o (Nat.ne_of_lt (Heap.lt_size e)) (Heap.get?_push_of_some _ e))
  | t a =>
    have hl' : s.heap.IsTuple a us := hl
    have hne' : a ≠ s.heap.objs.size := hne
    unfold unpackItems
    refine wpAny_bind ?_
    unfold notIterableAtAll
    refine wpAny_bind (wpAny_specialOf hl'.typeIs slot_tuple_iter.lookup ?_)
    refine wpAny_pure ?_
    simp only [Bool.false_eq_true, if_false]
    refine wpAny_bind (wpAny_holding (iter_tuple hl' ?_))
    refine wpAny_bind (wpAny_holding (draw_tuple hne' i 0 _ _ ⟨_, Heap.get?_push_size _ rfl, rfl, rfl⟩ (hl'.push _) (by omega) fun g1 it1 sb1 => ?_))
    have hl1 : IsTup g1 a us := (hl'.push _).extBut sb1.extBut hne'
    rw [Nat.zero_add] at it1
    obtain ⟨oi, hoi, _⟩ := id it1
    obtain ⟨ol, hol, _⟩ := id hl1
    rw [List.drop_zero, if_neg hfl]
    refine wpAny_bind (wpAny_holding (PySem.W.kun_collect (s := { s with heap := g1 }) (T := "tuple_iterator") (.inr (.inr (.inr rfl))) (Walks.tuple (A := A.in1) hh s.heap.objs.size a hne' us) (fun j u st => st.1.typeIs) (k := i) hi ⟨it1, hl1⟩ (Heap.lt_size hoi) (Heap.lt_size hol) (fun g2 tk hk => ?_) hz))
    exact last g2 tk fun b o e => hk b o (Nat.ne_of_lt (Heap.lt_size e)) (sb1.extBut b o (Nat.ne_of_lt (Heap.lt_size e)) (Heap.get?_push_of_some _ e))
end
def gStar (K : PySem.W.Frag) (i : Nat) (t : TGs) : TG := fun v σ H Q => ∃ c xs, v = .ref c.ad ∧ SqX K H c xs ∧ i ≤ xs.length ∧ ∀ p, H p = none → t (xs.take i ++ [.ref p]) σ (upd H p (.lst (xs.drop i))) Q
theorem pg_star {X : Cx} {es : List Expr} {k : Nat} {t : TGs} {i : Nat} {pos : Pos} (hc : X.calm = true) (h : PGs X es t)
    (hn : (assignEach es X.env).length = i + 1 := by rfl) (hst : (assignEach es X.env).findIdx? (·.1) = some i := by rfl) : PG X (.Tuple es k pos) (gStar X.K i t) := by
  refine ⟨fun pins s σ H v u Q I r hw => ?_⟩
  obtain ⟨c, xs, e1, hq, hl, hw⟩ := hw
  subst e1
  cases r
  obtain ⟨its, rv, p, lt⟩ := Sc.seq I hq
  have hz : its.toArray.size ≤ sizeLine := by
    cases c with
    | l a => 
      obtain ⟨its2, rv2, _, z⟩ := I.list hq
      rw [List.size_toArray, ← rv.length]; exact z
    | t a => 
      obtain ⟨its2, rv2, _, z⟩ := I.tuple hq
      rw [List.size_toArray, ← rv.length]; exact z
  rw [PyProof.Rows.assign_Tuple]
  refine wpAny_bind (wpAny_standAt ?_)
  unfold unpack
  rw [hn, hst]
  refine wpAny_bind (wpAny_holding (unpack_star (I.ok.hd hc) p (by rw [List.size_toArray, ← rv.length]; exact hl) hz fun h' tk hk => ?_))
  have I1 : Inv X pins σ H { s with heap := h', toks := tk } := I.kept hk
  have hf : H h'.objs.size = none := I1.hok.fresh (Nat.le_refl _)
  have I2 : Inv X pins σ (upd H h'.objs.size (.lst (xs.drop i))) { s with heap := h'.push { cls := .type "list", data := .seq (its.toArray.toList.drop i).toArray }, toks := tk } :=
    I1.laid (t' := tk) (fun b ob q => Heap.get?_push_of_some _ q) (Nat.le_refl _) ⟨by
      rw [List.length_drop]
      have := rv.length
      rw [List.size_toArray] at hz
      omega, _, 0, rv.drop i, Heap.get?_push_size _ rfl⟩
  exact h.run pins _ σ _ _ _ Q I2 ((rv.take i).append (ys := [V.ref h'.objs.size]) (ws := [Value.ref h'.objs.size]) (.cons rfl .nil)) (hw _ hf)

/-! ### sum(xs, start=c) -/
theorem args_sum_start (a b : Value) : argsOk "sum" ⟨[a], [(Str.ofString "start", b)]⟩ := by unfold argsOk; kernel_rfl
theorem walksShift {prog : Program} {w : World} {A : Around} {I : Addr} {fp wr : List Addr} {G : Array GenState → Array GenState → Prop} {n : Nat} {P : Nat → Value → Prop} {St : Nat → Shared → Prop}
    (W : WalksS prog w A I fp wr G n P St) : WalksS prog w A I fp wr G (n + 1) (fun i v => ∃ j, i = j + 1 ∧ P j v) (fun i s => ∃ j, i = j + 1 ∧ St j s) where
  sub := W.sub
  grefl := W.grefl
  gtrans := W.gtrans
  frame := fun i s h' tk st le k => let ⟨j, e, st⟩ := st; ⟨j, e, W.frame j s h' tk st le k⟩
  item := fun i s Q E hi st hQ => by
    obtain ⟨j, rfl, st⟩ := st
    exact W.item j s Q E (by omega) st fun v s' hP st' hm => hQ v s' ⟨j, rfl, hP⟩ ⟨j + 1, rfl, st'⟩ hm
  done := fun s Q E st hQ => by
    obtain ⟨j, e, st⟩ := st
    obtain rfl : j = n := by omega
    exact W.done s Q E st hQ
  self := fun i s Q E st hQ => by
    obtain ⟨j, rfl, st⟩ := st
    exact W.self j s Q E st hQ
/-- c, then the values -/
def shiftV (c : Int) (val : Nat → Int) : Nat → Int
  | 0 => c
  | i + 1 => val i
theorem preSum_shift (c : Int) (val : Nat → Int) : ∀ n, preSum (shiftV c val) (n + 1) = c + preSum val n
  | 0 => by
    show 0 + c = c + 0
    omega
  | n + 1 => by
    show preSum (shiftV c val) (n + 1) + val n = c + (preSum val n + val n)
    rw [preSum_shift c val n]
    omega
section
variable {prog : Program} {w : World} {A : Around} {E : Value → Shared → Prop} {s : Shared}
theorem call_function_treeK {id : String} {b : Builtin} {args : List Value} {kw : List (PySem.Str × Value)} {Q : Value → Shared → Prop} (hk : builtinKind id = none) (hp : plainId id = true)
    (hb : entryFor table id = some b) (ha : argsOk id ⟨args, kw⟩)
    (hc : wpAny (model prog w) A.in1 (b ⟨args, kw⟩) (fun fin s' => match fin with
      | .done f => (match (Except.ok f : Result) with | .ok (.ret v) => Q v s' | .ok _ => False | .error e => E e s')
      | .again c' => c'.quiet = true ∧ codeAny (model prog w) A c' (fun r s' => match r with | .ok (.ret v) => Q v s' | .ok _ => False | .error e => E e s') s') E s) :
    wpAny (model prog w) A (call (.builtin id) args kw) Q E s := by
  refine wpAny_call (codeAny_call_builtin hp hb ?_)
  simp only [checkBuiltinCall, hk]
  cases hsig : Manifest.signature? id with
  | none => exact wpAny_pure hc
  | some sg =>
    simp only [argsOk, hsig] at ha
    show wpAny _ A.in1 (Bind.checkArgs id sg ⟨args, kw⟩) _ _ s
    rw [show Bind.checkArgs id sg ⟨args, kw⟩ = pure () from ha]
    exact wpAny_pure hc
theorem bind_start (v : Value) : Builtin.Builtins.bindParams "sum" ["start"] 0 ⟨[], [(Str.ofString "start", v)]⟩ = pure [some v] := by kernel_rfl
theorem sum_start {l : Addr} {its : List Value} {ns : List Int} {c : Int} {t : Tok} {Q : Value → Shared → Prop} (hh : A.handled = none) (hl : s.heap.IsList l its.toArray) (hi : IntsAre its ns)
    (h : ∀ h' tk t', (∀ b o, s.heap.get? b = some o → h'.get? b = some o) → Q (.int (c + ns.sum) t') { s with heap := h', toks := tk }) :
    wpAny (model prog w) A (call (.builtin "sum") [.ref l] [(Str.ofString "start", .int c t)]) Q E s := by
  obtain ⟨xs, e⟩ := hi.allInts.items
  have hn : numsOf (intItems xs).toList = ns := by rw [← e]; exact hi.numsOf
  rw [nums_intItems] at hn
  rw [e] at hl
  refine call_function_treeK F.kind_sum F.plain_sum F.entry_sum (args_sum_start _ _) ?_
  unfold Builtin.«sum»
  simp only [List.length_cons, List.length_nil]
  rw [if_neg (by decide)]
  refine wpAny_bind (wpAny_of_eq (bind_start _) ?_)
  refine wpAny_bind (iter_intList hl fun s2 e2 st hfp hlI => ?_)
  subst e2
  have hsz : (intItems xs).size = xs.size := by simp [intItems]
  have W := (Walks.list (A := A.in1) (prog := prog) (w := w) hh _ l hlI (intItems xs)).toS
  have hval : ∀ i v, (∃ j, i = j + 1 ∧ (intItems xs)[j]? = some v) → ∃ t, v = Value.int (shiftV c (numAt xs) i) t := fun i v ⟨j, e1, e2⟩ => by
    subst e1
    exact intItems_at e2
  have done : ∀ (s' : Shared) (t' : Tok), Moved [s.heap.objs.size] (fun a b => b = a) { s with heap := s.heap.push { cls := .type "list_iterator", data := .fields #[.ref l, .int 0 0] } } s' →
      Q (.int (preSum (shiftV c (numAt xs)) ((intItems xs).size + 1)) t') s' := fun s' t' hm => by
    rw [preSum_shift, hsz, preSum_eq, List.take_of_length_le (by simp), hn, Moved.eq_with hm]
    exact h s'.heap s'.toks t' fun b o e => hm.heap b o (fun hmem => Nat.ne_of_lt (Heap.lt_size e) (List.mem_singleton.mp hmem)) (Heap.get?_push_of_some _ e)
  dsimp only
  split
  · refine wpAny_bind (wpAny_rule (wpAny_bind (wpAny_mkInt (wpAny_bind (wpAny_pure ?_)))))
    simp only [List.forIn_cons, List.forIn_nil]
    refine wpAny_bind (wpAny_bind (wpAny_bind (wpAny_isInstance (T := "int") (b := false) (typeIs_int _ _ _) PySem.sub_int_str ?_)))
    simp only [Bool.false_eq_true, if_false]
    refine wpAny_pure (wpAny_bind (wpAny_bind (wpAny_isInstance (T := "int") (b := false) (typeIs_int _ _ _) PySem.sub_int_bytes ?_)))
    simp only [Bool.false_eq_true, if_false]
    refine wpAny_pure (wpAny_bind (wpAny_bind (wpAny_isInstance (T := "int") (b := false) (typeIs_int _ _ _) PySem.sub_int_bytearray ?_)))
    simp only [Bool.false_eq_true, if_false]
    refine wpAny_pure (wpAny_pure ?_)
    refine wpAny_bind (wpAny_newObj_type ?_)
    refine wpAny_pure ⟨plainId_quiet F.plain_sum_loop _, codeAny_sum_loopAnyS (walksShift W) (shiftV c (numAt xs)) hval _ (fun hm => Nat.lt_irrefl _ (hfp _ hm)) xs.size 1 _ s.toks 0 0 (.inl rfl) (by rw [hsz]; omega) (by omega)
      ((walksShift W).frame 1 _ _ _ ⟨0, rfl, st⟩ (by first | exact Nat.le_refl _ | exact Nat.le_succ _) fun b _ o e => Heap.get?_push_of_some _ e) ?_ fun s' t' hm => ?_⟩
    · rw [show preSum (shiftV c (numAt xs)) 1 = c by show 0 + c = c; omega]
      exact Heap.get?_push_size _ rfl
    · exact done s' t' (hm.drop_new (by first | exact Nat.le_refl _ | exact Nat.le_succ _))
  · refine wpAny_bind (wpAny_pure ?_)
    simp only [List.forIn_cons, List.forIn_nil]
    refine wpAny_bind (wpAny_bind (wpAny_bind (wpAny_isInstance (T := "int") (b := false) (typeIs_int _ _ _) PySem.sub_int_str ?_)))
    simp only [Bool.false_eq_true, if_false]
    refine wpAny_pure (wpAny_bind (wpAny_bind (wpAny_isInstance (T := "int") (b := false) (typeIs_int _ _ _) PySem.sub_int_bytes ?_)))
    simp only [Bool.false_eq_true, if_false]
    refine wpAny_pure (wpAny_bind (wpAny_bind (wpAny_isInstance (T := "int") (b := false) (typeIs_int _ _ _) PySem.sub_int_bytearray ?_)))
    simp only [Bool.false_eq_true, if_false]
    refine wpAny_pure (wpAny_pure ?_)
    refine wpAny_bind (wpAny_newObj_type ?_)
    refine wpAny_pure ⟨plainId_quiet F.plain_sum_loop _, codeAny_sum_loopAnyS (walksShift W) (shiftV c (numAt xs)) hval _ (fun hm => Nat.lt_irrefl _ (hfp _ hm)) xs.size 1 _ t 0 2 (.inr rfl) (by rw [hsz]; omega) (by omega)
      ((walksShift W).frame 1 _ _ _ ⟨0, rfl, st⟩ (by first | exact Nat.le_refl _ | exact Nat.le_succ _) fun b _ o e => Heap.get?_push_of_some _ e) ?_ fun s' t' hm => ?_⟩
    · rw [show preSum (shiftV c (numAt xs)) 1 = c by show 0 + c = c; omega]
      exact Heap.get?_push_size _ rfl
    · exact done s' t' (hm.drop_new (by first | exact Nat.le_refl _ | exact Nat.le_succ _))
end
end Cf

/-! Cf7: the same for data. -/
namespace Cf
open PySem PySem.Spec PyProof.Rows L2

/-- a datum that is a list or a tuple of xs -/
inductive SeqD : Dt → List Dt → Prop
  | l (xs : List Dt) : SeqD (.lst xs) xs
  | t (xs : List Dt) : SeqD (.tup xs) xs
  | n (ns : List PySem.Str) : SeqD (.nms ns) (ns.map Dt.str)
  | s (ns : List Int) : SeqD (.scr ns) (ns.map Dt.int)
theorem SqX.mono {K : PySem.W.Frag} {B B' : Hp} {c : Sc} {xs : List V} (e : Ex B B') (h : SqX K B c xs) : SqX K B' c xs := by
  cases c with
  | l a => exact e.l h
  | t a => exact e.t h
theorem SeqD.sc {K : PySem.W.Frag} {C : Addr} {B : Hp} {d : Dt} {xs : List Dt} {v : V} (s : SeqD d xs) (h : De K C B d v) : ∃ (c : Sc) (vs : List V), v = .ref c.ad ∧ SqX K B c vs ∧ DeAll K C B xs vs := by
  cases s with
  | l =>
    obtain ⟨a, vs, h1, h2, h3⟩ := h
    exact ⟨.l a, vs, h1, SqL.of h2, h3⟩
  | t =>
    obtain ⟨a, vs, h1, h2, h3⟩ := h
    exact ⟨.t a, vs, h1, h2, h3⟩
  | n ns =>
    obtain ⟨a, vs, h1, h2, h3⟩ := De.nms_tup h
    exact ⟨.t a, vs, h1, h2, h3⟩
  | s ns =>
    obtain ⟨a, h1, h2⟩ := h
    exact ⟨.l a, _, h1, h2, DeAll.of_ints ns⟩
theorem DeAll.three {K : PySem.W.Frag} {C : Addr} {B : Hp} {d1 d2 d3 : Dt} {vs : List V} (h : DeAll K C B [d1, d2, d3] vs) : ∃ v1 v2 v3, vs = [v1, v2, v3] ∧ De K C B d1 v1 ∧ De K C B d2 v2 ∧ De K C B d3 v3 := by
  obtain ⟨v1, r, rfl, h1, v2, r2, rfl, h2, v3, r3, rfl, h4, h3⟩ := h
  cases (show r3 = [] from h3)
  exact ⟨v1, v2, v3, rfl, h1, h2, h4⟩

/-! ### zip, enumerate -/
def zipD (xs ys : List Dt) : List Dt := List.zipWith (fun x y => .tup [x, y]) xs ys
theorem zipD_len (xs ys : List Dt) : (zipD xs ys).length = min xs.length ys.length := List.length_zipWith
theorem zipD_get {xs ys : List Dt} {i : Nat} {d : Dt} (h : (zipD xs ys)[i]? = some d) : ∃ x y, xs[i]? = some x ∧ ys[i]? = some y ∧ d = .tup [x, y] := by
  unfold zipD at h
  rw [List.getElem?_zipWith] at h
  cases hx : xs[i]? with
  | none => rw [hx] at h; cases h
  | some x =>
    cases hy : ys[i]? with
    | none => rw [hx, hy] at h; cases h
    | some y =>
      rw [hx, hy] at h
      exact ⟨x, y, rfl, rfl, (Option.some.inj h).symm⟩
section
variable {K : PySem.W.Frag} {C : Addr} {q : Option Addr} {B1 : Hp}
theorem itok_zip2 {c1 c2 : Sc} {xs ys : List Dt} {vs ws : List V} (h1 : SqX K B1 c1 vs) (h2 : SqX K B1 c2 ws) (d1 : DeAll K C B1 xs vs) (d2 : DeAll K C B1 ys ws) : ItOk K C q (ItX2 K c1 c2) B1 (zipD xs ys) where
  go := fun i d B H hi e1 e2 => by
    obtain ⟨x, y, hx, hy, _⟩ := zipD_get hi
    obtain ⟨v, g1, _⟩ := d1.get hx
    obtain ⟨w, g2, _⟩ := d2.get hy
    exact ⟨vs, ws, v, w, (h1.mono e1).mono e2, (h2.mono e1).mono e2, g1, g2⟩
  yld := fun i d n B H x H' hi e1 b y => by
    obtain ⟨x1, y1, hx, hy, rfl⟩ := zipD_get hi
    obtain ⟨v, g1, k1⟩ := d1.get hx
    obtain ⟨w, g2, k2⟩ := d2.get hy
    obtain ⟨T, v', w', rfl, hT, rfl, f1, f2⟩ := y
    cases (f1 vs ((h1.mono e1).mono b.ex)).symm.trans g1
    cases (f2 ws ((h2.mono e1).mono b.ex)).symm.trans g2
    exact ⟨upd B T (.tup [v, w]), de_newT (b.none hT) ⟨v, _, rfl, De.mono e1 _ _ k1, w, _, rfl, De.mono e1 _ _ k2, rfl⟩, b.newB hT⟩
  stop := fun B H e1 e2 => ⟨vs, ws, (h1.mono e1).mono e2, (h2.mono e1).mono e2, by rw [zipD_len, d1.length, d2.length]⟩
def zipD3 (xs ys zs : List Dt) : List Dt := List.zipWith (fun p z => match p with | .tup [x, y] => .tup [x, y, z] | _ => .non) (zipD xs ys) zs
theorem zipD3_len (xs ys zs : List Dt) : (zipD3 xs ys zs).length = min (min xs.length ys.length) zs.length := by
  unfold zipD3
  rw [List.length_zipWith, zipD_len]
theorem zipD3_get {xs ys zs : List Dt} {i : Nat} {d : Dt} (h : (zipD3 xs ys zs)[i]? = some d) : ∃ x y z, xs[i]? = some x ∧ ys[i]? = some y ∧ zs[i]? = some z ∧ d = .tup [x, y, z] := by
  unfold zipD3 at h
  rw [List.getElem?_zipWith] at h
  cases hp : (zipD xs ys)[i]? with
  | none => rw [hp] at h; cases h
  | some p =>
    obtain ⟨x, y, hx, hy, rfl⟩ := zipD_get hp
    cases hz : zs[i]? with
    | none => rw [hp, hz] at h; cases h
    | some z =>
      rw [hp, hz] at h
      exact ⟨x, y, z, hx, hy, rfl, (Option.some.inj h).symm⟩
theorem itok_zip3 {c1 c2 c3 : Sc} {xs ys zs : List Dt} {vs ws us : List V} (h1 : SqX K B1 c1 vs) (h2 : SqX K B1 c2 ws) (h3 : SqX K B1 c3 us) (d1 : DeAll K C B1 xs vs) (d2 : DeAll K C B1 ys ws) (d3 : DeAll K C B1 zs us) : ItOk K C q (ItX3 K c1 c2 c3) B1 (zipD3 xs ys zs) where
  go := fun i d B H hi e1 e2 => by
    obtain ⟨x, y, z, hx, hy, hz, _⟩ := zipD3_get hi
    obtain ⟨v, g1, _⟩ := d1.get hx
    obtain ⟨w, g2, _⟩ := d2.get hy
    obtain ⟨u, g3, _⟩ := d3.get hz
    exact ⟨vs, ws, us, v, w, u, (h1.mono e1).mono e2, (h2.mono e1).mono e2, (h3.mono e1).mono e2, g1, g2, g3⟩
  yld := fun i d n B H x H' hi e1 b y => by
    obtain ⟨x1, y1, z1, hx, hy, hz, rfl⟩ := zipD3_get hi
    obtain ⟨v, g1, k1⟩ := d1.get hx
    obtain ⟨w, g2, k2⟩ := d2.get hy
    obtain ⟨u, g3, k3⟩ := d3.get hz
    obtain ⟨T, v', w', u', rfl, hT, rfl, f1, f2, f3⟩ := y
    cases (f1 vs ((h1.mono e1).mono b.ex)).symm.trans g1
    cases (f2 ws ((h2.mono e1).mono b.ex)).symm.trans g2
    cases (f3 us ((h3.mono e1).mono b.ex)).symm.trans g3
    exact ⟨upd B T (.tup [v, w, u]), de_newT (b.none hT) ⟨v, _, rfl, De.mono e1 _ _ k1, w, _, rfl, De.mono e1 _ _ k2, u, _, rfl, De.mono e1 _ _ k3, rfl⟩, b.newB hT⟩
  stop := fun B H e1 e2 => ⟨vs, ws, us, (h1.mono e1).mono e2, (h2.mono e1).mono e2, (h3.mono e1).mono e2, by rw [zipD3_len, d1.length, d2.length, d3.length]⟩
def enumD (xs : List Dt) : List Dt := zipD (rngD xs.length) xs
theorem enumD_len (xs : List Dt) : (enumD xs).length = xs.length := by
  unfold enumD
  rw [zipD_len, rngD_len, Nat.min_self]
theorem enumD_get {xs : List Dt} {i : Nat} {d : Dt} (h : (enumD xs)[i]? = some d) : ∃ x, xs[i]? = some x ∧ d = .tup [.int (i : Int), x] := by
  obtain ⟨x, y, hx, hy, rfl⟩ := zipD_get h
  rw [(rngD_get hx).2]
  exact ⟨y, hy, rfl⟩
theorem itok_enum {c : Sc} {xs : List Dt} {vs : List V} (h1 : SqX K B1 c vs) (d1 : DeAll K C B1 xs vs) : ItOk K C q (ItXe K c) B1 (enumD xs) where
  go := fun i d B H hi e1 e2 => by
    obtain ⟨x, hx, _⟩ := enumD_get hi
    obtain ⟨v, g1, _⟩ := d1.get hx
    exact ⟨vs, v, (h1.mono e1).mono e2, g1⟩
  yld := fun i d n B H x H' hi e1 b y => by
    obtain ⟨x1, hx, rfl⟩ := enumD_get hi
    obtain ⟨v, g1, k1⟩ := d1.get hx
    obtain ⟨T, v', rfl, hT, rfl, f1⟩ := y
    cases (f1 vs ((h1.mono e1).mono b.ex)).symm.trans g1
    exact ⟨upd B T (.tup [.int (i : Int), v]), de_newT (b.none hT) ⟨_, _, rfl, rfl, v, _, rfl, De.mono e1 _ _ k1, rfl⟩, b.newB hT⟩
  stop := fun B H e1 e2 => ⟨vs, (h1.mono e1).mono e2, by rw [enumD_len, d1.length]⟩
end
section
variable {X : Cx} {C : Addr} {q : Option Addr} {env : En} {cs : Cs} {a b c : Expr} {elts : List Expr} {kk : Nat} {p pos tpos : Pos} {d1 d2 d3 : Dt} {xs ys zs : List Dt}
theorem id_zip2 (hm : X.mg "zip" = none) (ha : AD X C q [a, b] env cs [d1, d2]) (h1 : SeqD d1 xs) (h2 : SeqD d2 ys) (hg : Gl X "zip" := by rfl) (hs : starEach [a, b] X.env = (false, eval a X.env) :: starEach [b] X.env := by rfl)
    (hpl : (backTo pos (starEach [b] X.env)).any (·.1) = false := by rfl) : ID X C q (.Tuple elts kk tpos) (.Call (.Name "zip" p) [a, b] [] pos) env cs (zipD xs ys) := fun n B σ H cf hn R hR =>
  wpI_of (pi_zip2 hg hm wpA_pa hs hpl) (ha n B σ H cf hn _ fun vs ds B1 H1 e1 f1 o1 => by
    subst e1
    obtain ⟨v1, v2, rfl, g1, g2⟩ := f1.two
    obtain ⟨c1, us, rfl, s1, k1⟩ := h1.sc g1
    obtain ⟨c2, ws, rfl, s2, k2⟩ := h2.sc g2
    exact ⟨c1, c2, us, ws, rfl, s1.mono o1.ex, s2.mono o1.ex, hR _ B1 H1 (itok_zip2 s1 s2 k1 k2) o1⟩)
theorem id_zip3 (hm : X.mg "zip" = none) (ha : AD X C q [a, b, c] env cs [d1, d2, d3]) (h1 : SeqD d1 xs) (h2 : SeqD d2 ys) (h3 : SeqD d3 zs) (hg : Gl X "zip" := by rfl) (hs : starEach [a, b, c] X.env = (false, eval a X.env) :: starEach [b, c] X.env := by rfl)
    (hpl : (backTo pos (starEach [b, c] X.env)).any (·.1) = false := by rfl) : ID X C q (.Tuple elts kk tpos) (.Call (.Name "zip" p) [a, b, c] [] pos) env cs (zipD3 xs ys zs) := fun n B σ H cf hn R hR =>
  wpI_of (pi_zip3 hg hm wpA_pa hs hpl) (ha n B σ H cf hn _ fun vs ds B1 H1 e1 f1 o1 => by
    subst e1
    obtain ⟨v1, v2, v3, rfl, g1, g2, g3⟩ := f1.three
    obtain ⟨c1, us, rfl, s1, k1⟩ := h1.sc g1
    obtain ⟨c2, ws, rfl, s2, k2⟩ := h2.sc g2
    obtain ⟨c3, ts, rfl, s3, k3⟩ := h3.sc g3
    exact ⟨c1, c2, c3, us, ws, ts, rfl, s1.mono o1.ex, s2.mono o1.ex, s3.mono o1.ex, hR _ B1 H1 (itok_zip3 s1 s2 s3 k1 k2 k3) o1⟩)
theorem id_enum (hm : X.mg "enumerate" = none) (ha : ED X C q a env cs d1) (h1 : SeqD d1 xs) (hg : Gl X "enumerate" := by rfl) (hs : starEach [a] X.env = [(false, eval a X.env)] := by rfl) :
    ID X C q (.Tuple elts kk tpos) (.Call (.Name "enumerate" p) [a] [] pos) env cs (enumD xs) := fun n B σ H cf hn R hR =>
  wpI_of (pi_enumX hg hm (wpA_pa (X := X) (es := [a])) hs) ((ad_cons ha ad_nil (hs := by rw [hs]; rfl)) n B σ H cf hn _ fun vs ds B1 H1 e1 f1 o1 => by
    subst e1
    obtain ⟨v1, rfl, g1⟩ := f1.one
    obtain ⟨c1, us, rfl, s1, k1⟩ := h1.sc g1
    exact ⟨c1, us, rfl, s1.mono o1.ex, hR _ B1 H1 (itok_enum s1 k1) o1⟩)
theorem id_seq (ha : ED X C q a env cs d1) (h1 : SeqD d1 xs) {tg : Expr} : ID X C q tg a env cs xs := by
  cases h1 with
  | l => exact id_list ha
  | t => exact id_tup ha
  | n => exact id_nms ha
  | s ns => exact fun n B σ H cf hn R hR =>
      wpI_of (pi_list wpE_pe) (ha n B σ H cf hn _ fun v d' B1 H1 e1 f1 o1 => by
        subst e1
        obtain ⟨a, rfl, h2⟩ := f1
        exact ⟨a, rfl, ⟨_, o1.ex.l h2⟩, hR _ B1 H1 (itok_list h2 (DeAll.of_ints ns)) o1⟩)
end

/-! ### a star among the names -/
section
variable {X : Cx} {C : Addr} {q : Option Addr} {i : Nat} {x : PySem.Str} {pos pos2 tpos : Pos} {d : Dt} {ds : List Dt} {es : List Expr} {sl : List Nat}
theorem gds_star (hN : X.N.Nodup) (hi : X.N[i]? = some x := by rfl) (hx : Loc X.env.scope x := by first | exact Or.inl rfl | exact Or.inr rfl) (hf : X.fn x = true ∨ X.env.scope.names.lookup x = some .local := by first | exact .inl rfl | exact .inr rfl)
    (hs : (assignEach [.Starred (.Name x pos) pos2] X.env).map (·.2) = [assign (.Name x pos) X.env] := by rfl) : GDs X [.Starred (.Name x pos) pos2] [i] := fun σ H vs hl Q hQ => by
  cases vs with
  | nil => cases hl
  | cons v vr =>
    have : vr = [] := List.length_eq_zero_iff.mp (Nat.succ.inj hl)
    subst this
    exact fun pins s us I r => by
      rw [hs]
      cases r with
      | cons r rr =>
        cases rr
        exact assignInOrder_cons (thn ((pg_name hN hi hx hf).run pins s σ H _ _ _ I r hQ) fun _ s1 ⟨σ1, H1, I1, q1⟩ => assignInOrder_nil ⟨σ1, H1, I1, q1⟩)
theorem setS_len {σ : L2.St} : ∀ {sl : List Nat} {ws : List V}, (setS σ sl ws).length = σ.length := by
  intro sl
  induction sl generalizing σ with
  | nil => intro ws; rfl
  | cons i is ih =>
    intro ws
    cases ws with
    | nil => rfl
    | cons w ws =>
      show (setS (σ.set i (some w)) is ws).length = _
      rw [ih, List.length_set]
theorem gd_star {j : Nat} (hc : X.calm = true) (h : GDs X es sl) (hd : SeqD d ds) (hl : i ≤ ds.length) (hsl : sl.length = i + 1) (hn : (assignEach es X.env).length = i + 1 := by rfl) (hst : (assignEach es X.env).findIdx? (·.1) = some i := by rfl) :
    GD X C q (.Tuple es j tpos) sl d (ds.take i ++ [.lst (ds.drop i)]) := fun n B σ H v b hv Q hQ => by
  obtain ⟨c, vs, rfl, s1, k1⟩ := hd.sc hv
  refine wpG_of (pg_star hc (⟨fun pins s σ H vs us Q I r h => h pins s us I r⟩ : PGs X es (wpGs X es)) hn hst) ⟨c, vs, rfl, s1.mono b.ex, by rw [k1.length]; exact hl, fun p hp => ?_⟩
  have hB := b.none hp
  refine h σ _ _ ?_ _ (hQ (vs.take i ++ [.ref p]) (upd B p (.lst (vs.drop i))) _ ?_ (b.newB hp))
  · rw [List.length_append, List.length_take, List.length_singleton, k1.length, hsl]
    omega
  · exact (DeAll.mono (Ex.new hB) _ _ (k1.take i)).snoc (de_newL hB (k1.drop i))
end

/-! ### sum(xs, start=c); xs[a:b:c]; t.index(x); s.join(xs) -/
section
variable {X : Cx} {C : Addr} {q : Option Addr} {env : En} {cs : Cs} {a b c e o : Expr} {p p2 pos apos kpos : Pos} {ns : List Int} {i : Int} {ys : List PySem.Str}
theorem cr_sumS (hc : X.calm = true) : CallRK X (.builtin "sum") [Str.ofString "start"] (fun vs zs H Q => ∃ (a : Addr) (ns : List Int) (c : Int), vs = [V.ref a] ∧ zs = [.int c] ∧ SqL X.K H a (ns.map V.int) ∧ Q (.int (c + ns.sum)) H) := by
  intro pins s σ H vs zs us ws Q I r rz h
  obtain ⟨a, ns, c, rfl, rfl, hs, q⟩ := h
  obtain rfl := Vals.ref1 r
  obtain ⟨w1, rfl, t, rfl⟩ := vals1 rz
  obtain ⟨its, rv, hl, _⟩ := I.list hs
  exact sum_start (I.ok.hd hc) hl.isList rv.ints fun h' tk t' hk => ⟨.int _, H, I.kept hk, ⟨_, rfl⟩, q⟩
theorem ed_sumS (hc : X.calm = true) (hm : X.mg "sum" = none) (ha : ED X C q a env cs (.lst (ns.map Dt.int))) (hb : ED X C q b env cs (.int i)) (hg : Gl X "sum" := by rfl) (he : backTo pos (starEach [a] X.env) = (false, eval a X.env) :: backTo pos (starEach [] X.env) := by rfl)
    (hpl : (backTo pos (starEach [a] X.env)).any (·.1) = false := by rfl) (hall : (backToKw pos (keywordEach [⟨some "start", b, kpos⟩] X.env)).all (·.1.isSome) = true := by rfl) (hnone : (backToKw pos (keywordEach [⟨some "start", b, kpos⟩] X.env)).any (·.1.isNone) = false := by rfl)
    (hks : (backToKw pos (keywordEach [⟨some "start", b, kpos⟩] X.env)).filterMap (·.1) = [Str.ofString "start"] := by rfl) (hs : starEach [a] X.env = (false, eval a X.env) :: starEach [] X.env := by rfl) :
    ED X C q (.Call (.Name "sum" p) [a] [⟨some "start", b, kpos⟩] pos) env cs (.int (i + ns.sum)) := fun n B σ H cf hn Q hQ =>
  wpE_of (pe_callBK (cr_sumS hc) hg hm (by decide +kernel) wpA_pa wpK_pk (by decide) (by decide) he hpl hall hnone hks) ((ad_cons ha ad_nil (hs := hs)) n B σ H cf hn _ fun vs ds B1 H1 e1 f1 o1 => by
    subst e1
    obtain ⟨v1, rfl, a1, xs, rfl, g2, g3⟩ := f1.one
    obtain rfl := g3.ints
    refine (kd_cons (nm := some "start") (kpos := kpos) hb kd_nil) n B1 σ H1 (cf.after o1) hn _ fun ws B2 H2 f2 o2 => ?_
    obtain ⟨w1, rfl, rfl⟩ := f2.one
    exact ⟨a1, ns, i, rfl, rfl, SqL.of (o2.ex _ _ (o2.nw.ex _ _ g2)), hQ _ _ B2 H2 rfl rfl (o1.trans o2)⟩)
end
end Cf

/-! Cf8: new lists; list comprehensions. -/
namespace Cf
open PySem PySem.Spec PyProof.Rows L2

/-! ### a list just made, not yet in the base -/
section
variable (X : Cx) (C : Addr)
def ENt (t : TE) (q : Option Addr) (k : Nat) (env : En) (cs : Cs) (P : List Dt → Prop) : Prop :=
  ∀ (n : Nat) (B : Hp) (σ : L2.St) (H : Hp), Cfg X.K C q n env cs B σ H → n + k ≤ LIM → ∀ Q : VK,
    (∀ p vs ds B2 H2, P ds → H2 p = some (.lst vs) → B2 p = none → H p = none → q ≠ some p → DeAll X.K C B2 ds vs → Out q (n + k) B H B2 H2 → Q (.ref p) H2) → t σ H Q
abbrev EN (q : Option Addr) (k : Nat) (e : Expr) (env : En) (cs : Cs) (P : List Dt → Prop) : Prop := ENt X C (wpE X e) q k env cs P
end
section
variable {X : Cx} {C : Addr} {q : Option Addr} {k k1 k2 : Nat} {env : En} {cs : Cs} {P : List Dt → Prop} {a b e : Expr} {es : List Expr} {pos : Pos} {d : Dt} {ds : List Dt}
theorem Out.addB {n : Nat} {B H B2 H2 : Hp} {p : Addr} {o : HO} (u : Out q n B H B2 H2) (h : H2 p = some o) (hB : B2 p = none) (hH : H p = none) (hq : q ≠ some p) : Out q n B H (upd B2 p o) H2 := by
  refine ⟨⟨u.nw.ex.trans (Ex.new hB), fun a ha hb => ?_⟩, fun a x e => ?_, u.eo, u.pl.1, fun r hr => ?_⟩
  · by_cases z : a = p
    · subst z; exact absurd hH ha
    · rw [upd_ne z]; exact u.nw.new a ha hb
  · by_cases z : a = p
    · subst z; rw [upd_same] at e; cases e; exact h
    · rw [upd_ne z] at e; exact u.ex a x e
  · obtain ⟨h1, a, b, c, h2, h3⟩ := u.pl.2 r hr
    refine ⟨?_, a, b, c, h2, h3⟩
    rw [upd_ne (fun z => hq (by rw [hr, z]))]
    exact h1
theorem ENt.em (h : EN X C q k e env cs P) : EM X C q k e env cs (fun d => ∃ ds, d = .lst ds ∧ P ds) := fun n B σ H cf hn Q hQ =>
  h n B σ H cf hn Q fun p vs ds B2 H2 p1 h1 h2 h3 h4 h5 o => hQ (.ref p) (.lst ds) (upd B2 p (.lst vs)) H2 ⟨ds, rfl, p1⟩ (de_newL h2 h5) (o.addB h1 h2 h3 h4)
theorem ENt.imp {t : TE} {P' : List Dt → Prop} (h : ENt X C t q k env cs P) (hp : ∀ d, P d → P' d) : ENt X C t q k env cs P' := fun n B σ H cf hn Q hQ =>
  h n B σ H cf hn Q fun p vs ds B2 H2 p1 => hQ p vs ds B2 H2 (hp ds p1)
/-- a new object, not told to the base -/
theorem Cfg.newH {n : Nat} {B : Hp} {σ : L2.St} {H : Hp} (cf : Cfg X.K C q n env cs B σ H) {p : Addr} {o : HO} (h : H p = none) : Out q n B H B (upd H p o) := cf.same (Ex.new h)
theorem Out.newH {n : Nat} {B H B2 H2 : Hp} (u : Out q n B H B2 H2) {p : Addr} {o : HO} (h : H2 p = none) : Out q n B H B2 (upd H2 p o) ∧ B2 p = none ∧ H p = none ∧ q ≠ some p := by
  have hp : B2 p = none := u.ex.none h
  have hq : q ≠ some p := fun e => u.pl.there e h
  refine ⟨u.trans ((u.bs).same (Ex.new h)), hp, ?_, hq⟩
  cases z : H p with
  | none => rfl
  | some o =>
    have := u.eo p o hq z
    rw [h] at this
    cases this
theorem en_lst (ha : AM X C q k es env cs P) (hl : ∀ ds, P ds → ds.length ≤ 1000) : EN X C q k (.List es pos) env cs P := fun n B σ H cf hn Q hQ =>
  wpE_of (pe_lst wpA_pa) (ha n B σ H cf hn _ fun vs ds B1 H1 p1 e1 o1 => ⟨by rw [e1.length]; exact Nat.le_trans (hl ds p1) (by decide), fun p hp => by
    obtain ⟨u, h1, h2, h3⟩ := o1.newH (o := .lst vs) hp
    exact hQ p vs ds B1 _ p1 upd_same h1 h2 h3 e1 u⟩)
end

/-! ### a list comprehension -/
inductive Sel (Pt : Nat → Bool → Prop) (Pe : Nat → Dt → Prop) : Nat → List Dt → Prop
  | nil : Sel Pt Pe 0 []
  | skip {i : Nat} {ds : List Dt} : Sel Pt Pe i ds → Pt i false → Sel Pt Pe (i + 1) ds
  | take {i : Nat} {ds : List Dt} {d : Dt} : Sel Pt Pe i ds → Pt i true → Pe i d → Sel Pt Pe (i + 1) (ds ++ [d])
theorem Sel.len {Pt : Nat → Bool → Prop} {Pe : Nat → Dt → Prop} {n : Nat} {ds : List Dt} (h : Sel Pt Pe n ds) : ds.length ≤ n := by
  induction h with
  | nil => exact Nat.le_refl _
  | skip _ _ ih => omega
  | take _ _ _ ih => rw [List.length_append, List.length_singleton]; omega
def wipeE (env : En) : List Nat → En
  | [] => env
  | v :: vs => (wipeE env vs).set v none
theorem Sg.wipe {K : PySem.W.Frag} {C : Addr} {B : Hp} {σ : L2.St} {env : En} (h : Sg K C B σ env) : ∀ vs : List Nat, Sg K C B (L2.wipe σ vs) (wipeE env vs)
  | [] => h
  | v :: vs => Sg.unset v (Sg.wipe h vs)
theorem wipe_get (σ : L2.St) : ∀ (vs : List Nat) (j : Nat), (L2.wipe σ vs)[j]? = if j ∈ vs ∧ j < σ.length then some none else σ[j]?
  | [], j => by simp [L2.wipe]
  | v :: vs, j => by
    show ((L2.wipe σ vs).set v none)[j]? = _
    rw [List.getElem?_set, wipe_length, wipe_get σ vs j]
    by_cases e : v = j
    · subst e
      by_cases hl : v < σ.length
      · simp [hl]
      · simp [hl, List.getElem?_eq_none (Nat.le_of_not_lt hl)]
    · rw [if_neg e]
      have : (j ∈ v :: vs) = (j ∈ vs) := by
        simp [Ne.symm e]
      simp only [this]
theorem setS_get {j : Nat} : ∀ {sl : List Nat} {σ : L2.St} {ws : List V}, ¬ j ∈ sl → (setS σ sl ws)[j]? = σ[j]?
  | [], _, _, _ => rfl
  | i :: is, _, [], _ => rfl
  | i :: is, σ, w :: ws, h => by
    show (setS (σ.set i (some w)) is ws)[j]? = _
    rw [setS_get (fun z => h (List.mem_cons_of_mem _ z)), List.getElem?_set, if_neg (fun z => h (by rw [z]; exact List.mem_cons_self ..))]
theorem wipe_setS {σ : L2.St} {vs sl : List Nat} {ws : List V} (h : ∀ i ∈ sl, i ∈ vs) : L2.wipe (setS (L2.wipe σ vs) sl ws) vs = L2.wipe σ vs := by
  apply List.ext_getElem?
  intro j
  rw [wipe_get, wipe_get σ vs j, setS_len, wipe_length]
  by_cases hj : j ∈ vs ∧ j < σ.length
  · rw [if_pos hj, if_pos hj]
  · rw [if_neg hj, if_neg hj]
    by_cases hs : j ∈ sl
    · have hl : ¬ j < σ.length := fun z => hj ⟨h j hs, z⟩
      rw [List.getElem?_eq_none (by rw [setS_len, wipe_length]; omega), List.getElem?_eq_none (by omega)]
    · rw [setS_get hs, wipe_get, if_neg hj]
/-- the blocks that a comprehension may run in -/
abbrev Blk (X : Cx) (scope : Scope) : Cx → Prop := fun Y => ∃ (s : Shared) (H : Hp) (A : Addr) (cl : List (PySem.Str × Addr)) (fp : List Addr), Y = X.blk s H scope (compEnvC scope cl A X.env) fp
def wpTs (X : Cx) (ifs : List Expr) : TT := fun σ H Q => ∀ (pins : List (Addr × Obj)) (s : Shared), Inv X pins σ H s →
  wpAny (model X.prog X.w) X.A (forIn ifs true fun c r => if r = true then do let ok ← isTrue c X.env (eval c X.env); pure (ForInStep.yield ok) else pure (ForInStep.yield r)) (TP X pins σ Q) X.xe s
def TS1 (X : Cx) (C : Addr) (q : Option Addr) (k : Nat) (ifs : List Expr) (env : En) (cs : Cs) (P : Bool → Prop) : Prop :=
  ∀ (n : Nat) (B : Hp) (σ : L2.St) (H : Hp), Cfg X.K C q n env cs B σ H → n + k ≤ LIM → ∀ Q : Bool → Hp → Prop,
    (∀ b B2 H2, P b → Out q (n + k) B H B2 H2 → Q b H2) → wpTs X ifs σ H Q
section
variable {X : Cx} {C : Addr} {q : Option Addr} {k k1 k2 : Nat} {env : En} {cs : Cs} {ifs : List Expr} {c : Expr} {P : Bool → Prop}
theorem ts_nil : TS1 X C q 0 [] env cs (fun b => b = true) := fun n B σ H cf hn Q hQ pins s I => pts_nil.run pins s σ H Q I (hQ true B H rfl (Out.refl cf))
theorem ts_one (h : TM X C q k c env cs P) : TS1 X C q k [c] env cs P := fun n B σ H cf hn Q hQ pins s I => (pts_one wpT_pt).run pins s σ H Q I (h n B σ H cf hn Q hQ)
end
section
variable {X : Cx} {C : Addr} {q : Option Addr} {k k1 k2 : Nat} {env : En} {cs : Cs} {elt tg iter : Expr} {ifs : List Expr} {scope : Scope} {own : List (PySem.Str × Nat)} {pos : Pos} {xs : List Dt} {sl : List Nat}
  {gs : Nat → List Dt} {Pt : Nat → Bool → Prop} {Pe : Nat → Dt → Prop}
/-- the reading of [elt for tg in iter if ..] -/
def LcR (X : Cx) (scope : Scope) (elt tg iter : Expr) (ifs : List Expr) (own : List (PySem.Str × Nat)) : TE :=
  tLc (wpI X tg iter) (fun v σ H Q => ∀ Y, Blk X scope Y → wpG Y tg v σ H Q) (fun σ H Q => ∀ Y, Blk X scope Y → wpTs Y ifs σ H Q) (fun σ H Q => ∀ Y, Blk X scope Y → wpE Y elt σ H Q) (own.map (·.2))
theorem lc_EN {P : List Dt → Prop} (h : ENt X C (LcR X scope elt tg iter ifs own) q k env cs P) (hc : X.calm = true) (hN : X.N.Nodup) (ok : BlkOk X.N X.env.scope scope own) (hs : ∀ x, foldedSetIterable iter X.env x = pure x := by intro _; rfl) :
    EN X C q k (.ListComp elt [⟨tg, iter, ifs, 0⟩] scope pos) env cs P := fun n B σ H cf hn Q hQ =>
  wpE_of (pe_lc (pos := pos) (elt := elt) (ifs := ifs) hc hN wpI_pi ok (fun s H A cl fp => ⟨fun pins s' σ H v u Q I r h => h _ ⟨s, _, A, cl, fp, rfl⟩ pins s' u I r⟩) (fun s H A cl fp => ⟨fun pins s' σ H Q I h => h _ ⟨s, _, A, cl, fp, rfl⟩ pins s' I⟩) (fun s H A cl fp => ⟨fun pins s' σ H Q I h => h _ ⟨s, _, A, cl, fp, rfl⟩ pins s' I⟩) hs) (h n B σ H cf hn Q hQ)
/-- the turns of a comprehension -/
theorem lr_body {J : It} {n : Nat} {B1 H1 : Hp} {σ : L2.St} (hsl : ∀ i ∈ sl, i ∈ own.map (·.2)) (hxs : xs.length ≤ 100000)
    (hg : ∀ Y, Blk X scope Y → ∀ j x, xs[j]? = some x → GD Y C q tg sl x (gs j))
    (ht : ∀ Y, Blk X scope Y → ∀ j x, xs[j]? = some x → TS1 Y C q k1 ifs (setE (wipeE env (own.map (·.2))) sl (gs j)) cs (Pt j))
    (he : ∀ Y, Blk X scope Y → ∀ j x, xs[j]? = some x → Pt j true → EM Y C q k2 elt (setE (wipeE env (own.map (·.2))) sl (gs j)) cs (Pe j))
    (cf1 : Cfg X.K C q n env cs B1 σ H1) (hn : n + xs.length * (k1 + k2) ≤ LIM) (jok : ItOk X.K C q J B1 xs) (Q : VK)
    (hQ : ∀ p vs ds B2 H2, Sel Pt Pe xs.length ds → H2 p = some (.lst vs) → B2 p = none → H1 p = none → q ≠ some p → DeAll X.K C B2 ds vs → Out q (n + xs.length * (k1 + k2)) B1 H1 B2 H2 → Q (.ref p) H2) :
    ∀ D, H1 D = none → ∃ W : Nat → Nat → Hp → Prop, (∃ m, W 0 m (upd H1 D (.lst []))) ∧ ∀ i m H, W i m H →
      (J.stop i H ∧ Q (.ref D) H) ∨ (J.go i H ∧ ∃ Nx : Hp → Prop, (∀ H', Nx H' → ∃ m', m' < m ∧ W (i + 1) m' H') ∧ ∀ x H', J.yld i H x H' → ∀ Y, Blk X scope Y → wpG Y tg x (L2.wipe σ (own.map (·.2))) H' fun σ2 H2 => L2.wipe σ2 (own.map (·.2)) = L2.wipe σ (own.map (·.2)) ∧ ∀ Y, Blk X scope Y → wpTs Y ifs σ2 H2 fun b H3 =>
        if b = true then ∀ Y, Blk X scope Y → wpE Y elt σ2 H3 fun y H4 => ∃ acc, H4 D = some (.lst acc) ∧ acc.length < sizeLine ∧ Nx (upd H4 D (.lst (acc ++ [y]))) else Nx H3) := by
  intro D hD
  have o1 := Out.refl cf1
  obtain ⟨_, hBD, hHD, hqD⟩ := o1.newH (o := .lst []) hD
  -- the state ahead of turn i
  refine ⟨fun i m H' => m = xs.length - i ∧ i ≤ xs.length ∧ ∃ B' acc ds, Cfg X.K C q (n + i * (k1 + k2)) env cs B' σ H' ∧ H' D = some (.lst acc) ∧ B' D = none ∧ DeAll X.K C B' ds acc ∧ Sel Pt Pe i ds ∧ Nw B1 H1 B' ∧ (∀ a o, q ≠ some a → a ≠ D → H1 a = some o → H' a = some o), ⟨xs.length, rfl, Nat.zero_le _, B1, [], [], ?_, upd_same, hBD, rfl, .nil, Nw.refl _ _, fun a o _ hd e => by rw [upd_ne hd]; exact e⟩, ?_⟩
  · rw [Nat.zero_mul, Nat.add_zero]
    exact cf1.after (o1.bs.same (Ex.new hD))
  rintro i m H' ⟨rfl, hi', B', acc, ds, cf', hD', hBD', hda, hsel, hnw, hk⟩
  have exB : Ex B1 B' := hnw.ex
  by_cases hlt : i < xs.length
  · refine .inr ⟨?_, fun H'' => i + 1 ≤ xs.length ∧ ∃ B' acc ds, Cfg X.K C q (n + (i + 1) * (k1 + k2)) env cs B' σ H'' ∧ H'' D = some (.lst acc) ∧ B' D = none ∧ DeAll X.K C B' ds acc ∧ Sel Pt Pe (i + 1) ds ∧ Nw B1 H1 B' ∧ (∀ a o, q ≠ some a → a ≠ D → H1 a = some o → H'' a = some o), fun H'' ⟨h1, h2⟩ => ⟨xs.length - (i + 1), by omega, rfl, h1, h2⟩, ?_⟩
    · have hx : xs[i]? = some xs[i] := List.getElem?_eq_getElem hlt
      exact jok.go i _ B' H' hx exB cf'.ex
    intro x H2 hy
    have hx : xs[i]? = some xs[i] := List.getElem?_eq_getElem hlt
    have hmul : (i + 1) * (k1 + k2) ≤ xs.length * (k1 + k2) := Nat.mul_le_mul_right _ hlt
    have e1 : (i + 1) * (k1 + k2) = i * (k1 + k2) + (k1 + k2) := Nat.succ_mul _ _
    obtain ⟨B2, hde, o2⟩ := jok.yld i _ _ B' H' x H2 hx exB cf'.bs hy
    intro Y hY
    have hYK : Y.K = X.K := by
      obtain ⟨s, H, A, cl, fp, rfl⟩ := hY
      rfl
    have hde' : De Y.K C B2 xs[i] x := by rw [hYK]; exact hde
    refine hg Y hY i _ hx _ B2 _ H2 x o2.bs hde' _ fun ws B3 H3 hws o3 => ⟨wipe_setS hsl, ?_⟩
    rw [hYK] at hws
    have o23 := o2.trans o3
    have cf3 : Cfg X.K C q (n + i * (k1 + k2)) (setE (wipeE env (own.map (·.2))) sl (gs i)) cs B3 (setS (L2.wipe σ (own.map (·.2))) sl ws) H3 :=
      ⟨Sg.sets ((cf'.sg.mono o23.nw.ex).wipe _) hws, o3.ex, o3.pl, (cf'.after o23).cl⟩
    intro Z hZ
    have hZK : Z.K = X.K := by
      obtain ⟨s, H, A, cl, fp, rfl⟩ := hZ
      rfl
    refine ht Z hZ i _ hx _ B3 _ H3 (by rw [hZK]; exact cf3) (by omega) _ fun b B4 H4 pb o4 => ?_
    have o24 := o23.trans o4
    -- what a step leaves to the list and the rest
    have keepD : ∀ {m : Nat} {Bz Hz : Hp}, Out q m B' H' Bz Hz → Hz D = some (.lst acc) ∧ Bz D = none ∧ Nw B1 H1 Bz ∧ ∀ a o, q ≠ some a → a ≠ D → H1 a = some o → Hz a = some o := fun {m Bz Hz} u =>
      ⟨u.eo D _ hqD hD', u.nw.new D (by rw [hD']; exact fun z => by cases z) hBD', ⟨exB.trans u.nw.ex, fun a h1 h2 => by
        by_cases z : a = D
        · rw [z] at h1; exact absurd hD h1
        · refine u.nw.new a (fun h3 => ?_) (hnw.new a h1 h2)
          cases hz : H1 a with
          | none => exact h1 hz
          | some o =>
            by_cases hq : q = some a
            · exact cf'.pl.there hq h3
            · rw [hk a o hq z hz] at h3; cases h3⟩, fun a o h1 h2 h3 => u.eo a o h1 (hk a o h1 h2 h3)⟩
    cases b with
    | false =>
      rw [if_neg (by decide)]
      obtain ⟨k1', k2', k3', k4'⟩ := keepD o24
      refine ⟨hlt, B4, acc, ds, ?_, k1', k2', DeAll.mono o24.nw.ex _ _ hda, .skip hsel pb, k3', k4'⟩
      exact cf'.after ((o24).up (by omega) (by omega))
    | true =>
      rw [if_pos rfl]
      intro W hW
      have hWK : W.K = X.K := by
        obtain ⟨s, H, A, cl, fp, rfl⟩ := hW
        rfl
      refine he W hW i _ hx pb _ B4 _ H4 (by rw [hWK]; exact cf3.after o4) (by omega) _ fun y d B5 H5 pd hdy o5 => ?_
      rw [hWK] at hdy
      have o25 := o24.trans o5
      obtain ⟨k1', k2', k3', k4'⟩ := keepD o25
      refine ⟨acc, k1', ?_, hlt, B5, acc ++ [y], ds ++ [d], ?_, upd_same, k2', (DeAll.mono o25.nw.ex _ _ hda).snoc hdy, .take hsel pb pd, k3', fun a o h1 h2 h3 => by rw [upd_ne h2]; exact k4' a o h1 h2 h3⟩
      · have := hsel.len
        rw [hda.length]
        have hl := line63
        have : (100000 : Nat) < sizeLine := by decide
        omega
      · have cf5 := cf'.after (o25.up (m := n + (i + 1) * (k1 + k2)) (by omega) (by omega))
        refine ⟨cf5.sg, fun a o e => ?_, ⟨cf5.pl.1, fun r hr => ?_⟩, fun r es hr => ?_⟩
        · rw [upd_ne (fun z => by rw [z, k2'] at e; cases e)]
          exact cf5.ex a o e
        · obtain ⟨h1, a, b, c, h2, h3⟩ := cf5.pl.2 r hr
          exact ⟨h1, a, b, c, by rw [upd_ne (fun z => hqD (by rw [hr, z]))]; exact h2, h3⟩
        · obtain ⟨h1, h2, vs, h3, h4⟩ := cf5.cl r es hr
          refine ⟨h1, h2, vs, ?_, h4⟩
          have hrD : r ≠ D := fun z => by
            obtain ⟨_, _, vs', h3', _⟩ := cf1.cl r es hr
            rw [z, hD] at h3'
            cases h3'
          rw [upd_ne hrD]
          exact h3
  · have e : i = xs.length := by omega
    subst e
    refine .inl ⟨jok.stop B' H' exB cf'.ex, hQ D acc ds B' H' hsel hD' hBD' hHD hqD hda ?_⟩
    have kp := o1.kept
    refine ⟨o1.nw.trans kp hnw, cf'.ex, fun a o h1 h2 => ?_, cf'.pl⟩
    have h3 := o1.eo a o h1 h2
    exact hk a o h1 (fun z => by rw [z, hD] at h3; cases h3) h3
theorem Out.none_of {n : Nat} {B H B1 H1 : Hp} {p : Addr} (o : Out q n B H B1 H1) (h : H1 p = none) (hq : q ≠ some p) : H p = none := by
  cases z : H p with
  | none => rfl
  | some u =>
    have := o.eo p u hq z
    rw [h] at this
    cases this
/-- [elt for tg in iter if ..]: the block's own slots (own) are forgotten, the target's are set -/
theorem lr_lc (hi : ID X C q tg iter env cs xs) (hsl : ∀ i ∈ sl, i ∈ own.map (·.2)) (hxs : xs.length ≤ 100000)
    (hg : ∀ Y, Blk X scope Y → ∀ j x, xs[j]? = some x → GD Y C q tg sl x (gs j))
    (ht : ∀ Y, Blk X scope Y → ∀ j x, xs[j]? = some x → TS1 Y C q k1 ifs (setE (wipeE env (own.map (·.2))) sl (gs j)) cs (Pt j))
    (he : ∀ Y, Blk X scope Y → ∀ j x, xs[j]? = some x → Pt j true → EM Y C q k2 elt (setE (wipeE env (own.map (·.2))) sl (gs j)) cs (Pe j)) : ENt X C (LcR X scope elt tg iter ifs own) q (xs.length * (k1 + k2)) env cs (Sel Pt Pe xs.length) := fun n B σ H cf hn Q hQ =>
  hi n B σ H cf (by omega) _ fun J B1 H1 jok o1 => lr_body hsl hxs hg ht he (cf.after o1) hn jok Q fun p vs ds B2 H2 a1 a2 a3 a4 a5 a6 a7 => hQ p vs ds B2 H2 a1 a2 a3 (o1.none_of a4 a5) a5 a6 (o1.trans a7)
end
end Cf

/-! Cf9: statements. -/
namespace Cf
open PySem PySem.Spec PyProof.Rows L2

/-- what has been kept since the entry (B0, H0): r is the one list of the caller's that may change -/
structure Kp (r : Option Addr) (B0 H0 B H : Hp) : Prop where
  nw : Nw B0 H0 B
  eo : ExO r H0 H
def CsOk (r : Option Addr) (H0 : Hp) (cs : Cs) : Prop := ∀ p ds, cs = some (p, ds) → r = some p ∨ H0 p = none
section
variable (X : Cx) (C : Addr) (q r : Option Addr) (B0 H0 : Hp) (N : Nat) (Bm : Hp)
/-- the states at data -/
def At (n : Nat) (env : En) (cs : Cs) (σ : L2.St) (H : Hp) : Prop := n ≤ N ∧ ∃ B, Cfg X.K C q n env cs B σ H ∧ Kp r B0 H0 B H ∧ CsOk r H0 cs ∧ Ex Bm B
/-- the statements run from these states to D -/
def SG (n : Nat) (env : En) (cs : Cs) (sts : List Stmt) (D : Ends) : Prop := ∀ σ H, At X C q r B0 H0 N Bm n env cs σ H → wpB X sts D σ H
/-- D takes an answer of P -/
def Rt (P : Dt → Prop) (D : Ends) : Prop := ∀ v d n B H, P d → De X.K C B d v → n ≤ N → Ex B H → Kp r B0 H0 B H → Pq q n B H → D.rt v H
end
/-- the rule's standing facts: q is none or r, at most LIM -/
structure SOk (X : Cx) (q r : Option Addr) (N : Nat) : Prop where
  qr : q = none ∨ q = r
  lim : N ≤ LIM
  calm : X.calm = true
  nd : X.N.Nodup
section
variable {X : Cx} {C : Addr} {q r : Option Addr} {B0 H0 B H B2 H2 Bm : Hp} {N n k : Nat} {env : En} {cs : Cs} {σ : L2.St} {sts rest : List Stmt} {st : Stmt} {D : Ends}
theorem Kp.kept (kp : Kp r B0 H0 B H) (h : ∀ p, r = some p → H p ≠ none) : ∀ a, H0 a ≠ none → H a ≠ none := fun a ha => by
  by_cases e : r = some a
  · exact h a e
  · cases z : H0 a with
    | none => exact absurd z ha
    | some o => rw [kp.eo a o e z]; exact fun z => by cases z
theorem ExO.of {q r : Option Addr} {H H2 : Hp} (h : q = none ∨ q = r) (e : ExO q H H2) : ExO r H H2 := fun a o ha he => by
  rcases h with rfl | rfl
  · exact e a o (fun z => by cases z) he
  · exact e a o ha he
/-- a step's leavings added -/
theorem Kp.out (S : SOk X q r N) (kp : Kp r B0 H0 B H) (hr : ∀ p, r = some p → H p ≠ none) (o : Out q n B H B2 H2) : Kp r B0 H0 B2 H2 :=
  ⟨kp.nw.trans (kp.kept hr) o.nw, kp.eo.trans (o.eo.of S.qr)⟩
/-- r's list lies there: it is the pool or the cell -/
def Rok (q r : Option Addr) (cs : Cs) : Prop := r = none ∨ q = r ∨ ∃ p ds, cs = some (p, ds) ∧ r = some p
theorem Rok.there {K : PySem.W.Frag} (h : Rok q r cs) (cf : Cfg K C q n env cs B σ H) : ∀ p, r = some p → H p ≠ none := fun p e => by
  rcases h with h | h | ⟨pc, ds, h1, h2⟩
  · rw [h] at e; cases e
  · exact cf.pl.there (h.trans e)
  · rw [h2] at e
    cases e
    obtain ⟨_, _, vs, h3, _⟩ := cf.cl _ ds h1
    rw [h3]
    exact fun z => by cases z
theorem sg_mono_n {n' : Nat} (h : SG X C q r B0 H0 N Bm n' env cs sts D) (hn : n ≤ n') (hN : n' ≤ N) (hL : N ≤ LIM) : SG X C q r B0 H0 N Bm n env cs sts D := fun σ H ⟨_, B, cf, kp, co, em⟩ =>
  h σ H ⟨hN, B, ⟨cf.sg, cf.ex, cf.pl.up hn (Nat.le_trans hN hL), cf.cl⟩, kp, co, em⟩
/-- the end of a block -/
theorem sg_nil (h : ∀ σ H, At X C q r B0 H0 N Bm n env cs σ H → D.nx σ H) : SG X C q r B0 H0 N Bm n env cs [] D := fun σ H a => wpB_of pss_nil (h σ H a)
theorem sg_back (h : SG X C q r B0 H0 N Bm n env cs rest D) : SG X C q r B0 H0 N Bm n env cs [] { D with nx := wpB X rest D } := sg_nil h
/-- one statement, by its own rule -/
theorem sg_st {t : TS} (hp : PS X st t) (h : ∀ σ H, At X C q r B0 H0 N Bm n env cs σ H → t { D with nx := wpB X rest D } σ H) : SG X C q r B0 H0 N Bm n env cs (st :: rest) D := fun σ H a =>
  wpB_of (pss_cons hp wpB_pss) (h σ H a)
/-- e, then what takes its value -/
theorem sg_val {e : Expr} {P : Dt → Prop} {t : V → Hp → Prop} (S : SOk X q r N) (hr : Rok q r cs) (he : EM X C q k e env cs P) (hn : n + k ≤ N) (a : At X C q r B0 H0 N Bm n env cs σ H)
    (h : ∀ v d B2 H2, P d → De X.K C B2 d v → Cfg X.K C q (n + k) env cs B2 σ H2 → Kp r B0 H0 B2 H2 → CsOk r H0 cs → Ex Bm B2 → t v H2) : wpE X e σ H t := by
  obtain ⟨_, B, cf, kp, co, em⟩ := a
  exact he n B σ H cf (Nat.le_trans hn S.lim) _ fun v d B2 H2 p de o => h v d B2 H2 p de (cf.after o) (kp.out S (hr.there cf) o) co (em.trans o.nw.ex)
section
variable {e : Expr} {P : Dt → Prop} {x : PySem.Str} {pos pos' : Pos} {i : Nat}
/-- x = e -/
theorem sg_set (S : SOk X q r N) (i : Nat) (hr : Rok q r cs) (he : EM X C q k e env cs P) (hn : n + k ≤ N) (h : ∀ d, P d → SG X C q r B0 H0 N Bm (n + k) (env.set i (some d)) cs rest D)
    (hi : X.N[i]? = some x := by rfl) (hx : Loc X.env.scope x := by first | exact Or.inl rfl | exact Or.inr rfl) (hs : swapsWith e (some (.Name x pos')) pos.line X.env = pure false := by rfl)
    (hf : X.fn x = true ∨ X.env.scope.names.lookup x = some .local := by first | exact .inl rfl | exact .inr rfl) : SG X C q r B0 H0 N Bm n env cs (.Assign [.Name x pos'] e pos :: rest) D :=
  sg_st (ps_set S.nd hi hx wpE_pe hs hf) fun σ H a => sg_val S hr he hn a fun v d B2 H2 p de cf kp co em => h d p _ _ ⟨hn, B2, ⟨cf.sg.set de i, cf.ex, cf.pl, cf.cl⟩, kp, co, em⟩
/-- return e -/
theorem sg_ret (S : SOk X q r N) (hr : Rok q r cs) (he : EM X C q k e env cs P) (hn : n + k ≤ N) (hD : Rt X C q r B0 H0 N P D) : SG X C q r B0 H0 N Bm n env cs (.Return (some e) pos :: rest) D :=
  sg_st (ps_ret wpE_pe) fun σ H a => sg_val S hr he hn a fun v d B2 H2 p de cf kp _ _ => hD v d _ B2 H2 p de hn cf.ex kp cf.pl
/-- if c: a else: b -/
theorem sg_if {c : Expr} {a b : List Stmt} {PB : Bool → Prop} (S : SOk X q r N) (hr : Rok q r cs) (hc : TM X C q k c env cs PB) (hn : n + k ≤ N) (ha : PB true → SG X C q r B0 H0 N Bm (n + k) env cs a { D with nx := wpB X rest D })
    (hb : PB false → SG X C q r B0 H0 N Bm (n + k) env cs b { D with nx := wpB X rest D }) : SG X C q r B0 H0 N Bm n env cs (.If c a b pos :: rest) D :=
  sg_st (ps_if wpT_pt wpB_pss wpB_pss) fun σ H ⟨h1, B, cf, kp, co, em⟩ => hc n B σ H cf (Nat.le_trans hn S.lim) _ fun i B2 H2 p o => by
    have at2 : At X C q r B0 H0 N Bm (n + k) env cs σ H2 := ⟨hn, B2, cf.after o, kp.out S (hr.there cf) o, co, em.trans o.nw.ex⟩
    cases i with
    | true => exact (if_pos rfl).mpr (ha p σ H2 at2)
    | false => exact (if_neg (by decide)).mpr (hb p σ H2 at2)
/-- a test whose answer is known -/
theorem sg_ifT {c : Expr} {a b : List Stmt} (S : SOk X q r N) (hr : Rok q r cs) (hc : TD X C q c env cs true) (ha : SG X C q r B0 H0 N Bm n env cs a { D with nx := wpB X rest D }) : SG X C q r B0 H0 N Bm n env cs (.If c a b pos :: rest) D := fun σ H hA =>
  sg_if (k := 0) S hr hc hA.1 (fun _ => ha) (fun z => by cases z) σ H hA
theorem sg_ifF {c : Expr} {a b : List Stmt} (S : SOk X q r N) (hr : Rok q r cs) (hc : TD X C q c env cs false) (hb : SG X C q r B0 H0 N Bm n env cs b { D with nx := wpB X rest D }) : SG X C q r B0 H0 N Bm n env cs (.If c a b pos :: rest) D := fun σ H hA =>
  sg_if (k := 0) S hr hc hA.1 (fun z => by cases z) (fun _ => hb) σ H hA
theorem sg_ifD {c : Expr} {a b : List Stmt} {i : Bool} (S : SOk X q r N) (hr : Rok q r cs) (hc : TD X C q c env cs i) (ha : i = true → SG X C q r B0 H0 N Bm n env cs a { D with nx := wpB X rest D }) (hb : i = false → SG X C q r B0 H0 N Bm n env cs b { D with nx := wpB X rest D }) :
    SG X C q r B0 H0 N Bm n env cs (.If c a b pos :: rest) D := fun σ H hA => sg_if (k := 0) S hr hc hA.1 (fun z => ha z.symm) (fun z => hb z.symm) σ H hA
/-- a, b = e -/
theorem sg_tgt {tg : Expr} {sl : List Nat} (S : SOk X q r N) (hr : Rok q r cs) (he : EM X C q k e env cs P) (hn : n + k ≤ N) (hg : ∀ d, P d → ∃ ds, GD X C q tg sl d ds ∧ SG X C q r B0 H0 N Bm (n + k) (setE env sl ds) cs rest D)
    (hs : swapsWithSole [tg] e pos.line X.env = pure false := by rfl) (hw : swappedStores [tg] e X.env = pure none := by rfl) (h1 : (assignEach [tg] X.env).map (·.2) = [assign tg X.env] := by rfl) : SG X C q r B0 H0 N Bm n env cs (.Assign [tg] e pos :: rest) D :=
  sg_st (ps_asg wpE_pe wpG_pg hs hw h1) fun σ H a => sg_val S hr he hn a fun v d B2 H2 p de cf kp co em => by
    obtain ⟨ds, g, h⟩ := hg d p
    exact g _ B2 σ H2 v cf.bs de _ fun ws B3 H3 hws o => h _ _ ⟨hn, B3, ⟨(cf.sg.mono o.nw.ex).sets hws, o.ex, o.pl, (cf.after o).cl⟩, kp.out S (hr.there cf) o, co, em.trans o.nw.ex⟩
/-- for tg in iter: body -/
theorem sg_for {tg iter : Expr} {body : List Stmt} {xs : List Dt} {sl : List Nat} (S : SOk X q r N) (hr : Rok q r cs) (Φ : Nat → Nat → En → Cs → Prop) (hi : ID X C q tg iter env cs xs) (h0 : Φ 0 n env cs)
    (hR : ∀ j n' env' cs', Φ j n' env' cs' → Rok q r cs')
    (hb : ∀ Bm j x, xs[j]? = some x → ∀ n' env' cs', Φ j n' env' cs' → ∃ ds, GD X C q tg sl x ds ∧
      SG X C q r B0 H0 N Bm n' (setE env' sl ds) cs' body { D with nx := fun σ H => ∃ n2 e2 c2, Φ (j + 1) n2 e2 c2 ∧ At X C q r B0 H0 N Bm n2 e2 c2 σ H, ct := fun σ H => ∃ n2 e2 c2, Φ (j + 1) n2 e2 c2 ∧ At X C q r B0 H0 N Bm n2 e2 c2 σ H, bk := wpB X rest D })
    (hd : ∀ n' env' cs', Φ xs.length n' env' cs' → SG X C q r B0 H0 N Bm n' env' cs' rest D) (hp : PassesOwn (model X.prog X.w) X.A X.env X.xe := by exact .never) (hs : ∀ x, foldedSetIterable iter X.env x = pure x := by intro _; rfl) :
    SG X C q r B0 H0 N Bm n env cs (.For tg iter body [] pos :: rest) D :=
  sg_st (ps_for hp S.calm wpI_pi wpG_pg wpB_pss hs) fun σ H ⟨h1, B, cf, kp, co, em⟩ => hi n B σ H cf (Nat.le_trans h1 S.lim) _ fun J B1 H1 jok o1 => by
    have kp1 := kp.out S (hr.there cf) o1
    refine ⟨fun i m σ H => m = xs.length - i ∧ i ≤ xs.length ∧ ∃ n' env' cs', Φ i n' env' cs' ∧ At X C q r B0 H0 N B1 n' env' cs' σ H, ⟨xs.length, rfl, Nat.zero_le _, n, env, cs, h0, h1, B1, cf.after o1, kp1, co, Ex.refl _⟩, ?_⟩
    rintro i m σ' H' ⟨rfl, hi', n', env', cs', hΦ, hn', B', cf', kp', co', em'⟩
    by_cases hlt : i < xs.length
    · have hx : xs[i]? = some xs[i] := List.getElem?_eq_getElem hlt
      refine .inr ⟨jok.go i _ B' H' hx em' cf'.ex, fun σ2 H2 => i + 1 ≤ xs.length ∧ ∃ n2 e2 c2, Φ (i + 1) n2 e2 c2 ∧ At X C q r B0 H0 N B1 n2 e2 c2 σ2 H2, fun σ2 H2 ⟨a1, a2⟩ => ⟨xs.length - (i + 1), by omega, rfl, a1, a2⟩, fun x H2 y => ?_⟩
      obtain ⟨B2, hde, o2⟩ := jok.yld i _ _ B' H' x H2 hx em' cf'.bs y
      obtain ⟨ds, g, h⟩ := hb B1 i _ hx n' env' cs' hΦ
      refine g _ B2 σ' H2 x o2.bs hde _ fun ws B3 H3 hws o3 => ?_
      have o := o2.trans o3
      have e : (fun (σ2 : L2.St) (H2 : Hp) => i + 1 ≤ xs.length ∧ ∃ n2 e2 c2, Φ (i + 1) n2 e2 c2 ∧ At X C q r B0 H0 N B1 n2 e2 c2 σ2 H2) = fun σ2 H2 => ∃ n2 e2 c2, Φ (i + 1) n2 e2 c2 ∧ At X C q r B0 H0 N B1 n2 e2 c2 σ2 H2 := by
        funext σ2 H2
        exact propext ⟨fun z => z.2, fun z => ⟨hlt, z⟩⟩
      rw [e]
      exact h _ _ ⟨hn', B3, ⟨(cf'.sg.mono o.nw.ex).sets hws, o.ex, o.pl, (cf'.after o).cl⟩, kp'.out S ((hR i n' env' cs' hΦ).there cf') o, co', em'.trans o.nw.ex⟩
    · have e : i = xs.length := by omega
      subst e
      exact .inl ⟨jok.stop B' H' em' cf'.ex, hd n' env' cs' hΦ σ' H' ⟨hn', B', cf', kp', co', (em.trans o1.nw.ex).trans em'⟩⟩
/-- x = a new list that will change -/
theorem sg_new {PL : List Dt → Prop} (S : SOk X q r N) (i : Nat) (hr : Rok q r none) (he : EN X C q k e env none PL) (hn : n + k ≤ N) (h : ∀ p ds, PL ds → SG X C q r B0 H0 N Bm (n + k) (env.set i (some (.cell p))) (some (p, ds)) rest D)
    (hi : X.N[i]? = some x := by rfl) (hx : Loc X.env.scope x := by first | exact Or.inl rfl | exact Or.inr rfl) (hs : swapsWith e (some (.Name x pos')) pos.line X.env = pure false := by rfl)
    (hf : X.fn x = true ∨ X.env.scope.names.lookup x = some .local := by first | exact .inl rfl | exact .inr rfl) : SG X C q r B0 H0 N Bm n env none (.Assign [.Name x pos'] e pos :: rest) D :=
  sg_st (ps_set S.nd hi hx wpE_pe hs hf) fun σ H ⟨h1, B, cf, kp, co, em⟩ => he n B σ H cf (Nat.le_trans hn S.lim) _ fun p vs ds B2 H2 p1 e1 e2 e3 e4 e5 o => by
    have cf2 := cf.after o
    have h0 : H0 p = none := by
      cases z : H0 p with
      | none => rfl
      | some o' =>
        by_cases e : r = some p
        · exact absurd e3 (hr.there cf p e)
        · have := kp.eo p o' e z
          rw [e3] at this
          cases this
    refine h p ds p1 _ _ ⟨hn, B2, ⟨cf2.sg.set (show De X.K C B2 (.cell p) (.ref p) from rfl) i, cf2.ex, cf2.pl, fun p' ds' z => ?_⟩, kp.out S (hr.there cf) o, fun p' ds' z => ?_, em.trans o.nw.ex⟩
    · cases z
      exact ⟨e4, e2, vs, e1, e5⟩
    · cases z
      exact .inr h0
/-- the list is changed no more -/
theorem sg_freeze {p : Addr} {ds : List Dt} (i : Nat) (hc : env[i]? = some (some (.cell p))) (hq : q = r) (h : SG X C q r B0 H0 N Bm n (env.set i (some (.lst ds))) none sts D) : SG X C q r B0 H0 N Bm n env (some (p, ds)) sts D := fun σ H ⟨h1, B, cf, kp, co, em⟩ => by
  obtain ⟨e1, e2, vs, e3, e4⟩ := cf.cl p ds rfl
  have h0 : H0 p = none := (co p ds rfl).resolve_left (hq ▸ e1)
  obtain ⟨v, g1, g2⟩ := cf.sg.get hc
  have ex2 := Ex.new (o := .lst vs) e2
  have e : σ.set i (some v) = σ := by
    apply List.ext_getElem?
    intro j
    rw [List.getElem?_set]
    by_cases z : i = j
    · subst z
      rw [if_pos rfl, g1]
      have := (List.getElem?_eq_some_iff.mp g1).1
      rw [if_pos this]
    · rw [if_neg z]
  refine h σ H ⟨h1, upd B p (.lst vs), ⟨?_, fun a o z => ?_, ⟨cf.pl.1, fun u hu => ?_⟩, fun _ _ z => (by cases z)⟩, ⟨⟨kp.nw.ex.trans ex2, fun a ha hb => ?_⟩, kp.eo⟩, fun _ _ z => (by cases z), em.trans ex2⟩
  · rw [← e]
    refine (cf.sg.mono ex2).set ?_ i
    rw [show v = V.ref p from g2]
    exact de_newL e2 e4
  · by_cases y : a = p
    · subst y; rw [upd_same] at z; cases z; exact e3
    · rw [upd_ne y] at z; exact cf.ex a o z
  · obtain ⟨k1, a, b, c, k2, k3⟩ := cf.pl.2 u hu
    refine ⟨?_, a, b, c, k2, k3⟩
    rw [upd_ne (fun z => e1 (by rw [hu, z]))]
    exact k1
  · rw [upd_ne (fun z => ha (by rw [z]; exact h0))]
    exact kp.nw.new a ha hb
end
end
end Cf

/-! Cf10: the list that changes: read, appended to, set; a def's contract from its body. -/
namespace Cf
open PySem PySem.Spec PyProof.Rows L2

theorem De.scl {K : PySem.W.Frag} {C : Addr} {B B' : Hp} {d : Dt} {v : V} (s : scl d = true) (h : De K C B d v) : De K C B' d v := by
  cases d with
  | non => exact h
  | bl b => exact h
  | int i => exact h
  | str s => exact h
  | _ => cases s
section
variable {X : Cx} {C : Addr} {q r : Option Addr} {B0 H0 B H B2 H2 Bm : Hp} {N n k : Nat} {env : En} {cs : Cs} {σ : L2.St} {sts rest : List Stmt} {st : Stmt} {D : Ends} {e : Expr} {P : Dt → Prop} {x : PySem.Str} {pos pos' : Pos} {p : Addr} {ds : List Dt} {d : Dt}
/-- the list that changes, for a while told to the base -/
theorem Cfg.view {K : PySem.W.Frag} (i : Nat) (hc : env[i]? = some (some (.cell p))) (cf : Cfg K C q n env (some (p, ds)) B σ H) : ∃ vs, Cfg K C q n (env.set i (some (.lst ds))) none (upd B p (.lst vs)) σ H ∧ B p = none := by
  obtain ⟨e1, e2, vs, e3, e4⟩ := cf.cl p ds rfl
  obtain ⟨v, g1, g2⟩ := cf.sg.get hc
  have ex2 := Ex.new (o := .lst vs) e2
  have e : σ.set i (some v) = σ := by
    apply List.ext_getElem?
    intro j
    rw [List.getElem?_set]
    by_cases z : i = j
    · subst z
      rw [if_pos rfl, g1, if_pos (List.getElem?_eq_some_iff.mp g1).1]
    · rw [if_neg z]
  refine ⟨vs, ⟨?_, fun a o z => ?_, ⟨cf.pl.1, fun u hu => ?_⟩, fun _ _ z => (by cases z)⟩, e2⟩
  · rw [← e]
    refine (cf.sg.mono ex2).set ?_ i
    rw [show v = V.ref p from g2]
    exact de_newL e2 e4
  · by_cases y : a = p
    · subst y; rw [upd_same] at z; cases z; exact e3
    · rw [upd_ne y] at z; exact cf.ex a o z
  · obtain ⟨k1, a, b, c, k2, k3⟩ := cf.pl.2 u hu
    refine ⟨?_, a, b, c, k2, k3⟩
    rw [upd_ne (fun z => e1 (by rw [hu, z]))]
    exact k1
theorem Cfg.unview {K : PySem.W.Frag} {m : Nat} {o : HO} (cf : Cfg K C q n env cs B σ H) (hB : B p = none) (u : Out q m (upd B p o) H B2 H2) : Out q m B H B H2 :=
  ⟨Nw.refl _ _, (Ex.new hB).trans (u.nw.ex.trans u.ex), u.eo, u.pl.1, fun a ha => ⟨(cf.pl.2 a ha).1, (u.pl.2 a ha).2⟩⟩
theorem em_view (i : Nat) (he : EM X C q k e (env.set i (some (.lst ds))) none P) (hs : ∀ d, P d → scl d = true) (hc : env[i]? = some (some (.cell p)) := by rfl) : EM X C q k e env (some (p, ds)) P := fun n B σ H cf hn Q hQ => by
  obtain ⟨vs, cf', hB⟩ := cf.view i hc
  exact he n _ σ H cf' hn Q fun v d B2 H2 pd de o => hQ v d B H2 pd (De.scl (hs d pd) de) (cf.unview hB o)
theorem ed_view (i : Nat) (he : ED X C q e (env.set i (some (.lst ds))) none d) (hs : scl d = true) (hc : env[i]? = some (some (.cell p)) := by rfl) : ED X C q e env (some (p, ds)) d := em_view i he (fun _ z => z ▸ hs) hc
theorem tm_view {PB : Bool → Prop} (i : Nat) (he : TM X C q k e (env.set i (some (.lst ds))) none PB) (hc : env[i]? = some (some (.cell p)) := by rfl) : TM X C q k e env (some (p, ds)) PB := fun n B σ H cf hn Q hQ => by
  obtain ⟨vs, cf', hB⟩ := cf.view i hc
  exact he n _ σ H cf' hn Q fun b B2 H2 pd o => hQ b B H2 pd (cf.unview hB o)
/-- what is walked, told by ints -/
theorem id_viewR {tg a : Expr} {rp : Pos} {j : Int} (hm : X.mg "range" = none) (i : Nat) (he : ED X C q a (env.set i (some (.lst ds))) none (.int j)) (hj : -(2 ^ 62) ≤ j ∧ j < 2 ^ 62) (hc : env[i]? = some (some (.cell p)) := by rfl) (hg : Gl X "range" := by rfl)
    (hs : starEach [a] X.env = [(false, eval a X.env)] := by rfl) : ID X C q tg (.Call (.Name "range" rp) [a] [] pos) env (some (p, ds)) (rngD j.toNat) := id_range1 hm (ed_view i he rfl hc) hj hg hs

/-! ### the list changes -/
theorem Cfg.cellUpd {K : PySem.W.Frag} {ds' : List Dt} {vs' : List V} (cf : Cfg K C q n env (some (p, ds)) B σ H) (h : DeAll K C B ds' vs') : Cfg K C q n env (some (p, ds')) B σ (upd H p (.lst vs')) := by
  obtain ⟨e1, e2, vs, e3, e4⟩ := cf.cl p ds rfl
  refine ⟨cf.sg, fun a o z => ?_, ⟨cf.pl.1, fun u hu => ?_⟩, fun p' es z => ?_⟩
  · rw [upd_ne (fun y => by rw [y, e2] at z; cases z)]
    exact cf.ex a o z
  · obtain ⟨k1, a, b, c, k2, k3⟩ := cf.pl.2 u hu
    exact ⟨k1, a, b, c, by rw [upd_ne (fun z => e1 (by rw [hu, z]))]; exact k2, k3⟩
  · cases z
    exact ⟨e1, e2, vs', upd_same, h⟩
theorem Kp.cellUpd {vs' : List V} (kp : Kp r B0 H0 B H) (co : CsOk r H0 (some (p, ds))) : Kp r B0 H0 B (upd H p (.lst vs')) :=
  ⟨kp.nw, fun a o h1 h2 => by
    rcases co p ds rfl with e | e
    · rw [upd_ne (fun z => h1 (by rw [e, z]))]; exact kp.eo a o h1 h2
    · rw [upd_ne (fun z => by rw [z, e] at h2; cases h2)]; exact kp.eo a o h1 h2⟩
theorem CsOk.to {ds' : List Dt} (co : CsOk r H0 (some (p, ds))) : CsOk r H0 (some (p, ds')) := fun a es z => by
  cases z
  exact co p ds rfl
/-- x.append(e) -/
theorem sg_append {apos cpos : Pos} (S : SOk X q r N) (i : Nat) (hr : Rok q r (some (p, ds))) (he : EM X C q k e env (some (p, ds)) P) (hn : n + k ≤ N) (hl : ds.length < 100000) (h : ∀ d, P d → SG X C q r B0 H0 N Bm (n + k) env (some (p, ds ++ [d])) rest D)
    (hc : env[i]? = some (some (.cell p)) := by rfl) (hi : X.N[i]? = some x := by rfl) (hv : Vis X.env.scope x := by first | exact Or.inl rfl | exact Or.inr (Or.inl rfl) | exact Or.inr (Or.inr rfl)) (hd : (x == ("__debug__" : PySem.Str)) = false := by decide) (hcd : (x == ("__classdict__" : PySem.Str)) = false := by decide)
    (hsw : swapsWith (.Call (.Attribute (.Name x pos') "append" apos) [e] [] cpos) none pos.line X.env = pure false := by rfl) (hbase : attributeBase (.Name x pos') "append" X.env (eval (.Name x pos') X.env) = eval (.Name x pos') X.env := by rfl)
    (hfew : ((backTo cpos (starEach [e] X.env)).all (fun x => !x.1) && (backToKw cpos (keywordEach [] X.env)).all (fun x => x.1.isSome) && decide ([e].length + ([] : List Keyword).length + (if ([] : List Keyword).isEmpty then 0 else 1) < 30)) = true := by rfl)
    (hline : (apos.endLine == cpos.line) = true := by rfl) (hs : starEach [e] X.env = (false, eval e X.env) :: starEach [] X.env := by rfl) (hpl : (backTo cpos (starEach [] X.env)).any (·.1) = false := by rfl) :
    SG X C q r B0 H0 N Bm n env (some (p, ds)) (.Expr (.Call (.Attribute (.Name x pos') "append" apos) [e] [] cpos) pos :: rest) D :=
  sg_st (ps_expr (pe_bm PySem.F.plainAttrs_list PySem.F.slot_list_append PySem.F.type_list_append mt_append (pe_var hi hv hd hcd) (pa_cons wpE_pe pa_nil hs) hbase hfew hline hs hpl) hsw) fun σ H a => by
    obtain ⟨h1, B, cf, kp, co, em⟩ := a
    obtain ⟨v, g1, g2⟩ := cf.sg.get hc
    obtain ⟨e1, e2, vs, e3, e4⟩ := cf.cl p ds rfl
    refine ⟨v, g1, ?_, he n B σ H cf (Nat.le_trans hn S.lim) _ fun y d B2 H2 pd de o => ?_⟩
    · rw [show v = V.ref p from g2]
      exact .inl ⟨rfl, vs, SqL.of e3⟩
    · obtain ⟨f1, f2, ws, f3, f4⟩ := (cf.after o).cl p ds rfl
      refine ⟨p, ws, y, g2, rfl, f3, ?_, h d pd _ _ ⟨hn, B2, (cf.after o).cellUpd (f4.snoc de), (kp.out S (hr.there cf) o).cellUpd co, co.to, em.trans o.nw.ex⟩⟩
      have : (100000 : Nat) < sizeLine := by decide
      rw [f4.length]
      omega
/-- x[ix] = e -/
theorem sg_setIx {ix : Expr} {tpos : Pos} {j : Int} {jn : Nat} (S : SOk X q r N) (i : Nat) (hr : Rok q r (some (p, ds))) (he : EM X C q k e env (some (p, ds)) P) (hix : ED X C q ix env (some (p, ds)) (.int j)) (hj : ixN ds.length j = some jn) (hn : n + k ≤ N)
    (h : ∀ d, P d → SG X C q r B0 H0 N Bm (n + k) env (some (p, ds.set jn d)) rest D)
    (hc : env[i]? = some (some (.cell p)) := by rfl) (hi : X.N[i]? = some x := by rfl) (hv : Vis X.env.scope x := by first | exact Or.inl rfl | exact Or.inr (Or.inl rfl) | exact Or.inr (Or.inr rfl)) (hd : (x == ("__debug__" : PySem.Str)) = false := by decide) (hcd : (x == ("__classdict__" : PySem.Str)) = false := by decide)
    (ha : ∀ v, assign (.Subscript (.Name x pos') ix tpos) X.env v = (do
      let ov ← holding [v] (eval (.Name x pos') X.env)
      let iv ← holding [v, ov] (eval ix X.env)
      standAt tpos
      holding [v, ov, iv] (setItem ov iv v)
      release [v, ov, iv] []) := by intro _; rfl)
    (hs : swapsWithSole [.Subscript (.Name x pos') ix tpos] e pos.line X.env = pure false := by rfl) (hw : swappedStores [.Subscript (.Name x pos') ix tpos] e X.env = pure none := by rfl)
    (h1 : (assignEach [.Subscript (.Name x pos') ix tpos] X.env).map (·.2) = [assign (.Subscript (.Name x pos') ix tpos) X.env] := by rfl) :
    SG X C q r B0 H0 N Bm n env (some (p, ds)) (.Assign [.Subscript (.Name x pos') ix tpos] e pos :: rest) D :=
  sg_st (ps_asg wpE_pe (pg_sub (pe_var hi hv hd hcd) wpE_pe set_list ha) hs hw h1) fun σ H a => sg_val S hr he hn a fun v d B2 H2 pd de cf kp co em => by
    obtain ⟨u, g1, g2⟩ := cf.sg.get hc
    refine ⟨u, g1, hix _ B2 σ H2 cf (Nat.le_trans (Nat.add_zero _ ▸ hn) S.lim) _ fun y d' B3 H3 e1 de' o => ?_⟩
    subst e1
    obtain ⟨f1, f2, ws, f3, f4⟩ := (cf.after o).cl p ds rfl
    exact ⟨p, ws, j, jn, g2, de', f3, by rw [f4.length]; exact hj, h d pd _ _ ⟨hn, B3, (cf.after o).cellUpd (f4.set jn (De.mono o.nw.ex _ _ de)), (kp.out S (hr.there cf) o).cellUpd co, co.to, em.trans o.nw.ex⟩⟩
theorem get_list : PGet X (rIxL X.K) := by
  intro pins s σ H o i ov iv Q I ro ri h
  obtain ⟨p, xs, k, z, rfl, rfl, hq, he, q⟩ := h
  cases ro
  obtain ⟨t, rfl⟩ := ri
  obtain ⟨its, rv, pl, hz⟩ := I.list hq
  obtain ⟨j, h1, h2, h3, h4, h5⟩ := atI_get he
  obtain ⟨w, ew, rw'⟩ := rv.get h2
  have hl := rv.length
  have hn := line63
  have fin : EP X pins σ Q w s := ⟨z, H, I, rw', q⟩
  by_cases h0 : 0 ≤ k
  · have hj : k.toNat = j := by
      rw [seqIndex_of h0 h5] at h1
      exact Option.some.inj h1
    exact wpAny_getItem_list pl.isList h0 (by omega) (by rw [hj]; simpa using ew) fin
  · have hj : (k + (its.toArray.size : Int)).toNat = j := by
      rw [seqIndex_neg (by omega) h4] at h1
      rw [List.size_toArray, ← hl]
      exact Option.some.inj h1
    exact wpAny_getItem_list_neg pl.isList (by omega) (by rw [List.size_toArray] <;> omega) (by omega) (by rw [hj]; simpa using ew) fin
/-- x[ix] += e, whole numbers -/
theorem sg_augIx {ix : Expr} {tpos : Pos} {ns : List Int} {j m : Int} {jn : Nat} (S : SOk X q r N) (i : Nat) (hr : Rok q r (some (p, ns.map Dt.int))) (he : ED X C q e env (some (p, ns.map Dt.int)) (.int m)) (hix : ED X C q ix env (some (p, ns.map Dt.int)) (.int j)) (hj : ixN ns.length j = some jn)
    (h : SG X C q r B0 H0 N Bm n env (some (p, (ns.set jn (ns.getD jn 0 + m)).map Dt.int)) rest D)
    (hc : env[i]? = some (some (.cell p)) := by rfl) (hi : X.N[i]? = some x := by rfl) (hv : Vis X.env.scope x := by first | exact Or.inl rfl | exact Or.inr (Or.inl rfl) | exact Or.inr (Or.inr rfl)) (hd : (x == ("__debug__" : PySem.Str)) = false := by decide) (hcd : (x == ("__classdict__" : PySem.Str)) = false := by decide)
    (ha : ∀ ov iv new, augStore ix ov iv new = (do holding [new, ov, iv] (setItem ov iv new); release [new, ov, iv] []; pure .next) := by intros; rfl) :
    SG X C q r B0 H0 N Bm n env (some (p, ns.map Dt.int)) (.AugAssign (.Subscript (.Name x pos') ix tpos) .Add e pos :: rest) D :=
  sg_st (ps_augS (pe_var hi hv hd hcd) wpE_pe get_list wpE_pe ip_add set_list ha) fun σ H ⟨h1, B, cf, kp, co, em⟩ => by
    have hn := Nat.le_trans h1 S.lim
    obtain ⟨u, g1, g2⟩ := cf.sg.get hc
    have hjl : jn < ns.length := (ixN_seq hj).2.1
    have hat : ∀ (l : List V), l = ns.map V.int → atI l j = some (.int (ns.getD jn 0)) := fun l e => by
      unfold atI
      rw [e, List.length_map, hj]
      show (ns.map V.int)[jn]? = _
      rw [List.getElem?_map, List.getElem?_eq_getElem hjl, List.getD_eq_getElem?_getD, List.getElem?_eq_getElem hjl]
      rfl
    refine ⟨u, g1, hix n B σ H cf hn _ fun y d' B1 H1 e1 de1 o1 => ?_⟩
    subst e1
    have cf1 := cf.after o1
    have kp1 := kp.out S (hr.there cf) o1
    obtain ⟨f1, f2, ws, f3, f4⟩ := cf1.cl p _ rfl
    refine ⟨p, ws, j, _, g2, de1, SqL.of f3, hat ws f4.ints, he n B1 σ H1 cf1 hn _ fun z d' B2 H2 e2 de2 o2 => ?_⟩
    subst e2
    have cf2 := cf1.after o2
    have kp2 := kp1.out S (hr.there cf1) o2
    obtain ⟨f1', f2', ws', f3', f4'⟩ := cf2.cl p _ rfl
    refine ⟨_, _, rfl, de2, p, ws', j, jn, g2, de1, f3', by rw [f4'.length, List.length_map]; exact hj, h _ _ ⟨h1, B2, cf2.cellUpd ?_, kp2.cellUpd co, co.to, em.trans (o1.nw.ex.trans o2.nw.ex)⟩⟩
    rw [List.map_set]
    exact f4'.set jn rfl
end

/-! ### a def -/
/-- the context of a def's body -/
abbrev bX (P : Program) (w : World) (K : PySem.W.Frag) (mg : PySem.Str → Option Value) (base : Heap) (N : List PySem.Str) (qual : PySem.Str) (scope : Scope) (f : Addr) (cdv : Value) (A : Around) (outer : List Env) (s : Shared) (H : Hp) (E : XK) : Cx :=
  (cxOf CX0 P w K mg base N qual scope f cdv A outer s H E).nox
section
variable {P : Program} {w : World} {K : PySem.W.Frag} {mg : PySem.Str → Option Value} {base : Heap} {x qual : PySem.Str} {params : Arguments} {body : List Stmt} {scope : Scope} {dvs : List V} {kws : List (PySem.Str × V)} {f : Addr} {fd : FuncData} {C : Addr}
  {N ps : List PySem.Str} {lv kk : Nat} {pre : Option Addr → List Dt → Prop} {post : List Dt → Dt → Prop}
theorem fnd_ok (F : FunD K x qual params body scope dvs kws f fd) (S : FnScope N ps scope) (hl : ∀ q ds, pre q ds → ds.length = ps.length)
    (hb : ∀ (cdv : Value) (A : Around) (outer : List Env) (s : Shared) (H : Hp) (E : XK), Room lv (A.deeper (envOfC qual scope s.heap.objs.size f cdv)) → ∀ (q : Option Addr) (ds : List Dt) (n : Nat) (B0 H0 : Hp) (D : Ends), pre q ds → n + kk ≤ LIM → SOk (bX P w K mg base N qual scope f cdv A outer s H E) q q (n + kk) →
      Rt (bX P w K mg base N qual scope f cdv A outer s H E) C q q B0 H0 (n + kk) (post ds) D → Rt (bX P w K mg base N qual scope f cdv A outer s H E) C q q B0 H0 (n + kk) (post ds) { D with rt := fun v H => v = .non → ∀ σ, D.nx σ H } →
      SG (bX P w K mg base N qual scope f cdv A outer s H E) C q q B0 H0 (n + kk) B0 n (ds.map some ++ List.replicate (N.length - ps.length) none) none body D) :
    FnOk P w K mg base CX0 (lv + 1) f fd ps (SpQ K C kk pre post) := by
  refine F.ok S (fun vs H Q E h => ?_) fun cdv A outer s H vs Q E hr h => ?_
  · obtain ⟨ds, B, q, n, h1, _, _, h2, _⟩ := h
    exact h1.length.trans (hl q ds h2)
  · obtain ⟨ds, B, q, n, h1, h2, h3, h4, h5⟩ := h
    have hlen := hl q ds h4
    refine ⟨wpB (bX P w K mg base N qual scope f cdv A outer s H E) body, PSs.nox wpB_pss, hb cdv A outer s H E hr q ds n B H _ h4 h3 ⟨.inr rfl, h3, rfl, S.nd⟩ ?_ ?_ _ H ⟨Nat.le_add_right _ _, B, ⟨?_, h2.ex, h2.pl, fun _ _ z => (by cases z)⟩, ⟨Nw.refl _ _, ExO.refl _ _⟩, fun _ _ z => (by cases z), Ex.refl _⟩⟩
    · exact fun v d m B2 H2 p de hm ex kp pl => h5 v d B2 H2 p de ⟨kp.nw, ex, kp.eo, pl.up hm h3⟩
    · exact fun v d m B2 H2 p de hm ex kp pl e σ => by
        subst e
        exact h5 .non d B2 H2 p de ⟨kp.nw, ex, kp.eo, pl.up hm h3⟩
    · unfold L2.start
      rw [h1.length, hlen]
      exact Sg.start h1
end
end Cf

/-! Cf11: known branches of and, or, if. -/
namespace Cf
open PySem PySem.Spec PyProof.Rows L2
section
variable {X : Cx} {C : Addr} {q : Option Addr} {env : En} {cs : Cs} {a b c : Expr} {rest : List Expr} {i j : Bool} {pos : Pos} {d : Dt} {P : Dt → Prop} {k : Nat}
theorem TM.to {e : Expr} (h : TD X C q e env cs i) (e' : i = j) : TD X C q e env cs j := e' ▸ h
theorem wd_andF (ha : TD X C q a env cs j) (hj : j = false := by rfl) : WD X C q (.BoolOp .And (a :: b :: rest) pos) env cs false := by subst hj; exact wd_and (i2 := false) ha fun z => by cases z
theorem wd_andT (ha : TD X C q a env cs j) (hb : WD X C q (.BoolOp .And (b :: rest) pos) env cs i) (hj : j = true := by rfl) : WD X C q (.BoolOp .And (a :: b :: rest) pos) env cs i := by subst hj; exact wd_and ha fun _ => hb
theorem wd_orT (ha : TD X C q a env cs j) (hj : j = true := by rfl) : WD X C q (.BoolOp .Or (a :: b :: rest) pos) env cs true := by subst hj; exact wd_or (i2 := false) ha fun z => by cases z
theorem wd_orF (ha : TD X C q a env cs j) (hb : WD X C q (.BoolOp .Or (b :: rest) pos) env cs i) (hj : j = false := by rfl) : WD X C q (.BoolOp .Or (a :: b :: rest) pos) env cs i := by subst hj; exact wd_or ha fun _ => hb
theorem ed_andF (ha : ED X C q a env cs (.bl j)) (hj : j = false := by rfl) : ED X C q (.BoolOp .And (a :: b :: rest) pos) env cs (.bl false) := by subst hj; exact ed_and (i2 := false) ha fun z => by cases z
theorem ed_andT (ha : ED X C q a env cs (.bl j)) (hb : ED X C q (.BoolOp .And (b :: rest) pos) env cs (.bl i)) (hj : j = true := by rfl) : ED X C q (.BoolOp .And (a :: b :: rest) pos) env cs (.bl i) := by subst hj; exact ed_and ha fun _ => hb
theorem ed_orT (ha : ED X C q a env cs (.bl j)) (hj : j = true := by rfl) : ED X C q (.BoolOp .Or (a :: b :: rest) pos) env cs (.bl true) := by subst hj; exact ed_or (i2 := false) ha fun z => by cases z
theorem ed_orF (ha : ED X C q a env cs (.bl j)) (hb : ED X C q (.BoolOp .Or (b :: rest) pos) env cs (.bl i)) (hj : j = false := by rfl) : ED X C q (.BoolOp .Or (a :: b :: rest) pos) env cs (.bl i) := by subst hj; exact ed_or ha fun _ => hb
theorem ed_ifT (hc : TD X C q c env cs i) (ha : ED X C q a env cs d) (hi : i = true := by rfl) : ED X C q (.IfExp c a b pos) env cs d := by
  subst hi
  exact ed_if (d2 := d) hc (fun _ => ha) fun z => by cases z
theorem ed_ifF (hc : TD X C q c env cs i) (hb : ED X C q b env cs d) (hi : i = false := by rfl) : ED X C q (.IfExp c a b pos) env cs d := by
  subst hi
  exact ed_if (d1 := d) hc (fun z => by cases z) fun _ => hb
theorem rok0 {q : Option Addr} {cs : Cs} : Rok q q cs := .inr (.inl rfl)
end
/-- an answer that is a given datum -/
theorem Rt.to {X : Cx} {C : Addr} {q r : Option Addr} {B0 H0 : Hp} {N : Nat} {P : Dt → Prop} {D : Ends} {d : Dt} (h : Rt X C q r B0 H0 N P D) (hp : P d) : Rt X C q r B0 H0 N (fun x => x = d) D := fun v d' n B H e => e ▸ h v d n B H hp
theorem Rt.imp {X : Cx} {C : Addr} {q r : Option Addr} {B0 H0 : Hp} {N : Nat} {P P' : Dt → Prop} {D : Ends} (h : Rt X C q r B0 H0 N P D) (hp : ∀ d, P' d → P d) : Rt X C q r B0 H0 N P' D := fun v d' n B H e => h v d' n B H (hp d' e)
section
variable {X : Cx} {C : Addr} {q r : Option Addr} {B0 H0 Bm : Hp} {N n k : Nat} {env : En} {cs : Cs} {rest : List Stmt} {D : Ends} {e : Expr} {x : PySem.Str} {pos pos' : Pos} {d : Dt} {ds : List Dt}
theorem sg_retD (S : SOk X q r N) (hr : Rok q r cs) (he : ED X C q e env cs d) (hD : Rt X C q r B0 H0 N (fun x => x = d) D) : SG X C q r B0 H0 N Bm n env cs (.Return (some e) pos :: rest) D := fun σ H a => sg_ret (k := 0) S hr he a.1 hD σ H a
theorem sg_setD (S : SOk X q r N) (i : Nat) (hr : Rok q r cs) (he : ED X C q e env cs d) (h : SG X C q r B0 H0 N Bm n (env.set i (some d)) cs rest D)
    (hi : X.N[i]? = some x := by rfl) (hx : Loc X.env.scope x := by first | exact Or.inl rfl | exact Or.inr rfl) (hs : swapsWith e (some (.Name x pos')) pos.line X.env = pure false := by rfl)
    (hf : X.fn x = true ∨ X.env.scope.names.lookup x = some .local := by first | exact .inl rfl | exact .inr rfl) : SG X C q r B0 H0 N Bm n env cs (.Assign [.Name x pos'] e pos :: rest) D := fun σ H a => sg_set (k := 0) S i hr he a.1 (fun _ e => e ▸ h) hi hx hs hf σ H a
theorem sg_newD (S : SOk X q r N) (i : Nat) (hr : Rok q r none) (he : EN X C q 0 e env none (fun x => x = ds)) (h : ∀ p, SG X C q r B0 H0 N Bm n (env.set i (some (.cell p))) (some (p, ds)) rest D)
    (hi : X.N[i]? = some x := by rfl) (hx : Loc X.env.scope x := by first | exact Or.inl rfl | exact Or.inr rfl) (hs : swapsWith e (some (.Name x pos')) pos.line X.env = pure false := by rfl)
    (hf : X.fn x = true ∨ X.env.scope.names.lookup x = some .local := by first | exact .inl rfl | exact .inr rfl) : SG X C q r B0 H0 N Bm n env none (.Assign [.Name x pos'] e pos :: rest) D := fun σ H a => sg_new (k := 0) S i hr he a.1 (fun p _ e => e ▸ h p) hi hx hs hf σ H a
theorem sg_tgtD {tg : Expr} {sl : List Nat} (S : SOk X q r N) (hr : Rok q r cs) (he : ED X C q e env cs d) (hg : GD X C q tg sl d ds) (h : SG X C q r B0 H0 N Bm n (setE env sl ds) cs rest D)
    (hs : swapsWithSole [tg] e pos.line X.env = pure false := by rfl) (hw : swappedStores [tg] e X.env = pure none := by rfl) (h1 : (assignEach [tg] X.env).map (·.2) = [assign tg X.env] := by rfl) : SG X C q r B0 H0 N Bm n env cs (.Assign [tg] e pos :: rest) D := fun σ H a => sg_tgt (k := 0) S hr he a.1 (fun _ e => ⟨ds, e ▸ hg, h⟩) hs hw h1 σ H a
theorem sg_T {c : Expr} {a b : List Stmt} {i : Bool} (S : SOk X q r N) (hr : Rok q r cs) (hc : TD X C q c env cs i) (ha : SG X C q r B0 H0 N Bm n env cs a { D with nx := wpB X rest D }) (hi : i = true := by rfl) : SG X C q r B0 H0 N Bm n env cs (.If c a b pos :: rest) D := by
  subst hi
  exact sg_ifT S hr hc ha
theorem sg_F {c : Expr} {a b : List Stmt} {i : Bool} (S : SOk X q r N) (hr : Rok q r cs) (hc : TD X C q c env cs i) (hb : SG X C q r B0 H0 N Bm n env cs b { D with nx := wpB X rest D }) (hi : i = false := by rfl) : SG X C q r B0 H0 N Bm n env cs (.If c a b pos :: rest) D := by
  subst hi
  exact sg_ifF S hr hc hb
/-- if c: (never) -/
theorem sg_no {c : Expr} {a : List Stmt} {i : Bool} (S : SOk X q r N) (hr : Rok q r cs) (hc : TD X C q c env cs i) (hb : SG X C q r B0 H0 N Bm n env cs rest D) (hi : i = false := by rfl) : SG X C q r B0 H0 N Bm n env cs (.If c a [] pos :: rest) D := sg_F S hr hc (sg_back hb) hi
end

/-! ### comprehensions whose answers are known -/
theorem take_snoc {α : Type} {xs : List α} {i : Nat} {x : α} (h : xs[i]? = some x) : xs.take (i + 1) = xs.take i ++ [x] := by
  rw [List.take_add_one, h]
  rfl
theorem Sel.to {Pt : Nat → Bool → Prop} {Pe : Nat → Dt → Prop} {xs : List Dt} {T : Dt → Bool} {F : Dt → Dt} (ht : ∀ j x b, xs[j]? = some x → Pt j b → b = T x) (he : ∀ j x d, xs[j]? = some x → Pe j d → d = F x) {n : Nat} {ds : List Dt} (h : Sel Pt Pe n ds) (hn : n ≤ xs.length) :
    ds = ((xs.take n).filter T).map F := by
  induction h with
  | nil => rfl
  | @skip i ds _ p ih =>
    have hx : xs[i]? = some xs[i] := List.getElem?_eq_getElem hn
    rw [take_snoc hx, List.filter_append, List.filter_cons_of_neg (by rw [← ht i _ _ hx p]; decide), List.filter_nil, List.append_nil]
    exact ih (Nat.le_of_succ_le hn)
  | @take i ds d _ p p' ih =>
    have hx : xs[i]? = some xs[i] := List.getElem?_eq_getElem hn
    rw [take_snoc hx, List.filter_append, List.filter_cons_of_pos (by rw [← ht i _ _ hx p]), List.filter_nil, List.map_append, ih (Nat.le_of_succ_le hn), he i _ _ hx p']
    rfl
section
variable {X : Cx} {C : Addr} {q : Option Addr} {k k1 k2 : Nat} {env : En} {cs : Cs} {elt tg iter : Expr} {ifs : List Expr} {scope : Scope} {own : List (PySem.Str × Nat)} {pos : Pos} {xs : List Dt} {sl : List Nat}
  {T : Dt → Bool} {F : Dt → Dt} {G : Dt → List Dt}
/-- the reading of a comprehension with a test -/
theorem lr_F (hi : ID X C q tg iter env cs xs) (hsl : ∀ i ∈ sl, i ∈ own.map (·.2)) (hxs : xs.length ≤ 100000)
    (hg : ∀ Y, Blk X scope Y → ∀ x ∈ xs, GD Y C q tg sl x (G x))
    (ht : ∀ Y, Blk X scope Y → ∀ x ∈ xs, TS1 Y C q 0 ifs (setE (wipeE env (own.map (·.2))) sl (G x)) cs (fun b => b = T x))
    (he : ∀ Y, Blk X scope Y → ∀ x ∈ xs, T x = true → ED Y C q elt (setE (wipeE env (own.map (·.2))) sl (G x)) cs (F x)) : ENt X C (LcR X scope elt tg iter ifs own) q 0 env cs (fun ds => ds = (xs.filter T).map F) := by
  have e1 : ∀ {j x}, xs[j]? = some x → xs.getD j .non = x := fun {j x} hx => by rw [List.getD_eq_getElem?_getD, hx]; rfl
  have h := lr_lc (k1 := 0) (k2 := 0) (elt := elt) (ifs := ifs) (scope := scope) (own := own) (sl := sl) (gs := fun j => G (xs.getD j .non)) (Pt := fun j b => b = T (xs.getD j .non)) (Pe := fun j d => d = F (xs.getD j .non)) hi hsl hxs
    (fun Y hY j x hx => by rw [e1 hx]; exact hg Y hY x (List.mem_of_getElem? hx))
    (fun Y hY j x hx => by rw [e1 hx]; exact ht Y hY x (List.mem_of_getElem? hx))
    (fun Y hY j x hx hp => by rw [e1 hx] at hp ⊢; exact he Y hY x (List.mem_of_getElem? hx) hp.symm)
  have e0 : xs.length * (0 + 0) = 0 := Nat.mul_zero _
  rw [e0] at h
  refine h.imp fun ds hd => ?_
  have := hd.to (xs := xs) (T := T) (F := F) (fun j x b hx hb => by rw [e1 hx] at hb; exact hb) (fun j x d hx hd => by rw [e1 hx] at hd; exact hd) (Nat.le_refl _)
  rw [List.take_length] at this
  exact this
/-- without a test -/
theorem lr_M (hi : ID X C q tg iter env cs xs) (hsl : ∀ i ∈ sl, i ∈ own.map (·.2)) (hxs : xs.length ≤ 100000)
    (hg : ∀ Y, Blk X scope Y → ∀ x ∈ xs, GD Y C q tg sl x (G x))
    (he : ∀ Y, Blk X scope Y → ∀ x ∈ xs, ED Y C q elt (setE (wipeE env (own.map (·.2))) sl (G x)) cs (F x)) : ENt X C (LcR X scope elt tg iter [] own) q 0 env cs (fun ds => ds = xs.map F) := by
  have h := lr_F (T := fun _ => true) (F := F) hi hsl hxs hg (fun Y hY x hx => ts_nil) (fun Y hY x hx _ => he Y hY x hx)
  rw [List.filter_eq_self.mpr fun _ _ => rfl] at h
  exact h
/-- without a test, item by item -/
theorem lr_L {ys : List Dt} {gs : Nat → List Dt} (hi : ID X C q tg iter env cs xs) (hsl : ∀ i ∈ sl, i ∈ own.map (·.2)) (hxs : xs.length ≤ 100000) (hl : ys.length = xs.length)
    (hg : ∀ Y, Blk X scope Y → ∀ j x, xs[j]? = some x → GD Y C q tg sl x (gs j))
    (he : ∀ Y, Blk X scope Y → ∀ j x y, xs[j]? = some x → ys[j]? = some y → ED Y C q elt (setE (wipeE env (own.map (·.2))) sl (gs j)) cs y) : ENt X C (LcR X scope elt tg iter [] own) q 0 env cs (fun ds => ds = ys) := by
  have h := lr_lc (k1 := 0) (k2 := 0) (elt := elt) (ifs := []) (scope := scope) (own := own) (sl := sl) (gs := gs) (Pt := fun j b => b = true) (Pe := fun j d => d = ys.getD j .non) hi hsl hxs hg (fun Y hY j x hx => ts_nil) (fun Y hY j x hx _ => by
    have hj : j < ys.length := by rw [hl]; exact (List.getElem?_eq_some_iff.mp hx).1
    have e : ys[j]? = some ys[j] := List.getElem?_eq_getElem hj
    have e2 : ys.getD j .non = ys[j] := by rw [List.getD_eq_getElem?_getD, e]; rfl
    rw [e2]
    exact he Y hY j x _ hx e)
  have e0 : xs.length * (0 + 0) = 0 := Nat.mul_zero _
  rw [e0] at h
  refine h.imp fun ds hd => ?_
  have key : ∀ n ds, Sel (fun j b => b = true) (fun j d => d = ys.getD j .non) n ds → n ≤ ys.length → ds = ys.take n := by
    intro n ds hd
    induction hd with
    | nil => intro _; rfl
    | skip _ p _ => cases p
    | @take i ds d _ _ p ih =>
      intro hn
      have e : ys[i]? = some ys[i] := List.getElem?_eq_getElem hn
      rw [take_snoc e, ← ih (Nat.le_of_succ_le hn), p, List.getD_eq_getElem?_getD, e]
      rfl
  rw [key _ ds hd (Nat.le_of_eq hl.symm), ← hl, List.take_length]
theorem lc_ED {ys : List Dt} (h : ENt X C (LcR X scope elt tg iter ifs own) q 0 env cs (fun ds => ds = ys)) (hc : X.calm = true) (hN : X.N.Nodup) (ok : BlkOk X.N X.env.scope scope own) (hs : ∀ x, foldedSetIterable iter X.env x = pure x := by intro _; rfl) :
    ED X C q (.ListComp elt [⟨tg, iter, ifs, 0⟩] scope pos) env cs (.lst ys) := (lc_EN h hc hN ok hs).em.imp fun d ⟨ds, e1, e2⟩ => by rw [e1, e2]
theorem ed_lcF (hc : X.calm = true) (hN : X.N.Nodup) (ok : BlkOk X.N X.env.scope scope own) (hi : ID X C q tg iter env cs xs) (hsl : ∀ i ∈ sl, i ∈ own.map (·.2)) (hxs : xs.length ≤ 100000)
    (hg : ∀ Y, Blk X scope Y → ∀ x ∈ xs, GD Y C q tg sl x (G x))
    (ht : ∀ Y, Blk X scope Y → ∀ x ∈ xs, TS1 Y C q 0 ifs (setE (wipeE env (own.map (·.2))) sl (G x)) cs (fun b => b = T x))
    (he : ∀ Y, Blk X scope Y → ∀ x ∈ xs, T x = true → ED Y C q elt (setE (wipeE env (own.map (·.2))) sl (G x)) cs (F x))
    (hs : ∀ x, foldedSetIterable iter X.env x = pure x := by intro _; rfl) : ED X C q (.ListComp elt [⟨tg, iter, ifs, 0⟩] scope pos) env cs (.lst ((xs.filter T).map F)) := lc_ED (lr_F hi hsl hxs hg ht he) hc hN ok hs
theorem ed_lcM (hc : X.calm = true) (hN : X.N.Nodup) (ok : BlkOk X.N X.env.scope scope own) (hi : ID X C q tg iter env cs xs) (hsl : ∀ i ∈ sl, i ∈ own.map (·.2)) (hxs : xs.length ≤ 100000)
    (hg : ∀ Y, Blk X scope Y → ∀ x ∈ xs, GD Y C q tg sl x (G x))
    (he : ∀ Y, Blk X scope Y → ∀ x ∈ xs, ED Y C q elt (setE (wipeE env (own.map (·.2))) sl (G x)) cs (F x))
    (hs : ∀ x, foldedSetIterable iter X.env x = pure x := by intro _; rfl) : ED X C q (.ListComp elt [⟨tg, iter, [], 0⟩] scope pos) env cs (.lst (xs.map F)) := lc_ED (lr_M hi hsl hxs hg he) hc hN ok hs
theorem ed_lcL {ys : List Dt} {gs : Nat → List Dt} (hc : X.calm = true) (hN : X.N.Nodup) (ok : BlkOk X.N X.env.scope scope own) (hi : ID X C q tg iter env cs xs) (hsl : ∀ i ∈ sl, i ∈ own.map (·.2)) (hxs : xs.length ≤ 100000) (hl : ys.length = xs.length)
    (hg : ∀ Y, Blk X scope Y → ∀ j x, xs[j]? = some x → GD Y C q tg sl x (gs j))
    (he : ∀ Y, Blk X scope Y → ∀ j x y, xs[j]? = some x → ys[j]? = some y → ED Y C q elt (setE (wipeE env (own.map (·.2))) sl (gs j)) cs y)
    (hs : ∀ x, foldedSetIterable iter X.env x = pure x := by intro _; rfl) : ED X C q (.ListComp elt [⟨tg, iter, [], 0⟩] scope pos) env cs (.lst ys) := lc_ED (lr_L hi hsl hxs hl hg he) hc hN ok hs
end

/-! ### name = [..] -/
section
variable {X : Cx} {C : Addr} {q r : Option Addr} {B0 H0 Bm : Hp} {N n k : Nat} {env : En} {cs : Cs} {rest : List Stmt} {st : Stmt} {D : Ends} {x : PySem.Str} {pos' pos spos : Pos} {ds : List Dt} {elt tg iter : Expr} {ifs : List Expr} {scope : Scope} {own : List (PySem.Str × Nat)} {PL : List Dt → Prop}
theorem ps_lc (i : Nat) (S : SOk X q r N) (ok : BlkOk X.N X.env.scope scope own) (hi : X.N[i]? = some x := by rfl) (hx : X.env.scope.names.lookup x = some .local := by rfl)
    (hsw : swapsWith (.ListComp elt [⟨tg, iter, ifs, 0⟩] scope pos) (some (.Name x pos')) spos.line X.env = pure true := by rfl) (hs : ∀ x, foldedSetIterable iter X.env x = pure x := by intro _; rfl) :
    PS X (.Assign [.Name x pos'] (.ListComp elt [⟨tg, iter, ifs, 0⟩] scope pos) spos) (tAsg (LcR X scope elt tg iter ifs own) (gName i)) :=
  ps_setLc S.calm S.nd hi hx hsw wpI_pi ok (fun s H A cl fp => ⟨fun pins s' σ H v u Q I r h => h _ ⟨s, _, A, cl, fp, rfl⟩ pins s' u I r⟩) (fun s H A cl fp => ⟨fun pins s' σ H Q I h => h _ ⟨s, _, A, cl, fp, rfl⟩ pins s' I⟩) (fun s H A cl fp => ⟨fun pins s' σ H Q I h => h _ ⟨s, _, A, cl, fp, rfl⟩ pins s' I⟩) hs
/-- the list is changed no more -/
theorem sg_lc (S : SOk X q r N) (i : Nat) (hr : Rok q r cs) (hp : PS X st (tAsg (LcR X scope elt tg iter ifs own) (gName i))) (he : ENt X C (LcR X scope elt tg iter ifs own) q k env cs PL) (hn : n + k ≤ N) (h : ∀ ds, PL ds → SG X C q r B0 H0 N Bm (n + k) (env.set i (some (.lst ds))) cs rest D) :
    SG X C q r B0 H0 N Bm n env cs (st :: rest) D := sg_st hp fun σ H ⟨h1, B, cf, kp, co, em⟩ => he n B σ H cf (Nat.le_trans hn S.lim) _ fun p vs ds B2 H2 p1 e1 e2 e3 e4 e5 o => by
  have o2 := o.addB e1 e2 e3 e4
  have cf2 := cf.after o2
  exact h ds p1 _ _ ⟨hn, _, ⟨cf2.sg.set (de_newL e2 e5) i, cf2.ex, cf2.pl, cf2.cl⟩, kp.out S (hr.there cf) o2, co, em.trans o2.nw.ex⟩
/-- the list will change -/
theorem sg_lcNew (S : SOk X q r N) (i : Nat) (hr : Rok q r none) (hp : PS X st (tAsg (LcR X scope elt tg iter ifs own) (gName i))) (he : ENt X C (LcR X scope elt tg iter ifs own) q k env none PL) (hn : n + k ≤ N) (h : ∀ p ds, PL ds → SG X C q r B0 H0 N Bm (n + k) (env.set i (some (.cell p))) (some (p, ds)) rest D) :
    SG X C q r B0 H0 N Bm n env none (st :: rest) D := sg_st hp fun σ H ⟨h1, B, cf, kp, co, em⟩ => he n B σ H cf (Nat.le_trans hn S.lim) _ fun p vs ds B2 H2 p1 e1 e2 e3 e4 e5 o => by
  have cf2 := cf.after o
  have h0 : H0 p = none := by
    cases z : H0 p with
    | none => rfl
    | some o' =>
      by_cases e : r = some p
      · exact absurd e3 (hr.there cf p e)
      · have := kp.eo p o' e z
        rw [e3] at this
        cases this
  refine h p ds p1 _ _ ⟨hn, B2, ⟨cf2.sg.set (show De X.K C B2 (.cell p) (.ref p) from rfl) i, cf2.ex, cf2.pl, fun p' ds' z => ?_⟩, kp.out S (hr.there cf) o, fun p' ds' z => ?_, em.trans o.nw.ex⟩
  · cases z
    exact ⟨e4, e2, vs, e1, e5⟩
  · cases z
    exact .inr h0
end
end Cf

/-! Cf12: truth of a list; a tuple of names; .index; s.join(xs); d[k]; xs[a:b:c]. -/
namespace Cf
open PySem PySem.Spec PyProof.Rows L2
section
variable {X : Cx} {C : Addr} {q : Option Addr} {k k1 k2 : Nat} {env : En} {cs : Cs} {a b c e o : Expr} {p p2 pos apos : Pos} {d : Dt} {ds : List Dt} {i : Int} {ns : List PySem.Str}
theorem td_seq (ha : ED X C q a env cs d) (hi : itemsOf d = some ds) (hz : ds.length ≤ 1000000 := by exact Nat.le_refl _) (he : ∀ whole, isTrue a X.env whole = (do let v ← whole; standAt a.pos; holding [v] (truthy v)) := by intro _; rfl) : TD X C q a env cs (!ds.isEmpty) := fun n B σ H cf hn Q hQ =>
  wpT_of (pt_truth wpE_pe he) (ha n B σ H cf hn _ fun v d' B1 H1 e1 f1 o1 => by
    subst e1
    obtain ⟨x, xs, rfl, h2, h3⟩ := de_items f1 hi
    have e : xs.isEmpty = ds.isEmpty := by
      have := h3.length
      cases xs <;> cases ds <;> simp at this ⊢
    rcases h2 with h2 | h2
    · exact ⟨!xs.isEmpty, .inl ⟨xs, o1.ex.l h2, rfl⟩, hQ _ B1 H1 (by rw [e]) o1⟩
    · exact ⟨!xs.isEmpty, .inr (.inl ⟨xs, o1.ex.t h2, rfl⟩), hQ _ B1 H1 (by rw [e]) o1⟩)
/-- tuple(list of texts), its own object known -/
theorem call_tupleN : CallR X (.type "tuple") (fun xs H Q => ∃ p ys, xs = [.ref p] ∧ SqL X.K H p ys ∧ ∀ (l : Addr) (o : Obj), H l = none → o.cls = .type "tuple" → o.dict = none → Q (.ref l) (upd H l (.frz o (.tup ys)))) := by
  intro pins s σ H xs us Q I r h
  obtain ⟨p, ys, rfl, hq, q⟩ := h
  obtain ⟨u, rfl, rx⟩ := vals1 r
  cases rx
  obtain ⟨its, r', pl, hz⟩ := I.list hq
  have hlen := r'.length
  refine call_tuple_list pl.isList (fun h' kp => ?_) (by simp only [List.size_toArray] <;> omega)
  have I1 : Inv X pins σ H { s with heap := h' } := I.kept (t' := s.toks) kp
  have I2 : Inv X pins σ (upd H h'.objs.size (.frz { cls := .type "tuple", data := .seq its.toArray } (.tup ys))) { s with heap := h'.push { cls := .type "tuple", data := .seq its.toArray } } :=
    I1.laid (t' := s.toks) (fun b o e => Heap.get?_push_of_some _ e) (Nat.le_refl _) (show ObjOk X.prog X.w _ _ _ (.frz _ (.tup ys)) from ⟨Heap.get?_push_size _ rfl, hz, its, r', IsTup.new _ _⟩)
  exact ⟨.ref h'.objs.size, _, I2, rfl, q _ _ (I1.hok.fresh (Nat.le_refl _)) rfl rfl⟩
theorem em_tupleN {PN : List PySem.Str → Prop} (hm : X.mg "tuple" = none) (ha : EM X C q k e env cs (fun d => ∃ ns : List PySem.Str, d = .lst (ns.map Dt.str) ∧ PN ns)) (hg : Gl X "tuple" := by rfl) (he : starEach [e] X.env = (false, eval e X.env) :: starEach [] X.env := by rfl) :
    EM X C q k (.Call (.Name "tuple" p) [e] [] pos) env cs (fun d => ∃ ns, d = .nms ns ∧ PN ns) :=
  em_callTy call_tupleN hm (by decide +kernel) (am_cons (k2 := 0) ha ad_nil he) (fun ds' ⟨_, _, h1, ⟨ns, h2, h3⟩, h4⟩ n B H xs Q b hd hf => by
    subst h1 h2 h4
    obtain ⟨x, rfl, a, vs, rfl, h5, h6⟩ := hd.one
    obtain rfl := h6.strs
    exact ⟨a, _, rfl, SqL.of (b.ex _ _ h5), fun l ob hl hc hd => hf _ (.nms ns) (upd B l (.frz ob (.tup (ns.map V.str)))) _ ⟨ns, rfl, h3⟩ ⟨l, rfl, ob, upd_same, hc, hd⟩ (b.newB hl)⟩) hg (by decide) (by decide) he rfl
/-- the tuple's own object is known -/
def FrT (x : V) (H : Hp) : Prop := ∃ a o u, x = .ref a ∧ H a = some (.frz o u) ∧ o.cls = .type "tuple" ∧ o.dict = none
def tBMN (r : V → List V → Hp → VK → Prop) (to : TE) (t : TA) : TE := fun σ H Q => to σ H fun x H1 => FrT x H1 ∧ t σ H1 fun xs H2 => r x xs H2 Q
theorem pe_bmN {to : TE} {t : TA} {name : PySem.Str} {id : String} {es : List Expr} {r : V → List V → Hp → VK → Prop} (slot : Slot "tuple" name id) (hty : typeOf (.builtin id) = pure (.type "method_descriptor")) (hm : MtR X id r) (ho : PE X o to) (ha : PA X (e :: es) t)
    (hbase : attributeBase o name X.env (eval o X.env) = eval o X.env := by rfl)
    (hfew : ((backTo pos (starEach (e :: es) X.env)).all (fun x => !x.1) && (backToKw pos (keywordEach [] X.env)).all (fun x => x.1.isSome) && decide ((e :: es).length + ([] : List Keyword).length + (if ([] : List Keyword).isEmpty then 0 else 1) < 30)) = true := by rfl)
    (hline : (apos.endLine == pos.line) = true := by rfl) (hs : starEach (e :: es) X.env = (false, eval e X.env) :: starEach es X.env := by rfl) (hplain : (backTo pos (starEach es X.env)).any (·.1) = false := by rfl) :
    PE X (.Call (.Attribute o name apos) (e :: es) [] pos) (tBMN r to t) := by
  refine ⟨fun pins s σ H Q I h => ?_⟩
  refine wpAny_Call_method_late hbase hfew hline rfl (thn (ho.run pins s σ H _ I h) fun v s1 ⟨x, H1, I1, r1, ⟨a, ob, u, ex, g1, g2, g3⟩, q1⟩ => ?_)
  subst ex
  obtain rfl : v = Value.ref a := r1
  have hob := (I1.hok a _ g1).1
  refine ⟨"tuple", id, PySem.F.plainAttrs_tuple, slot, hty, ⟨ob, hob, g2⟩, fun a' z => ?_, ?_⟩
  · cases z
    exact ⟨ob, hob, g3⟩
  have hA := ha.run pos pins s1 σ H1 _ I1 q1
  rw [hs] at hA ⊢
  refine Calls.callWith_builtin (by show (false || (backTo pos (starEach es X.env)).any (·.1)) = false; rw [hplain] <;> rfl) (Calls.evalArgs_plain ?_)
  exact thn hA fun us s2 ⟨vs, H2, I2, r2, q2⟩ => hm pins s2 σ H2 (.ref a) vs (.ref a) us Q I2 rfl r2 q2
/-- t.index(x) of names -/
theorem ed_index {x : PySem.Str} {j : Nat} (ho : ED X C q o env cs (.nms ns)) (he : ED X C q e env cs (.str x)) (hj : ns[j]? = some x) (hno : ∀ m, m < j → ns[m]? ≠ some x)
    (hbase : attributeBase o "index" X.env (eval o X.env) = eval o X.env := by rfl)
    (hfew : ((backTo pos (starEach [e] X.env)).all (fun x => !x.1) && (backToKw pos (keywordEach [] X.env)).all (fun x => x.1.isSome) && decide ([e].length + ([] : List Keyword).length + (if ([] : List Keyword).isEmpty then 0 else 1) < 30)) = true := by rfl)
    (hline : (apos.endLine == pos.line) = true := by rfl) (hs : starEach [e] X.env = (false, eval e X.env) :: starEach [] X.env := by rfl) (hpl : (backTo pos (starEach [] X.env)).any (·.1) = false := by rfl) :
    ED X C q (.Call (.Attribute o "index" apos) [e] [] pos) env cs (.int (j : Nat)) := fun n B σ H cf hn Q hQ =>
  wpE_of (pe_bmN PySem.F.slot_tuple_index PySem.F.type_tuple_index mt_tup_index wpE_pe wpA_pa hbase hfew hline hs hpl) (ho n B σ H cf hn _ fun v d B1 H1 e1 f1 o1 => by
    subst e1
    obtain ⟨a, rfl, ob, g1, g2, g3⟩ := f1
    refine ⟨⟨a, ob, _, rfl, o1.ex _ _ g1, g2, g3⟩, (ad_cons he ad_nil (hs := hs)) n B1 σ H1 (cf.after o1) hn _ fun vs ds B2 H2 e2 f2 o2 => ?_⟩
    subst e2
    obtain ⟨w, rfl, rfl⟩ := f2.one
    exact ⟨a, ns, x, j, rfl, rfl, .inl (.inr ⟨ob, o2.ex _ _ (o2.nw.ex _ _ g1)⟩), hj, hno, hQ _ _ B2 H2 rfl rfl (o1.trans o2)⟩)
/-- z.join(texts) -/
theorem em_join {z : PySem.Str} {PY : List PySem.Str → Prop} (ho : ED X C q o env cs (.str z)) (he : EM X C q k e env cs (fun d => ∃ ys : List PySem.Str, d = .lst (ys.map Dt.str) ∧ PY ys)) (hz : ∀ ys, PY ys → (ys.map (·.length)).sum + ys.length * z.length ≤ 16777216)
    (hs : starEach [e] X.env = [(false, eval e X.env)] := by rfl) (hbase : attributeBase o "join" X.env (eval o X.env) = eval o X.env := by rfl) (hline : (apos.endLine == pos.line) = true := by rfl) :
    EM X C q k (.Call (.Attribute o "join" apos) [e] [] pos) env cs (fun d => ∃ ys, d = .str (Txt.join z ys) ∧ PY ys) := fun n B σ H cf hn Q hQ =>
  wpE_of (pe_join wpE_pe wpE_pe hs hbase hline) (ho n B σ H cf (by omega) _ fun v d B1 H1 e1 f1 o1 => by
    subst e1
    obtain rfl := (show v = V.str z from f1)
    refine ⟨⟨z, rfl⟩, he n B1 σ H1 (cf.after o1) hn _ fun w d B2 H2 ⟨ys, e2, py⟩ f2 o2 => ?_⟩
    subst e2
    obtain ⟨a, vs, rfl, g1, g2⟩ := f2
    obtain rfl := g2.strs
    exact ⟨z, a, ys, rfl, rfl, .inl (SqL.of (o2.ex _ _ g1)), hz ys py, hQ _ _ B2 H2 ⟨ys, rfl, py⟩ rfl (o1.trans o2)⟩)
theorem valV_ints {kvs : List (PySem.Str × Int)} {x : PySem.Str} {i : Int} (h : kvs.lookup x = some i) : valV (kvs.map fun p => ((Sum.inr p.1 : L2.Key), V.int p.2)) (.inr x) = some (.int i) := by
  induction kvs with
  | nil => cases h
  | cons p r ih =>
    obtain ⟨k, v⟩ := p
    rw [List.lookup_cons] at h
    unfold valV
    rw [List.map_cons, List.find?_cons]
    by_cases e : x = k
    · subst e
      rw [beq_self_eq_true] at h
      cases h
      simp
    · have e' : (x == k) = false := by
        cases z : (x == k) with
        | false => rfl
        | true => exact absurd (eq_of_beq z) e
      rw [e'] at h
      have e2 : decide ((Sum.inr k : L2.Key) = .inr x) = false := decide_eq_false fun z => e (Sum.inr.inj z).symm
      simp only [e2]
      exact ih h
/-- d[k] -/
theorem ed_dget {kvs : List (PySem.Str × Int)} {x : PySem.Str} (hu : X.A.units + 1 < cLine) (ho : ED X C q a env cs (.dic kvs)) (he : ED X C q b env cs (.str x)) (hv : kvs.lookup x = some i) (hs : NoSl b := by exact fun _ _ => rfl) : ED X C q (.Subscript a b pos) env cs (.int i) := fun n B σ H cf hn Q hQ =>
  wpE_of (pe_dget hu wpE_pe wpE_pe hs) (ho n B σ H cf hn _ fun v d B1 H1 e1 f1 o1 => by
    subst e1
    obtain ⟨l, rfl, g1⟩ := f1
    refine he n B1 σ H1 (cf.after o1) hn _ fun w d B2 H2 e2 f2 o2 => ?_
    subst e2
    obtain rfl := (show w = V.str x from f2)
    refine ⟨l, .int i, rfl, ?_, hQ _ _ B2 H2 rfl rfl (o1.trans o2)⟩
    have hd := o2.ex _ _ (o2.nw.ex _ _ g1)
    have := DGet.k (k := .inr x) hd
    rw [valV_ints hv] at this
    exact this)
end
end Cf

/-! Cf13: what stands under a name, a method's name. -/
namespace Cf
open PySem PySem.Spec PyProof.Rows L2
theorem At.to {X : Cx} {C : Addr} {q r : Option Addr} {B0 H0 Bm : Hp} {N n : Nat} {env : En} {cs cs2 : Cs} {σ : L2.St} {H : Hp} (h : At X C q r B0 H0 N Bm n env cs σ H) (e : cs = cs2) : At X C q r B0 H0 N Bm n env cs2 σ H := e ▸ h
section
variable (P : Program) (w : World) (K : PySem.W.Frag) (mg : PySem.Str → Option Value) (base : Heap)
def HasF (lv : Nat) (x : PySem.Str) (ps : List PySem.Str) (sp : Sp) : Prop := ∃ f fd, mg x = some (.ref f) ∧ PySem.W.keepIn K (.ref f) = true ∧ Binds K fd ps [] ∧ FnOk P w K mg base CX0 lv f fd ps sp
def HasM (C : Addr) (lv : Nat) (m : PySem.Str) (ps : List PySem.Str) (sp : Sp) : Prop := ∃ f fd, Meth K C m f ∧ Binds K fd ps [] ∧ FnOk P w K mg base CX0 lv f fd ps sp
end
section
variable {P : Program} {w : World} {K : PySem.W.Frag} {mg : PySem.Str → Option Value} {base : Heap} {C : Addr} {lv lv' : Nat} {x m : PySem.Str} {ps : List PySem.Str} {sp : Sp}
theorem HasF.mono (h : HasF P w K mg base lv x ps sp) (hl : lv ≤ lv') : HasF P w K mg base lv' x ps sp := let ⟨f, fd, a, b, c, d⟩ := h; ⟨f, fd, a, b, c, d.mono hl⟩
theorem HasM.mono (h : HasM P w K mg base C lv m ps sp) (hl : lv ≤ lv') : HasM P w K mg base C lv' m ps sp := let ⟨f, fd, a, b, d⟩ := h; ⟨f, fd, a, b, d.mono hl⟩
end
section
variable {X : Cx} {C : Addr} {q : Option Addr} {k kf lv : Nat} {env : En} {cs : Cs} {e o : Expr} {es : List Expr} {pos p apos : Pos} {x m : PySem.Str} {ps : List PySem.Str} {pre : Option Addr → List Dt → Prop} {post : List Dt → Dt → Prop} {g : List Dt → Dt} {ds : List Dt} {ss ns : List PySem.Str} {top : Int} {PA1 : List Dt → Prop} {P : Dt → Prop}
theorem em_callF (h : HasF X.prog X.w X.K X.mg X.base lv x ps (SpQ X.K C kf pre post)) (hr : Room lv X.A) (ha : AM X C q k (e :: es) env cs PA1) (hpre : ∀ ds, PA1 ds → pre q ds) (hp : ∀ ds d, PA1 ds → post ds d → P d) (hg : Gl X x := by rfl) (hdb : (x == ("__debug__" : PySem.Str)) = false := by decide)
    (he : starEach (e :: es) X.env = (false, eval e X.env) :: starEach es X.env := by rfl) (hpl : (backTo pos (starEach es X.env)).any (·.1) = false := by rfl) : EM X C q (k + kf) (.Call (.Name x p) (e :: es) [] pos) env cs P := by
  obtain ⟨f, fd, h1, h2, h3, h4⟩ := h
  exact em_call h4 hr h1 h2 h3 ha hpre hp hg hdb he hpl
theorem ed_callF (h : HasF X.prog X.w X.K X.mg X.base lv x ps (SpQ X.K C 0 pre (fun ds d => d = g ds))) (hr : Room lv X.A) (ha : AD X C q (e :: es) env cs ds) (hpre : pre q ds) (hg : Gl X x := by rfl) (hdb : (x == ("__debug__" : PySem.Str)) = false := by decide)
    (he : starEach (e :: es) X.env = (false, eval e X.env) :: starEach es X.env := by rfl) (hpl : (backTo pos (starEach es X.env)).any (·.1) = false := by rfl) : ED X C q (.Call (.Name x p) (e :: es) [] pos) env cs (g ds) := by
  obtain ⟨f, fd, h1, h2, h3, h4⟩ := h
  exact ed_call h4 hr h1 h2 h3 ha hpre hg hdb he hpl
theorem ed_meth0F {pl : Sem Bool} (hc : Cls X.K C) (h : HasM X.prog X.w X.K X.mg X.base C lv m ps (SpQ X.K C 0 pre (fun ds d => d = g ds))) (hr : Room lv X.A) (ho : ED X C q o env cs (.tlk ss ns top)) (hpre : pre q [.tlk ss ns top])
    (h1 : ¬ m = "top" := by decide +kernel) (h2 : ¬ m = "number_names" := by decide +kernel) (h3 : ¬ m = "set_names" := by decide +kernel)
    (ht : eval (.Call (.Attribute o m apos) [] [] pos) X.env = (do
      let ov ← eval o X.env
      standAt apos.atName
      let (f, first) ← holding [ov] (getMethod ov m pl)
      callWith pos f first (backTo pos (starEach [] X.env)) (backToKw pos (keywordEach [] X.env))) := by rfl) : ED X C q (.Call (.Attribute o m apos) [] [] pos) env cs (g [.tlk ss ns top]) := by
  obtain ⟨f, fd, a, b, c⟩ := h
  exact em_meth0 hc a c hr b ho hpre h1 h2 h3 ht
theorem ed_methF {pl : Sem Bool} (hc : Cls X.K C) (h : HasM X.prog X.w X.K X.mg X.base C lv m ps (SpQ X.K C 0 pre (fun ds d => d = g ds))) (hr : Room lv X.A) (ho : ED X C q o env cs (.tlk ss ns top)) (ha : AD X C q (e :: es) env cs ds) (hpre : pre q (.tlk ss ns top :: ds))
    (h1 : ¬ m = "top" := by decide +kernel) (h2 : ¬ m = "number_names" := by decide +kernel) (h3 : ¬ m = "set_names" := by decide +kernel)
    (hst : starEach (e :: es) X.env = (false, eval e X.env) :: starEach es X.env := by rfl) (hpl : (backTo pos (starEach es X.env)).any (·.1) = false := by rfl)
    (ht : eval (.Call (.Attribute o m apos) (e :: es) [] pos) X.env = (do
      let ov ← eval o X.env
      standAt apos.atName
      let (f, first) ← holding [ov] (getMethod ov m pl)
      callWith pos f first (backTo pos (starEach (e :: es) X.env)) (backToKw pos (keywordEach [] X.env))) := by rfl) : ED X C q (.Call (.Attribute o m apos) (e :: es) [] pos) env cs (g (.tlk ss ns top :: ds)) := by
  obtain ⟨f, fd, a, b, c⟩ := h
  exact em_meth hc a c hr b ho ha hpre h1 h2 h3 hst hpl ht
end
end Cf

/-! Fn1: is_whole, is_name, are_names. -/
namespace Cf
open PySem PySem.Spec PyProof.Rows L2

/-- the program's statements -/
def top (i : Nat) : Stmt := PySem.Challenge.pw_countfold_k13_whole_sums_of_things.main.body.getD i (.Pass ⟨0, 0, 0, 0⟩)
/-- the built-in names are nobody's -/
structure Bi (mg : PySem.Str → Option Value) : Prop where
  len : mg "len" = none
  list : mg "list" = none
  tuple : mg "tuple" = none
  max : mg "max" = none
  min : mg "min" = none
  sum : mg "sum" = none
  all : mg "all" = none
  any : mg "any" = none
  sorted : mg "sorted" = none
  isin : mg "isinstance" = none
  range : mg "range" = none
  zip : mg "zip" = none
  enum : mg "enumerate" = none
  repr : mg "repr" = none
  dict : mg "dict" = none
  int : mg "int" = none
  bool : mg "bool" = none
  str : mg "str" = none
abbrev FnP (K : PySem.W.Frag) (x : PySem.Str) (i : Nat) (f : Addr) (fd : FuncData) : Prop := FunD K x x (defArgs (top i)) (defBody (top i)) (defScope (top i)) [] [] f fd
abbrev FnK (K : PySem.W.Frag) (x : PySem.Str) (i : Nat) (kws : List (PySem.Str × V)) (f : Addr) (fd : FuncData) : Prop := FunD K x x (defArgs (top i)) (defBody (top i)) (defScope (top i)) [] kws f fd
/-! ### is_whole -/
/-- none, or a whole number -/
def oiD : Dt → Bool
  | .non => true
  | .int _ => true
  | _ => false
def loD : Dt → Int → Bool
  | .int l, i => decide (l ≤ i)
  | _, _ => true
def hiD : Dt → Int → Bool
  | .int m, i => decide (i ≤ m)
  | _, _ => true
def wholeF : List Dt → Dt
  | [.int i, l, m] => .bl (loD l i && hiD m i)
  | _ => .non
def preWhole : Option Addr → List Dt → Prop := fun _ ds => ∃ i l m, ds = [.int i, l, m] ∧ oiD l = true ∧ oiD m = true
section
variable {P : Program} {w : World} {K : PySem.W.Frag} {mg : PySem.Str → Option Value} {base : Heap} {C : Addr} {f : Addr} {fd : FuncData}
theorem sc5 : FnScope ["thing", "least", "most"] ["thing", "least", "most"] (defScope (top 5)) := ⟨rfl, rfl, rfl, by decide +kernel, rfl, by decide +kernel, by decide +kernel⟩
theorem ok_whole (g : Bi mg) (F : FnK K "is_whole" 5 [("least", .non), ("most", .non)] f fd) : FnOk P w K mg base CX0 1 f fd ["thing", "least", "most"] (SpQ K C 0 preWhole (fun ds d => d = wholeF ds)) := by
  refine fnd_ok F sc5 (fun _ _ ⟨_, _, _, h, _⟩ => h ▸ rfl) fun cdv A outer s H E hr q ds n B0 H0 D hp hn S hR hN => ?_
  obtain ⟨i, l, m, rfl, hl, hm⟩ := hp
  refine sg_no S rok0 (td_w (wd_orF (td_not (td_val (ed_isi g.isin (ed_var 0 rfl) (ed_ty (n := "int") g.int (by decide +kernel)) rfl rfl))) (wd_or1 (td_val (ed_isi g.isin (ed_var 0 rfl) (ed_ty (n := "bool") g.bool (by decide +kernel)) rfl rfl))))) ?_
  cases l <;> first | (cases hl; done) | skip
  · refine sg_no S rok0 (td_w (wd_andF (td_notN (ed_var 1 rfl)))) ?_
    cases m <;> first | (cases hm; done) | skip
    · exact sg_retD S rok0 (ed_orT (ed_isN (ed_var 2 rfl))) (hR.to rfl)
    · exact sg_retD S rok0 (ed_orF (ed_isN (ed_var 2 rfl)) (ed_one (ed_le (ed_var 0 rfl) (ed_var 2 rfl)))) (hR.to rfl)
  · rename_i l
    refine sg_ifD S rok0 (td_w (wd_andT (td_notN (ed_var 1 rfl)) (wd_and1 (td_lt (ed_var 0 rfl) (ed_var 1 rfl))))) (fun h => sg_retD S rok0 ed_bl (hR.to ?_)) (fun h => sg_back ?_)
    · have h' := of_decide_eq_true h
      show _ = Dt.bl (decide (l ≤ i) && _)
      rw [decide_eq_false (by omega), Bool.false_and]
    · have h' := of_decide_eq_false h
      have e : decide (l ≤ i) = true := decide_eq_true (by omega)
      cases m <;> first | (cases hm; done) | skip
      · exact sg_retD S rok0 (ed_orT (ed_isN (ed_var 2 rfl))) (hR.to (by show _ = Dt.bl (decide (l ≤ i) && true); rw [e]; rfl))
      · exact sg_retD S rok0 (ed_orF (ed_isN (ed_var 2 rfl)) (ed_one (ed_le (ed_var 0 rfl) (ed_var 2 rfl)))) (hR.to (by show _ = Dt.bl (decide (l ≤ i) && _); rw [e, Bool.true_and]; rfl))

/-! ### is_name, are_names -/
def LETT : PySem.Str := "abcdefghijklmnopqrstuvwxyz"
/-- a name: one to eight letters -/
structure NmOk (s : PySem.Str) : Prop where
  lo : 1 ≤ s.length
  hi : s.length ≤ 8
  ab : ∀ c ∈ s.cps.toList, c ∈ LETT.cps.toList
theorem sc6 : FnScope ["thing", "letter"] ["thing"] (defScope (top 6)) := ⟨rfl, rfl, rfl, by decide +kernel, rfl, by decide +kernel, by decide +kernel⟩
theorem map_true {α : Type} (xs : List α) : (xs.map fun _ => Dt.bl true) = (List.replicate xs.length true).map Dt.bl := by
  rw [List.map_replicate]
  exact List.eq_replicate_iff.mpr ⟨by rw [List.length_map], fun b hb => by
    obtain ⟨_, _, e⟩ := List.mem_map.mp hb
    exact e.symm⟩
theorem all_true (n : Nat) : (List.replicate n true).all id = true := by
  rw [List.all_eq_true]
  intro b hb
  rw [List.eq_of_mem_replicate hb]
  rfl
theorem ok_name (g : Bi mg) (hL : ∃ t, mg "LONGEST" = some (.int 8 t)) (hA : ∃ t, mg "LETTERS" = some (.str LETT t)) (F : FnP K "is_name" 6 f fd) : FnOk P w K mg base CX0 1 f fd ["thing"] (SpQ K C 0 (fun _ ds => ∃ s, ds = [.str s] ∧ NmOk s) (fun _ d => d = .bl true)) := by
  refine fnd_ok F sc6 (fun _ _ ⟨_, h, _⟩ => h ▸ rfl) fun cdv A outer s H E hr q ds n B0 H0 D hp hn S hR hN => ?_
  obtain ⟨x, rfl, hx⟩ := hp
  have h1 : decide ((1 : Int) ≤ (x.length : Int)) = true := decide_eq_true (by have := hx.lo; omega)
  have h2 : decide ((x.length : Int) ≤ 8) = true := decide_eq_true (by have := hx.hi; omega)
  refine sg_no S rok0 (td_w (wd_orF (td_not (td_val (ed_isi g.isin (ed_var 0 rfl) (ed_ty (n := "str") g.str (by decide +kernel)) rfl rfl))) (wd_or1 (td_not (td_chain ed_int (ed_lenS g.len (ed_var 0 rfl) (by have := hx.hi; omega)) (ed_globI hL)))))) ?_ (by rw [h1, h2]; rfl)
  refine sg_retD S rok0 (ed_all S.calm g.all (ed_lcM (F := fun _ => .bl true) (G := fun d => [d]) (sl := [1]) (own := [("letter", 1)]) S.calm S.nd (blkOk_by (by kernel_rfl)) (id_str (ed_var 0 rfl)) (by decide) ?_ (fun Y hY c hc => ?_) (fun Y hY c hc => ?_) |>.to (by rw [map_true]))) (hR.to (by rw [all_true]))
  · unfold sgnD
    rw [List.length_map, Array.length_toList]
    have := hx.hi
    show x.length ≤ 100000
    omega
  · obtain ⟨s', H', A', cl, fp, rfl⟩ := hY
    exact gd_name S.nd
  · obtain ⟨s', H', A', cl, fp, rfl⟩ := hY
    unfold sgnD at hc
    obtain ⟨c', h1, rfl⟩ := List.mem_map.mp hc
    exact (ed_inC (ed_var 1 rfl) (ed_globS hA)).to (by rw [decide_eq_true (hx.ab c' h1)])
/-- strictly rising, names all -/
structure NmsOk (ns : List PySem.Str) : Prop where
  ok : ∀ s ∈ ns, NmOk s
  up : ns.Pairwise (fun a b => a.cps.toList < b.cps.toList)
theorem sc7 : FnScope ["thing", "many", "name", "one", "other"] ["thing", "many"] (defScope (top 7)) := ⟨rfl, rfl, rfl, by decide +kernel, rfl, by decide +kernel, by decide +kernel⟩
def preNames : Option Addr → List Dt → Prop := fun _ ds => ∃ (ns : List PySem.Str) (m : Int), ds = [.nms ns, .int m] ∧ NmsOk ns ∧ (ns.length : Int) ≤ m ∧ ns.length ≤ 8
theorem ok_names {fN : Addr} {fdN : FuncData} (g : Bi mg) (F : FnP K "are_names" 7 f fd) (FN : FnP K "is_name" 6 fN fdN) (mN : mg "is_name" = some (.ref fN)) (ON : FnOk P w K mg base CX0 1 fN fdN ["thing"] (SpQ K C 0 (fun _ ds => ∃ s, ds = [.str s] ∧ NmOk s) (fun _ d => d = .bl true))) :
    FnOk P w K mg base CX0 2 f fd ["thing", "many"] (SpQ K C 0 preNames (fun _ d => d = .bl true)) := by
  have bN : Binds K fdN ["thing"] [] := FN.bindsN fun _ _ _ _ _ _ us hl => match us, hl with | [_], _ => rfl
  refine fnd_ok F sc7 (fun _ _ ⟨_, _, h, _⟩ => h ▸ rfl) fun cdv A outer s H E hr q ds n B0 H0 D hp hn S hR hN => ?_
  obtain ⟨ns, m, rfl, ok, hm, hl⟩ := hp
  have hlt : decide (m < ((ns.map Dt.str).length : Int)) = false := decide_eq_false (by rw [List.length_map]; omega)
  have h7 : ∀ x ∈ zipD (ns.map Dt.str) (cutG (ns.map Dt.str) (some 1) none), ∃ a b : PySem.Str, x = .tup [.str a, .str b] ∧ a.cps.toList < b.cps.toList := fun x hx => by
    obtain ⟨j, hj⟩ := List.mem_iff_getElem?.mp hx
    obtain ⟨u, v, h1, h2, rfl⟩ := zipD_get hj
    rw [show (some (1 : Int)) = some ((1 : Nat) : Int) from rfl, cut_from, List.getElem?_drop, List.getElem?_map] at h2
    rw [List.getElem?_map] at h1
    cases g1 : ns[j]? with
    | none => rw [g1] at h1; cases h1
    | some a =>
      cases g2 : ns[1 + j]? with
      | none => rw [g2] at h2; cases h2
      | some b =>
        rw [g1] at h1
        rw [g2] at h2
        cases h1
        cases h2
        obtain ⟨l1, e1⟩ := List.getElem?_eq_some_iff.mp g1
        obtain ⟨l2, e2⟩ := List.getElem?_eq_some_iff.mp g2
        have := List.pairwise_iff_getElem.mp ok.up j (1 + j) l1 l2 (by omega)
        rw [e1, e2] at this
        exact ⟨a, b, rfl, this⟩
  refine sg_no S rok0 (td_w (wd_orF (td_not (td_val (ed_isi g.isin (ed_var 0 rfl) (ed_ty (n := "tuple") g.tuple (by decide +kernel)) rfl rfl))) (wd_orF (td_gt (ed_len g.len (ed_var 0 rfl) (show _ = some (ns.map Dt.str) from rfl)) (ed_var 1 rfl)) (wd_or1 (td_not (td_val (i1 := true) (ed_all (ns := List.replicate (ns.map Dt.str).length true) S.calm g.all (ed_lcM (F := fun _ => .bl true) (G := fun d => [d]) (sl := [2]) (own := [("name", 2)]) S.calm S.nd (blkOk_by (by kernel_rfl)) (id_nms (ed_var 0 rfl)) (by decide) ?_ (fun Y hY c hc => ?_) (fun Y hY c hc => ?_) |>.to (by rw [map_true])) |>.to (by rw [all_true]))))) hlt))) ?_
  · rw [List.length_map]
    omega
  · obtain ⟨s', H', A', cl, fp, rfl⟩ := hY
    exact gd_name S.nd
  · obtain ⟨s', H', A', cl, fp, rfl⟩ := hY
    obtain ⟨c', h1, rfl⟩ := List.mem_map.mp hc
    exact (ed_call (g := fun _ => .bl true) ON hr mN FN.kp bN (ad_cons (ed_var 2 rfl) ad_nil) ⟨c', rfl, ok.ok c' h1⟩).to rfl
  · refine sg_retD S rok0 (ed_all (ns := List.replicate (zipD (ns.map Dt.str) (cutG (ns.map Dt.str) (some 1) none)).length true) S.calm g.all (ed_lcM (F := fun _ => .bl true) (G := fun d => match d with | .tup l => l | _ => []) (sl := [3, 4]) (own := [("one", 3), ("other", 4)]) S.calm S.nd (blkOk_by (by kernel_rfl)) (id_zip2 g.zip (ad_cons (ed_var 0 rfl) (ad_cons (ed_sliceN (ed_var 0 rfl) (.some ed_int) .none) ad_nil)) (.n ns) (.t _)) (by decide) ?_ (fun Y hY c hc => ?_) (fun Y hY c hc => ?_) |>.to (by rw [map_true]))) (hR.to (by rw [all_true]))
    · rw [zipD_len, List.length_map]
      omega
    · obtain ⟨s', H', A', cl, fp, rfl⟩ := hY
      obtain ⟨a, b, rfl, _⟩ := h7 c hc
      exact gd_tup S.calm (gds_name S.nd (gds_name S.nd gds_nil)) rfl
    · obtain ⟨s', H', A', cl, fp, rfl⟩ := hY
      obtain ⟨a, b, rfl, h⟩ := h7 c hc
      exact (ed_ltS (ed_var 3 rfl) (ed_var 4 rfl)).to (by rw [decide_eq_true h])
end
end Cf

/-! Fn2: the talk's methods. -/
namespace Cf
open PySem PySem.Spec PyProof.Rows L2

def met (j : Nat) : Stmt := match top 29 with
  | .ClassDef _ _ _ body _ _ _ _ _ _ _ => body.getD j (.Pass ⟨0, 0, 0, 0⟩)
  | _ => .Pass ⟨0, 0, 0, 0⟩
abbrev FnM (K : PySem.W.Frag) (x qual : PySem.Str) (j : Nat) (f : Addr) (fd : FuncData) : Prop := FunD K x qual (defArgs (met j)) (defBody (met j)) (defScope (met j)) [] [] f fd
/-- a talk's names -/
structure TlOk (ss ns : List PySem.Str) : Prop where
  s : NmsOk ss
  n : NmsOk ns
  hs : ss.length ≤ 3
  hn : ns.length ≤ 2
  dj : ∀ x ∈ ns, x ∉ ss
structure TlK (K : PySem.W.Frag) (C : Addr) : Prop where
  cls : Cls K C
  ss : NoAttr K C "set_names"
  ns : NoAttr K C "number_names"
  tp : NoAttr K C "top"
/-- a region's bit -/
def lieB : List PySem.Str → Nat → PySem.Str → Bool
  | [], _, _ => false
  | o :: os, r, x => if o = x then decide (r % 2 = 1) else lieB os (r / 2) x
theorem sg_end {X : Cx} {C : Addr} {q r : Option Addr} {B0 H0 Bm : Hp} {N n : Nat} {env : En} {cs : Cs} {P : Dt → Prop} {D : Ends} (hN : Rt X C q r B0 H0 N P { D with rt := fun v H => v = .non → ∀ σ, D.nx σ H }) (hp : P .non) : SG X C q r B0 H0 N Bm n env cs [] D :=
  sg_nil fun σ H ⟨h, B, cf, kp, _⟩ => hN .non .non _ B H hp rfl h cf.ex kp cf.pl rfl σ
section
variable {P : Program} {w : World} {K : PySem.W.Frag} {mg : PySem.Str → Option Value} {base : Heap} {C : Addr} {f fW fR fd' fNd : Addr} {fd fdW fdR fdNd : FuncData}
abbrev SpW (K : PySem.W.Frag) (C : Addr) : Sp := SpQ K C 0 preWhole (fun ds d => d = wholeF ds)
theorem kbW2 (F : FnK K "is_whole" 5 [("least", .non), ("most", .non)] fW fdW) : ∃ mv : List Value, KBn K fdW ["thing", "least", "most"] 1 ["least", "most"] (fun us ws => us ++ ws) (fun vs zs => vs ++ zs) := by
  obtain ⟨mv, h⟩ := F.kbinds0 (ps := ["thing", "least", "most"]) 1 ["least", "most"] [] (fun us mz ws => us ++ ws) (by decide) (fun q h => by cases h) (fun h1 _ h2 => h1.append h2) (fun D doc pm an cdv ct us mv ws h1 h2 h3 => match us, mv, ws, h1, h2, h3 with | [_], [], [_, _], _, _, _ => rfl)
  exact ⟨mv, h⟩
theorem kbW1 (F : FnK K "is_whole" 5 [("least", .non), ("most", .non)] fW fdW) : ∃ mv : List Value, KBn K fdW ["thing", "least", "most"] 1 ["least"] (fun us ws => us ++ ws ++ mv) (fun vs zs => vs ++ zs ++ [.non]) := by
  obtain ⟨mv, h⟩ := F.kbinds0 (ps := ["thing", "least", "most"]) 1 ["least"] [("most", .non)] (fun us mz ws => us ++ ws ++ mz) (by decide) (fun q h => by cases h with | head => exact .tail _ (.head _) | tail _ h => cases h) (fun h1 h0 h2 => (h1.append h2).append h0)
    (fun D doc pm an cdv ct us mv ws h1 h2 h3 => match us, mv, ws, h1, h2, h3 with | [_], [_], [_], _, _, _ => ⟨_, _, _, _, _, _, rfl, rfl, rfl⟩)
  exact ⟨mv, h⟩

/-! ### sets, numbers, regions -/
def preT : Option Addr → List Dt → Prop := fun _ ds => ∃ ss ns top, ds = [.tlk ss ns top] ∧ TlOk ss ns
def setsF : List Dt → Dt
  | .tlk ss _ _ :: _ => .nms ss
  | _ => .non
def numsF : List Dt → Dt
  | .tlk _ ns _ :: _ => .nms ns
  | _ => .non
def regsF : List Dt → Dt
  | .tlk ss _ _ :: _ => .int ((2 ^ ss.length : Nat) : Int)
  | _ => .non
theorem scM1 : FnScope ["self"] ["self"] (defScope (met 1)) := ⟨rfl, rfl, rfl, by decide +kernel, rfl, by decide +kernel, by decide +kernel⟩
theorem scM2 : FnScope ["self"] ["self"] (defScope (met 2)) := ⟨rfl, rfl, rfl, by decide +kernel, rfl, by decide +kernel, by decide +kernel⟩
theorem scM4 : FnScope ["self"] ["self"] (defScope (met 4)) := ⟨rfl, rfl, rfl, by decide +kernel, rfl, by decide +kernel, by decide +kernel⟩
theorem ok_sets (tk : TlK K C) (F : FnM K "sets" "Talk.sets" 1 f fd) : FnOk P w K mg base CX0 1 f fd ["self"] (SpQ K C 0 preT (fun ds d => d = setsF ds)) := by
  refine fnd_ok F scM1 (fun _ _ ⟨_, _, _, h, _⟩ => h ▸ rfl) fun cdv A outer s H E hr q ds n B0 H0 D hp hn S hR hN => ?_
  obtain ⟨ss, ns, top, rfl, ok⟩ := hp
  exact sg_retD S rok0 (ed_sets tk.cls tk.ss (ed_var 0 rfl)) (hR.to rfl)
theorem ok_nums (tk : TlK K C) (F : FnM K "numbers" "Talk.numbers" 2 f fd) : FnOk P w K mg base CX0 1 f fd ["self"] (SpQ K C 0 preT (fun ds d => d = numsF ds)) := by
  refine fnd_ok F scM2 (fun _ _ ⟨_, _, _, h, _⟩ => h ▸ rfl) fun cdv A outer s H E hr q ds n B0 H0 D hp hn S hR hN => ?_
  obtain ⟨ss, ns, top, rfl, ok⟩ := hp
  exact sg_retD S rok0 (ed_nums tk.cls tk.ns (ed_var 0 rfl)) (hR.to rfl)
theorem ok_regs (tk : TlK K C) (g : Bi mg) (F : FnM K "regions" "Talk.regions" 4 f fd) : FnOk P w K mg base CX0 1 f fd ["self"] (SpQ K C 0 preT (fun ds d => d = regsF ds)) := by
  refine fnd_ok F scM4 (fun _ _ ⟨_, _, _, h, _⟩ => h ▸ rfl) fun cdv A outer s H E hr q ds n B0 H0 D hp hn S hR hN => ?_
  obtain ⟨ss, ns, top, rfl, ok⟩ := hp
  have h3 := ok.hs
  refine sg_retD S rok0 (ed_shl ?_ ed_int (ed_len g.len (ed_sets tk.cls tk.ss (ed_var 0 rfl)) (show _ = some (ss.map Dt.str) from rfl))) (hR.to ?_)
  · rw [List.length_map]
    exact ⟨by omega, by omega, by decide⟩
  · rw [List.length_map, Int.toNat_natCast]
    show Dt.int (1 * 2 ^ ss.length) = Dt.int ((2 ^ ss.length : Nat) : Int)
    rw [Int.one_mul]
    exact congrArg Dt.int (by norm_cast)

/-! ### need_region, lies, place -/
/-- is_whole(x, least=a, most=b) and is_whole(x, least=a) -/
def HasW (P : Program) (w : World) (K : PySem.W.Frag) (mg : PySem.Str → Option Value) (base : Heap) (C : Addr) (lv : Nat) : Prop := ∃ f fd, FnK K "is_whole" 5 [("least", .non), ("most", .non)] f fd ∧ mg "is_whole" = some (.ref f) ∧ FnOk P w K mg base CX0 lv f fd ["thing", "least", "most"] (SpW K C)
theorem HasW.mono {lv lv' : Nat} (h : HasW P w K mg base C lv) (hl : lv ≤ lv') : HasW P w K mg base C lv' := let ⟨f, fd, a, b, d⟩ := h; ⟨f, fd, a, b, d.mono hl⟩
end
section
variable {X : Cx} {C : Addr} {q : Option Addr} {lv : Nat} {env : En} {cs : Cs} {e a b o : Expr} {pos p k1 k2 apos : Pos} {i l m : Int} {ss ns : List PySem.Str} {top : Int}
theorem ed_whole2 (h : HasW X.prog X.w X.K X.mg X.base C lv) (hr : Room lv X.A) (he : ED X C q e env cs (.int i)) (ha : ED X C q a env cs (.int l)) (hb : ED X C q b env cs (.int m)) (hg : Gl X "is_whole" := by rfl)
    (hall : (backToKw pos (keywordEach [⟨some "least", a, k1⟩, ⟨some "most", b, k2⟩] X.env)).all (·.1.isSome) = true := by rfl) (hks : (backToKw pos (keywordEach [⟨some "least", a, k1⟩, ⟨some "most", b, k2⟩] X.env)).filterMap (·.1) = (["least", "most"] : List PySem.Str) := by rfl)
    (hs : starEach [e] X.env = (false, eval e X.env) :: starEach [] X.env := by rfl) (hpl : ((backTo pos (starEach [e] X.env)).any (·.1) || (backToKw pos (keywordEach [⟨some "least", a, k1⟩, ⟨some "most", b, k2⟩] X.env)).any (·.1.isNone)) = false := by rfl) :
    ED X C q (.Call (.Name "is_whole" p) [e] [⟨some "least", a, k1⟩, ⟨some "most", b, k2⟩] pos) env cs (.bl (decide (l ≤ i) && decide (i ≤ m))) := by
  obtain ⟨f, fd, F, h1, h2⟩ := h
  obtain ⟨mv, kb⟩ := kbW2 F
  exact em_callN (gD := fun ds es => ds ++ es) h2 hr h1 F.kp kb (fun _ _ _ _ _ h1 h2 => h1.append h2) (ad_cons he ad_nil (hs := hs)) (kd_cons ha (kd_cons hb kd_nil)) rfl rfl ⟨_, _, _, rfl, rfl, rfl⟩ hg hall hks (by decide) hs hpl
theorem ed_whole1 (h : HasW X.prog X.w X.K X.mg X.base C lv) (hr : Room lv X.A) (he : ED X C q e env cs (.int i)) (ha : ED X C q a env cs (.int l)) (hg : Gl X "is_whole" := by rfl)
    (hall : (backToKw pos (keywordEach [⟨some "least", a, k1⟩] X.env)).all (·.1.isSome) = true := by rfl) (hks : (backToKw pos (keywordEach [⟨some "least", a, k1⟩] X.env)).filterMap (·.1) = (["least"] : List PySem.Str) := by rfl)
    (hs : starEach [e] X.env = (false, eval e X.env) :: starEach [] X.env := by rfl) (hpl : ((backTo pos (starEach [e] X.env)).any (·.1) || (backToKw pos (keywordEach [⟨some "least", a, k1⟩] X.env)).any (·.1.isNone)) = false := by rfl) :
    ED X C q (.Call (.Name "is_whole" p) [e] [⟨some "least", a, k1⟩] pos) env cs (.bl (decide (l ≤ i) && true)) := by
  obtain ⟨f, fd, F, h1, h2⟩ := h
  obtain ⟨mv, kb⟩ := kbW1 F
  exact em_callN (gD := fun ds es => ds ++ es ++ [.non]) h2 hr h1 F.kp kb (fun _ _ _ _ _ h1 h2 => (h1.append h2).snoc (d := .non) rfl) (ad_cons he ad_nil (hs := hs)) (kd_cons ha kd_nil) rfl rfl ⟨_, _, _, rfl, rfl, rfl⟩ hg hall hks (by decide) hs hpl
end
abbrev SpR (K : PySem.W.Frag) (C : Addr) : Sp := SpQ K C 0 preT (fun ds d => d = regsF ds)
def preTR : Option Addr → List Dt → Prop := fun _ ds => ∃ ss ns top r, ds = [.tlk ss ns top, .int ((r : Nat) : Int)] ∧ TlOk ss ns ∧ r < 2 ^ ss.length
abbrev SpNd (K : PySem.W.Frag) (C : Addr) : Sp := SpQ K C 0 preTR (fun _ d => d = .non)
def preTRS : Option Addr → List Dt → Prop := fun _ ds => ∃ ss ns top r x, ds = [.tlk ss ns top, .int ((r : Nat) : Int), .str x] ∧ TlOk ss ns ∧ r < 2 ^ ss.length ∧ x ∈ ss
def liesF : List Dt → Dt
  | [.tlk ss _ _, .int r, .str x] => .bl (lieB ss r.toNat x)
  | _ => .non
def preTN : Option Addr → List Dt → Prop := fun _ ds => ∃ ss ns top x, ds = [.tlk ss ns top, .str x] ∧ TlOk ss ns ∧ x ∈ ns
def placeF : List Dt → Dt
  | [.tlk ss ns _, .str x] => .int ((2 ^ ss.length + ns.idxOf x : Nat) : Int)
  | _ => .non
theorem idx_cons_ne {o x : PySem.Str} (os : List PySem.Str) (e : o ≠ x) : (o :: os).idxOf x = os.idxOf x + 1 := by
  have e' : (o == x) = false := by
    cases z : (o == x) with
    | false => rfl
    | true => exact absurd (eq_of_beq z) e
  rw [List.idxOf_cons, e']
  rfl
theorem lieB_shift : ∀ (ss : List PySem.Str) (r : Nat) (x : PySem.Str), x ∈ ss → lieB ss r x = decide (((r : Int) / 2 ^ (ss.idxOf x)) % 2 = 1)
  | [], _, _, h => by cases h
  | o :: os, r, x, h => by
    by_cases e : o = x
    · subst e
      rw [List.idxOf_cons_self]
      show (if o = o then _ else _) = _
      rw [if_pos rfl]
      have : ((r : Int) / 2 ^ 0) % 2 = ((r % 2 : Nat) : Int) := by simp
      rw [this]
      congr 1
      exact propext ⟨fun h => by omega, fun h => by omega⟩
    · have hm : x ∈ os := by
        cases h with
        | head => exact absurd rfl e
        | tail _ h => exact h
      show (if o = x then _ else lieB os (r / 2) x) = _
      rw [if_neg e, lieB_shift os (r / 2) x hm, idx_cons_ne os e]
      have : (r : Int) / 2 ^ (os.idxOf x + 1) = ((r / 2 : Nat) : Int) / 2 ^ (os.idxOf x) := by
        rw [Int.pow_succ, Int.mul_comm, ← Int.ediv_ediv_of_nonneg (by decide)]
        simp
      rw [this]
theorem idx_at : ∀ {ss : List PySem.Str} {x : PySem.Str}, x ∈ ss → ss[ss.idxOf x]? = some x ∧ ∀ m, m < ss.idxOf x → ss[m]? ≠ some x
  | [], _, h => by cases h
  | o :: os, x, h => by
    by_cases e : o = x
    · subst e
      rw [List.idxOf_cons_self]
      exact ⟨rfl, fun m hm => by omega⟩
    · have hm : x ∈ os := by
        cases h with
        | head => exact absurd rfl e
        | tail _ h => exact h
      obtain ⟨h1, h2⟩ := idx_at hm
      rw [idx_cons_ne os e]
      refine ⟨h1, fun m hm => ?_⟩
      cases m with
      | zero => exact fun z => e (Option.some.inj z)
      | succ m => exact h2 m (by omega)
section
variable {P : Program} {w : World} {K : PySem.W.Frag} {mg : PySem.Str → Option Value} {base : Heap} {C : Addr} {f : Addr} {fd : FuncData}
theorem scM5 : FnScope ["self", "region"] ["self", "region"] (defScope (met 5)) := ⟨rfl, rfl, rfl, by decide +kernel, rfl, by decide +kernel, by decide +kernel⟩
theorem ok_need (tk : TlK K C) (F : FnM K "need_region" "Talk.need_region" 5 f fd) (W : HasW P w K mg base C 1) (R : HasM P w K mg base C 1 "regions" ["self"] (SpR K C)) : FnOk P w K mg base CX0 2 f fd ["self", "region"] (SpNd K C) := by
  refine fnd_ok F scM5 (fun _ _ ⟨_, _, _, _, h, _⟩ => h ▸ rfl) fun cdv A outer s H E hr q ds n B0 H0 D hp hn S hR hN => ?_
  obtain ⟨ss, ns, top, r, rfl, ok, hlt⟩ := hp
  refine sg_no S rok0 (td_not (td_val (ed_whole2 W hr (ed_var 1 rfl) ed_int (ed_sub (ed_meth0F (g := regsF) tk.cls R hr (ed_var 0 rfl) ⟨ss, ns, top, rfl, ok⟩) ed_int)))) (sg_end hN rfl) ?_
  rw [decide_eq_true (by omega : (0 : Int) ≤ (r : Int)), decide_eq_true (by omega : (r : Int) ≤ ((2 ^ ss.length : Nat) : Int) - 1)]
  rfl
theorem scM6 : FnScope ["self", "region", "name"] ["self", "region", "name"] (defScope (met 6)) := ⟨rfl, rfl, rfl, by decide +kernel, rfl, by decide +kernel, by decide +kernel⟩
theorem sg_exprD {X : Cx} {q r : Option Addr} {B0 H0 Bm : Hp} {N n : Nat} {env : En} {cs : Cs} {rest : List Stmt} {D : Ends} {e : Expr} {pos : Pos} {d : Dt} (S : SOk X q r N) (hr : Rok q r cs) (he : ED X C q e env cs d) (h : SG X C q r B0 H0 N Bm n env cs rest D) (hs : swapsWith e none pos.line X.env = pure false := by rfl) :
    SG X C q r B0 H0 N Bm n env cs (.Expr e pos :: rest) D := sg_st (ps_expr wpE_pe hs) fun σ H a => sg_val (k := 0) S hr he a.1 a fun v d B2 H2 p de cf kp co em => h _ _ ⟨a.1, B2, cf, kp, co, em⟩
theorem ok_lies (tk : TlK K C) (F : FnM K "lies" "Talk.lies" 6 f fd) (Nd : HasM P w K mg base C 2 "need_region" ["self", "region"] (SpNd K C)) : FnOk P w K mg base CX0 3 f fd ["self", "region", "name"] (SpQ K C 0 preTRS (fun ds d => d = liesF ds)) := by
  refine fnd_ok F scM6 (fun _ _ ⟨_, _, _, _, _, h, _⟩ => h ▸ rfl) fun cdv A outer s H E hr q ds n B0 H0 D hp hn S hR hN => ?_
  obtain ⟨ss, ns, top, r, x, rfl, ok, hlt, hx⟩ := hp
  obtain ⟨i1, i2⟩ := idx_at hx
  refine sg_exprD S rok0 (ed_methF (g := fun _ => .non) tk.cls Nd hr (ed_var 0 rfl) (ad_cons (ed_var 1 rfl) ad_nil) ⟨ss, ns, top, r, rfl, ok, hlt⟩) ?_
  refine sg_no S rok0 (td_ninS (ed_var 2 rfl) (ed_sets tk.cls tk.ss (ed_var 0 rfl)) (show _ = some (ss.map Dt.str) from rfl)) ?_ (by rw [decide_eq_true hx]; rfl)
  refine sg_retD S rok0 (ed_eqI (ed_mod (by decide) (ed_shr (by omega) (ed_var 1 rfl) (ed_index (ed_sets tk.cls tk.ss (ed_var 0 rfl)) (ed_var 2 rfl) i1 i2)) ed_int) ed_int) (hR.to ?_)
  show _ = Dt.bl (lieB ss ((r : Int)).toNat x)
  rw [Int.toNat_natCast, Int.toNat_natCast, lieB_shift ss r x hx]
theorem scM7 : FnScope ["self", "name"] ["self", "name"] (defScope (met 7)) := ⟨rfl, rfl, rfl, by decide +kernel, rfl, by decide +kernel, by decide +kernel⟩
theorem ok_place (tk : TlK K C) (F : FnM K "place" "Talk.place" 7 f fd) (R : HasM P w K mg base C 1 "regions" ["self"] (SpR K C)) : FnOk P w K mg base CX0 2 f fd ["self", "name"] (SpQ K C 0 preTN (fun ds d => d = placeF ds)) := by
  refine fnd_ok F scM7 (fun _ _ ⟨_, _, _, _, h, _⟩ => h ▸ rfl) fun cdv A outer s H E hr q ds n B0 H0 D hp hn S hR hN => ?_
  obtain ⟨ss, ns, top, x, rfl, ok, hx⟩ := hp
  obtain ⟨i1, i2⟩ := idx_at hx
  refine sg_no S rok0 (td_ninS (ed_var 1 rfl) (ed_nums tk.cls tk.ns (ed_var 0 rfl)) (show _ = some (ns.map Dt.str) from rfl)) ?_ (by rw [decide_eq_true hx]; rfl)
  refine sg_retD S rok0 (ed_add (ed_meth0F (g := regsF) tk.cls R hr (ed_var 0 rfl) ⟨ss, ns, top, rfl, ok⟩) (ed_index (ed_nums tk.cls tk.ns (ed_var 0 rfl)) (ed_var 1 rfl) i1 i2)) (hR.to ?_)
  show Dt.int (((2 ^ ss.length : Nat) : Int) + _) = Dt.int ((2 ^ ss.length + ns.idxOf x : Nat) : Int)
  rw [Int.natCast_add]
theorem scM11 : FnScope ["self"] ["self"] (defScope (met 11)) := ⟨rfl, rfl, rfl, by decide +kernel, rfl, by decide +kernel, by decide +kernel⟩
def lenF : List Dt → Dt
  | .tlk ss ns _ :: _ => .int ((2 ^ ss.length + ns.length : Nat) : Int)
  | _ => .non
theorem pow8 {ss ns : List PySem.Str} (ok : TlOk ss ns) : 2 ^ ss.length ≤ 8 := by
  have := ok.hs
  have : 2 ^ ss.length ≤ 2 ^ 3 := Nat.pow_le_pow_right (by decide) this
  omega
theorem ok_lenT (g : Bi mg) (tk : TlK K C) (F : FnM K "__len__" "Talk.__len__" 11 f fd) (R : HasM P w K mg base C 1 "regions" ["self"] (SpR K C)) : FnOk P w K mg base CX0 2 f fd ["self"] (SpQ K C 0 preT (fun ds d => d = lenF ds)) := by
  refine fnd_ok F scM11 (fun _ _ ⟨_, _, _, h, _⟩ => h ▸ rfl) fun cdv A outer s H E hr q ds n B0 H0 D hp hn S hR hN => ?_
  obtain ⟨ss, ns, top, rfl, ok⟩ := hp
  have h8 := pow8 ok
  have hn2 := ok.hn
  refine sg_retD S rok0 (ed_len g.len (ed_catL ?_ (ed_rep (d := .int 0) (i := ((2 ^ ss.length : Nat) : Int)) (Int.natCast_nonneg _) (Int.ofNat_le.mpr (Nat.le_trans h8 (by decide))) (ed_lst (ad_cons ed_int ad_nil) (by decide)) (ed_meth0F (g := regsF) tk.cls R hr (ed_var 0 rfl) ⟨ss, ns, top, rfl, ok⟩)) (ed_list g.list (ed_nums tk.cls tk.ns (ed_var 0 rfl)) (show _ = some (ns.map Dt.str) from rfl))) rfl) (hR.to ?_)
  · rw [List.length_replicate, List.length_map, Int.toNat_natCast]
    omega
  · rw [List.length_append, List.length_replicate, List.length_map, Int.toNat_natCast]
    rfl
end
end Cf

/-! Fn3: len(talk); terms: holds, regions_of, alone, term_for. -/
namespace Cf
open PySem PySem.Spec PyProof.Rows L2
section
variable {X : Cx} {C : Addr} {lv : Nat} {f : Addr} {fd : FuncData} {sp : Sp}
theorem call_lenOwn (M : Meth X.K C "__len__" f) (hb : Binds X.K fd ["self"] []) (F : FnOk X.prog X.w X.K X.mg X.base CX0 lv f fd ["self"] sp) (hr : Room (lv + 1) X.A) :
    CallR X (.builtin "len") (fun xs H Q => ∃ a dx fs, xs = [.ref a] ∧ H a = some (.ins C dx fs) ∧ sp [.ref a] H (fun v H' => ∃ i : Int, v = .int i ∧ (0 ≤ i ∧ i < 2 ^ 62) ∧ Q (.int i) H') E0) := by
  intro pins s σ H xs us Q I r h
  obtain ⟨a, dx, fs, rfl, ha, q⟩ := h
  obtain rfl := Vals.ref1 r
  obtain ⟨mA, J, _⟩ := ins_get I.hok ha
  obtain ⟨od, Iat, _⟩ := J.look
  refine Calls.call_function_entry kind_len plain_len entry_len (args_len1 _) ?_
  unfold Builtin.«len»
  refine wpAny_bind (m := oneArg "len" _) (wpAny_pure ?_)
  refine wpAny_bind (m := callSpecial? (.ref a) (Str.ofString "__len__")) (PySem.W.special_fn I.kIn Iat M.at_ (beq_iff_eq.mp M.fn) (wpAny_call (codeAny_mono (F.run X.A.in1 X.stack s H ⟨[.ref a], []⟩ ([.ref a] ++ []) ([.ref a] ++ []) _ E0 hr.in1 I.env0.in1 (hb s [.ref a] I.kIn rfl) (r.append .nil) q) fun r s' hq => ?_)))
  cases r with
  | error e => exact hq.elim
  | ok fl =>
    cases fl with
    | next => exact False.elim hq
    | brk => exact False.elim hq
    | cont => exact False.elim hq
    | ret u =>
      obtain ⟨v, H', I', rv, i, rfl, hi, q'⟩ := I.after hq
      obtain ⟨t, rfl⟩ := rv
      refine wpAny_bind (wpAny_holding (wpAny_pure ?_))
      refine wpAny_bind (wpAny_letGo ?_)
      show wpAny _ _ (if i < 0 then _ else _) _ _ _
      rw [if_neg (by omega)]
      show wpAny _ _ (if i ≥ 2 ^ 63 then _ else _) _ _ _
      rw [if_neg (by omega)]
      exact wpAny_bind (wpAny_mkInt (wpAny_pure ⟨_, rfl, .int i, H', I'.tok _, ⟨_, rfl⟩, q'⟩))
end
section
variable {X : Cx} {C : Addr} {q : Option Addr} {lv : Nat} {env : En} {cs : Cs} {e : Expr} {pos p : Pos} {ss ns : List PySem.Str} {top : Int}
theorem ed_lenT (h : HasM X.prog X.w X.K X.mg X.base C lv "__len__" ["self"] (SpQ X.K C 0 preT (fun ds d => d = lenF ds))) (hr : Room (lv + 1) X.A) (hm : X.mg "len" = none) (he : ED X C q e env cs (.tlk ss ns top)) (ok : TlOk ss ns) (hg : Gl X "len" := by rfl) (hs : starEach [e] X.env = (false, eval e X.env) :: starEach [] X.env := by rfl) :
    ED X C q (.Call (.Name "len" p) [e] [] pos) env cs (.int ((2 ^ ss.length + ns.length : Nat) : Int)) := by
  obtain ⟨f, fd, M, b, F⟩ := h
  refine em_callB (call_lenOwn M b F hr) hm PySem.boot_len (ad_cons he ad_nil (hs := hs)) (fun _ h => h ▸ ?_) hg (by decide) (by decide) hs rfl
  intro n B H xs Q bs hd hf
  obtain ⟨x, rfl, h1⟩ := hd.one
  obtain ⟨a, dx, p, r, rfl, g1, g2, g3⟩ := tlk_ins h1 bs.ex
  refine ⟨a, dx, _, rfl, g1, [.tlk ss ns top], B, q, n, ⟨_, [], rfl, h1, rfl⟩, bs, bs.pl.1, ⟨ss, ns, top, rfl, ok⟩, fun v d B2 H2 h2 e2 o2 => ?_⟩
  subst h2
  have h8 := pow8 ok
  have := ok.hn
  have h16 : 2 ^ ss.length + ns.length ≤ 10 := by omega
  exact ⟨_, e2, ⟨Int.natCast_nonneg _, Int.lt_of_le_of_lt (Int.ofNat_le.mpr h16) (by decide)⟩, hf _ _ B2 H2 rfl rfl o2⟩
end

/-! ### terms -/
inductive Tm where
  | nm (s : PySem.Str)
  | all
  | none
  | not (t : Tm)
  | and (a b : Tm)
  | or (a b : Tm)
  | but (a b : Tm)
def tD : Tm → Dt
  | .nm s => .str s
  | .all => .tup [.str "all"]
  | .none => .tup [.str "none"]
  | .not t => .tup [.str "not", tD t]
  | .and a b => .tup [.str "and", tD a, tD b]
  | .or a b => .tup [.str "or", tD a, tD b]
  | .but a b => .tup [.str "but", tD a, tD b]
/-- the names stand in ss -/
def Tm.In (ss : List PySem.Str) : Tm → Prop
  | .nm s => s ∈ ss
  | .all => True
  | .none => True
  | .not t => t.In ss
  | .and a b => a.In ss ∧ b.In ss
  | .or a b => a.In ss ∧ b.In ss
  | .but a b => a.In ss ∧ b.In ss
def Tm.deep : Tm → Nat
  | .nm _ => 0
  | .all => 0
  | .none => 0
  | .not t => t.deep + 1
  | .and a b => max a.deep b.deep + 1
  | .or a b => max a.deep b.deep + 1
  | .but a b => max a.deep b.deep + 1
def Tm.ev (f : PySem.Str → Bool) : Tm → Bool
  | .nm s => f s
  | .all => true
  | .none => false
  | .not t => !t.ev f
  | .and a b => a.ev f && b.ev f
  | .or a b => a.ev f || b.ev f
  | .but a b => a.ev f && !b.ev f
section
variable {P : Program} {w : World} {K : PySem.W.Frag} {mg : PySem.Str → Option Value} {base : Heap} {C : Addr} {f : Addr} {fd : FuncData}
/-- holds(talk, region, term), of terms at most n deep -/
def preH (m : Nat) : Option Addr → List Dt → Prop := fun _ ds => ∃ ss ns top r t, ds = [.tlk ss ns top, .int ((r : Nat) : Int), tD t] ∧ TlOk ss ns ∧ r < 2 ^ ss.length ∧ t.In ss ∧ t.deep ≤ m
def postH : List Dt → Dt → Prop := fun ds d => ∀ ss ns top r t, ds = [.tlk ss ns top, .int ((r : Nat) : Int), tD t] → d = .bl (t.ev (lieB ss r))
theorem sc18 : FnScope ["talk", "region", "term", "word", "kids", "told", "kid", "one", "other"] ["talk", "region", "term"] (defScope (top 18)) := ⟨rfl, rfl, rfl, by decide +kernel, rfl, by decide +kernel, by decide +kernel⟩
theorem tD_inj : ∀ {t t' : Tm}, tD t = tD t' → t = t' := by
  intro t
  induction t with
  | nm s => intro t' h; cases t' <;> simp only [tD] at h <;> first | (cases h; rfl) | cases h
  | all => intro t' h; cases t' <;> simp [tD] at h <;> first | rfl | (exact absurd h (by decide))
  | none => intro t' h; cases t' <;> simp [tD] at h <;> first | rfl | (exact absurd h (by decide))
  | not t ih => intro t' h; cases t' <;> simp [tD] at h <;> first | (rw [ih h]) | (exact absurd h (by decide)) | skip
  | and a b ih1 ih2 => intro t' h; cases t' <;> simp [tD] at h <;> first | (rw [ih1 h.1, ih2 h.2]) | (exact absurd h.1 (by decide)) | skip
  | or a b ih1 ih2 => intro t' h; cases t' <;> simp [tD] at h <;> first | (rw [ih1 h.1, ih2 h.2]) | (exact absurd h.1 (by decide)) | skip
  | but a b ih1 ih2 => intro t' h; cases t' <;> simp [tD] at h <;> first | (rw [ih1 h.1, ih2 h.2]) | (exact absurd h.1 (by decide)) | skip
/-- a term's word and kids -/
def Tm.word : Tm → PySem.Str
  | .nm s => s
  | .all => "all"
  | .none => "none"
  | .not _ => "not"
  | .and _ _ => "and"
  | .or _ _ => "or"
  | .but _ _ => "but"
def Tm.kids : Tm → List Tm
  | .nm _ => []
  | .all => []
  | .none => []
  | .not t => [t]
  | .and a b => [a, b]
  | .or a b => [a, b]
  | .but a b => [a, b]
theorem kid_in {ss : List PySem.Str} {m : Nat} {t k : Tm} (h : t.In ss) (hd : t.deep ≤ m + 1) (hk : k ∈ t.kids) : k.In ss ∧ k.deep ≤ m := by
  cases t with
  | nm s => cases hk
  | all => cases hk
  | none => cases hk
  | not t =>
    cases List.mem_singleton.mp hk
    exact ⟨h, Nat.le_of_succ_le_succ hd⟩
  | and a b =>
    have hd' : max a.deep b.deep ≤ m := Nat.le_of_succ_le_succ hd
    rcases List.mem_cons.mp hk with rfl | hk
    · exact ⟨h.1, by omega⟩
    · cases List.mem_singleton.mp hk
      exact ⟨h.2, by omega⟩
  | or a b =>
    have hd' : max a.deep b.deep ≤ m := Nat.le_of_succ_le_succ hd
    rcases List.mem_cons.mp hk with rfl | hk
    · exact ⟨h.1, by omega⟩
    · cases List.mem_singleton.mp hk
      exact ⟨h.2, by omega⟩
  | but a b =>
    have hd' : max a.deep b.deep ≤ m := Nat.le_of_succ_le_succ hd
    rcases List.mem_cons.mp hk with rfl | hk
    · exact ⟨h.1, by omega⟩
    · cases List.mem_singleton.mp hk
      exact ⟨h.2, by omega⟩
abbrev SpH (K : PySem.W.Frag) (C : Addr) (m : Nat) : Sp := SpQ K C 0 (preH m) postH
theorem em_holds {X : Cx} {q : Option Addr} {env : En} {cs : Cs} {a b c : Expr} {p pos : Pos} {m lv r : Nat} {ss ns : List PySem.Str} {top : Int} {t : Tm} (h : HasF X.prog X.w X.K X.mg X.base lv "holds" ["talk", "region", "term"] (SpH X.K C m)) (hr : Room lv X.A)
    (ha : ED X C q a env cs (.tlk ss ns top)) (hb : ED X C q b env cs (.int ((r : Nat) : Int))) (hc : ED X C q c env cs (tD t)) (ok : TlOk ss ns) (hlt : r < 2 ^ ss.length) (hin : t.In ss) (hd : t.deep ≤ m) (hg : Gl X "holds" := by rfl)
    (he : starEach [a, b, c] X.env = (false, eval a X.env) :: starEach [b, c] X.env := by rfl) (he2 : starEach [b, c] X.env = (false, eval b X.env) :: starEach [c] X.env := by rfl) (he3 : starEach [c] X.env = (false, eval c X.env) :: starEach [] X.env := by rfl) (hpl : (backTo pos (starEach [b, c] X.env)).any (·.1) = false := by rfl) :
    ED X C q (.Call (.Name "holds" p) [a, b, c] [] pos) env cs (.bl (t.ev (lieB ss r))) :=
  em_callF (k := 0) (kf := 0) h hr (ad_cons ha (ad_cons hb (ad_cons hc ad_nil he3) he2) he) (fun _ e => e ▸ ⟨ss, ns, top, r, t, rfl, ok, hlt, hin, hd⟩) (fun ds d e h => h ss ns top r t e) hg (by decide) he hpl
theorem postH_to {ss ns : List PySem.Str} {top : Int} {r : Nat} {t : Tm} {d : Dt} (h : d = .bl (t.ev (lieB ss r))) : postH [.tlk ss ns top, .int ((r : Nat) : Int), tD t] d := fun ss' ns' top' r' t' e => by
  injection e with e1 e2
  injection e1 with e3
  injection e2 with e4 e5
  injection e5 with e6
  have := tD_inj e6
  subst this
  subst e3
  injection e4 with e7
  obtain rfl := Int.ofNat.inj e7
  exact h
theorem ok_holds0 {m : Nat} (tk : TlK K C) (g : Bi mg) (F : FnP K "holds" 18 f fd) (L : HasM P w K mg base C 3 "lies" ["self", "region", "name"] (SpQ K C 0 preTRS (fun ds d => d = liesF ds)))
    (IH : ∀ m', m = m' + 1 → HasF P w K mg base (4 + m') "holds" ["talk", "region", "term"] (SpH K C m')) : FnOk P w K mg base CX0 (4 + m) f fd ["talk", "region", "term"] (SpH K C m) := by
  have e4 : 4 + m = (3 + m) + 1 := by omega
  rw [e4]
  refine fnd_ok F sc18 (fun _ _ ⟨_, _, _, _, _, h, _⟩ => h ▸ rfl) fun cdv A outer s H E hr q ds n B0 H0 D hp hn S hR hN => ?_
  obtain ⟨ss, ns, tp, r, t, rfl, ok, hlt, hin, hd⟩ := hp
  have hr3 := hr.mono (j := 3) (by omega)
  have fin : ∀ d, d = Dt.bl (t.ev (lieB ss r)) → Rt (bX P w K mg base ["talk", "region", "term", "word", "kids", "told", "kid", "one", "other"] "holds" (defScope (top 18)) f cdv A outer s H E) C q q B0 H0 (n + 0) (fun x => x = d) D := fun d e => hR.to (postH_to e)
  by_cases hnm : ∃ x, t = .nm x
  · obtain ⟨x, rfl⟩ := hnm
    refine sg_T S rok0 (td_val (ed_isi g.isin (ed_var 2 rfl) (ed_ty (n := "str") g.str (by decide +kernel)) rfl rfl)) (sg_retD S rok0 (ed_methF (g := liesF) tk.cls L hr3 (ed_var 0 rfl) (ad_cons (ed_var 1 rfl) (ad_cons (ed_var 2 rfl) ad_nil)) ⟨ss, ns, tp, r, x, rfl, ok, hlt, hin⟩) (fin _ ?_))
    show Dt.bl (lieB ss ((r : Int)).toNat x) = _
    rw [Int.toNat_natCast]
    rfl
  · have ht : tD t = .tup (.str t.word :: t.kids.map tD) := by
      cases t with
      | nm x => exact absurd ⟨x, rfl⟩ hnm
      | _ => rfl
    refine sg_no S rok0 (td_val (ed_isi g.isin ((ed_var 2 rfl).to ht) (ed_ty (n := "str") g.str (by decide +kernel)) rfl rfl)) ?_
    refine sg_tgtD (sl := [3, 4]) S rok0 ((ed_var 2 rfl).to ht) (gd_star (i := 1) S.calm (gds_name S.nd (gds_star S.nd)) (.t _) (Nat.succ_le_succ (Nat.zero_le _)) rfl) ?_
    refine sg_lc (k := 0) S 5 rok0 (ps_lc (own := [("kid", 6)]) 5 S (blkOk_by (by kernel_rfl))) (lr_L (ys := t.kids.map fun k => .bl (k.ev (lieB ss r))) (gs := fun j => [tD (t.kids.getD j .all)]) (sl := [6]) (id_list (ed_var 4 rfl)) (by decide) ?_ (by rw [List.length_map, List.length_drop, List.length_cons, List.length_map]; rfl) (fun Y hY j x hx => ?_) (fun Y hY j x y hx hy => ?_)) (Nat.le_refl _) (fun ds e => ?_)
    · rw [List.length_drop, List.length_cons, List.length_map]
      cases t <;> simp [Tm.kids]
    · obtain ⟨s', H', A', cl, fp, rfl⟩ := hY
      have hx' : (t.kids.map tD)[j]? = some x := hx
      rw [List.getElem?_map] at hx'
      have e : x = tD (t.kids.getD j .all) := by
        rw [List.getD_eq_getElem?_getD]
        cases z : t.kids[j]? with
        | none => rw [z] at hx'; cases hx'
        | some k => rw [z] at hx'; cases hx'; rfl
      rw [e]
      exact gd_name S.nd
    · obtain ⟨s', H', A', cl, fp, rfl⟩ := hY
      have hx' : (t.kids.map tD)[j]? = some x := hx
      rw [List.getElem?_map] at hx' hy
      cases z : t.kids[j]? with
      | none => rw [z] at hx'; cases hx'
      | some k =>
        rw [z] at hx' hy
        cases hx'
        cases hy
        have ek : t.kids.getD j .all = k := by rw [List.getD_eq_getElem?_getD, z]; rfl
        rw [ek]
        cases m with
        | zero =>
          cases t <;> first | (exact absurd ⟨_, rfl⟩ hnm) | (cases z; done) | (cases (Nat.le_zero.mp hd))
        | succ m' =>
          obtain ⟨k1, k2⟩ := kid_in hin hd (List.mem_of_getElem? z)
          exact em_holds (IH m' rfl) (hr.mono (by omega)) (ed_var 0 rfl) (ed_var 1 rfl) (ed_var 6 rfl) ok hlt k1 k2
    · subst e
      cases t with
      | nm x => exact absurd ⟨x, rfl⟩ hnm
      | all =>
        refine sg_no S rok0 (td_eqS (ed_var 3 rfl) ed_str) ?_
        refine sg_T S rok0 (td_inS (ns := ["all", "none"]) (ed_var 3 rfl) (ed_tup (ad_cons ed_str (ad_cons ed_str ad_nil)) (by decide)) rfl) (sg_retD S rok0 (ed_eqS (ed_var 3 rfl) ed_str) (fin _ rfl))
      | none =>
        refine sg_no S rok0 (td_eqS (ed_var 3 rfl) ed_str) ?_
        refine sg_T S rok0 (td_inS (ns := ["all", "none"]) (ed_var 3 rfl) (ed_tup (ad_cons ed_str (ad_cons ed_str ad_nil)) (by decide)) rfl) (sg_retD S rok0 (ed_eqS (ed_var 3 rfl) ed_str) (fin _ rfl))
      | not t =>
        exact sg_T S rok0 (td_eqS (ed_var 3 rfl) ed_str) (sg_retD S rok0 (ed_not (ed_item (ed_var 5 rfl) ed_int rfl rfl)) (fin _ rfl))
      | and a b =>
        refine sg_no S rok0 (td_eqS (ed_var 3 rfl) ed_str) ?_
        refine sg_no S rok0 (td_inS (ns := ["all", "none"]) (ed_var 3 rfl) (ed_tup (ad_cons ed_str (ad_cons ed_str ad_nil)) (by decide)) rfl) ?_
        refine sg_tgtD (sl := [7, 8]) S rok0 (ed_var 5 rfl) (gd_unl S.calm (gds_name S.nd (gds_name S.nd gds_nil)) rfl) ?_
        refine sg_no S rok0 (td_eqS (ed_var 3 rfl) ed_str) ?_
        exact sg_retD S rok0 (ed_and (ed_var 7 rfl) fun _ => ed_one (ed_ifT (td_eqS (ed_var 3 rfl) ed_str) (ed_var 8 rfl))) (fin _ rfl)
      | or a b =>
        refine sg_no S rok0 (td_eqS (ed_var 3 rfl) ed_str) ?_
        refine sg_no S rok0 (td_inS (ns := ["all", "none"]) (ed_var 3 rfl) (ed_tup (ad_cons ed_str (ad_cons ed_str ad_nil)) (by decide)) rfl) ?_
        refine sg_tgtD (sl := [7, 8]) S rok0 (ed_var 5 rfl) (gd_unl S.calm (gds_name S.nd (gds_name S.nd gds_nil)) rfl) ?_
        exact sg_T S rok0 (td_eqS (ed_var 3 rfl) ed_str) (sg_retD S rok0 (ed_or (ed_var 7 rfl) fun _ => ed_one (ed_var 8 rfl)) (fin _ rfl))
      | but a b =>
        refine sg_no S rok0 (td_eqS (ed_var 3 rfl) ed_str) ?_
        refine sg_no S rok0 (td_inS (ns := ["all", "none"]) (ed_var 3 rfl) (ed_tup (ad_cons ed_str (ad_cons ed_str ad_nil)) (by decide)) rfl) ?_
        refine sg_tgtD (sl := [7, 8]) S rok0 (ed_var 5 rfl) (gd_unl S.calm (gds_name S.nd (gds_name S.nd gds_nil)) rfl) ?_
        refine sg_no S rok0 (td_eqS (ed_var 3 rfl) ed_str) ?_
        exact sg_retD S rok0 (ed_and (ed_var 7 rfl) fun _ => ed_one (ed_ifF (td_eqS (ed_var 3 rfl) ed_str) (ed_not (ed_var 8 rfl)))) (fin _ rfl)
end
end Cf

/-! Fn4: regions_of, alone, term_for. -/
namespace Cf
open PySem PySem.Spec PyProof.Rows L2
section
variable {P : Program} {w : World} {K : PySem.W.Frag} {mg : PySem.Str → Option Value} {base : Heap} {C : Addr} {f : Addr} {fd : FuncData}
abbrev SpL (K : PySem.W.Frag) (C : Addr) : Sp := SpQ K C 0 preTRS (fun ds d => d = liesF ds)
theorem has_holds (tk : TlK K C) (g : Bi mg) (F : FnP K "holds" 18 f fd) (mH : mg "holds" = some (.ref f)) (L : HasM P w K mg base C 3 "lies" ["self", "region", "name"] (SpL K C)) : ∀ m, HasF P w K mg base (4 + m) "holds" ["talk", "region", "term"] (SpH K C m)
  | 0 => ⟨f, fd, mH, F.kp, F.bindsN fun _ _ _ _ _ _ us hl => match us, hl with | [_, _, _], _ => rfl, ok_holds0 tk g F L fun m' e => by omega⟩
  | m + 1 => ⟨f, fd, mH, F.kp, F.bindsN fun _ _ _ _ _ _ us hl => match us, hl with | [_, _, _], _ => rfl, ok_holds0 tk g F L fun m' e => by
      cases e
      exact has_holds tk g F mH L m⟩

/-! ### regions_of -/
def intsD (ns : List Nat) : Dt := .lst (ns.map fun (r : Nat) => .int (r : Int))
def preRg (m : Nat) : Option Addr → List Dt → Prop := fun _ ds => ∃ ss ns tp t, ds = [.tlk ss ns tp, tD t] ∧ TlOk ss ns ∧ t.In ss ∧ t.deep ≤ m
def postRg : List Dt → Dt → Prop := fun ds d => ∀ ss ns tp t, ds = [.tlk ss ns tp, tD t] → d = intsD ((List.range (2 ^ ss.length)).filter fun r => t.ev (lieB ss r))
theorem sc19 : FnScope ["talk", "term", "region"] ["talk", "term"] (defScope (top 19)) := ⟨rfl, rfl, rfl, by decide +kernel, rfl, by decide +kernel, by decide +kernel⟩
def selT (T : Nat → Bool) : Dt → Bool
  | .int i => T i.toNat
  | _ => false
theorem rngD_filter (n : Nat) (T : Nat → Bool) : (((rngD n).filter (selT T)).map id) = ((List.range n).filter T).map fun (r : Nat) => Dt.int (r : Int) := by
  unfold rngD
  rw [List.filter_map, List.map_id]
  congr 1
abbrev SpG (K : PySem.W.Frag) (C : Addr) (m : Nat) : Sp := SpQ K C 0 (preRg m) postRg
theorem ok_regof {m : Nat} (tk : TlK K C) (g : Bi mg) (F : FnP K "regions_of" 19 f fd) (R : HasM P w K mg base C 1 "regions" ["self"] (SpR K C)) (Hd : HasF P w K mg base (4 + m) "holds" ["talk", "region", "term"] (SpH K C m)) : FnOk P w K mg base CX0 (5 + m) f fd ["talk", "term"] (SpG K C m) := by
  have e4 : 5 + m = (4 + m) + 1 := by omega
  rw [e4]
  refine fnd_ok F sc19 (fun _ _ ⟨_, _, _, _, h, _⟩ => h ▸ rfl) fun cdv A outer s H E hr q ds n B0 H0 D hp hn S hR hN => ?_
  obtain ⟨ss, ns, tp, t, rfl, ok, hin, hd⟩ := hp
  have h8 := pow8 ok
  have hrng : ∀ x ∈ rngD ((2 ^ ss.length : Nat) : Int).toNat, ∃ r : Nat, x = .int (r : Int) ∧ r < 2 ^ ss.length := fun x hx => by
    obtain ⟨j, hj⟩ := List.mem_iff_getElem?.mp hx
    obtain ⟨h1, h2⟩ := rngD_get hj
    exact ⟨j, h2, by rwa [Int.toNat_natCast] at h1⟩
  refine sg_retD S rok0 (ed_lcF (T := selT fun r => t.ev (lieB ss r)) (F := id) (G := fun d => [d]) (sl := [2]) (own := [("region", 2)]) S.calm S.nd (blkOk_by (by kernel_rfl))
    (id_range1 g.range (ed_meth0F (g := regsF) tk.cls R (hr.mono (by omega)) (ed_var 0 rfl) ⟨ss, ns, tp, rfl, ok⟩) ⟨Int.le_trans (by decide) (Int.natCast_nonneg _), Int.lt_of_le_of_lt (Int.ofNat_le.mpr h8) (by decide)⟩) (by decide) ?_ (fun Y hY x hx => ?_) (fun Y hY x hx => ?_) (fun Y hY x hx hT => ?_)) (hR.to ?_)
  · rw [rngD_len, Int.toNat_natCast]
    omega
  · obtain ⟨s', H', A', cl, fp, rfl⟩ := hY
    exact gd_name S.nd
  · obtain ⟨s', H', A', cl, fp, rfl⟩ := hY
    obtain ⟨r, rfl, hlt⟩ := hrng x hx
    exact ts_one (td_val (em_holds Hd hr (ed_var 0 rfl) (ed_var 2 rfl) (ed_var 1 rfl) ok hlt hin hd) |>.to rfl)
  · obtain ⟨s', H', A', cl, fp, rfl⟩ := hY
    obtain ⟨r, rfl, hlt⟩ := hrng x hx
    exact ed_var 2 rfl
  · intro ss' ns' tp' t' e
    injection e with e1 e2
    injection e1 with e3
    injection e2 with e4
    have := tD_inj e4
    subst this e3
    rw [rngD_filter, Int.toNat_natCast]
    rfl

theorem ed_lies {X : Cx} {q : Option Addr} {env : En} {cs : Cs} {o a b : Expr} {apos pos : Pos} {lv r : Nat} {ss ns : List PySem.Str} {tp : Int} {x : PySem.Str} {pl : Sem Bool} (tk : TlK X.K C) (L : HasM X.prog X.w X.K X.mg X.base C lv "lies" ["self", "region", "name"] (SpL X.K C)) (hr : Room lv X.A)
    (ho : ED X C q o env cs (.tlk ss ns tp)) (ha : ED X C q a env cs (.int ((r : Nat) : Int))) (hb : ED X C q b env cs (.str x)) (ok : TlOk ss ns) (hlt : r < 2 ^ ss.length) (hx : x ∈ ss)
    (hst : starEach [a, b] X.env = (false, eval a X.env) :: starEach [b] X.env := by rfl) (hst2 : starEach [b] X.env = (false, eval b X.env) :: starEach [] X.env := by rfl) (hpl : (backTo pos (starEach [b] X.env)).any (·.1) = false := by rfl)
    (ht : eval (.Call (.Attribute o "lies" apos) [a, b] [] pos) X.env = (do
      let ov ← eval o X.env
      standAt apos.atName
      let (f, first) ← holding [ov] (getMethod ov "lies" pl)
      callWith pos f first (backTo pos (starEach [a, b] X.env)) (backToKw pos (keywordEach [] X.env))) := by rfl) : ED X C q (.Call (.Attribute o "lies" apos) [a, b] [] pos) env cs (.bl (lieB ss r x)) :=
  ED.to (ed_methF (g := liesF) tk.cls L hr ho (ad_cons ha (ad_cons hb ad_nil hst2) hst) ⟨ss, ns, tp, r, x, rfl, ok, hlt, hx⟩ (by decide +kernel) (by decide +kernel) (by decide +kernel) hst hpl ht) rfl
theorem ed_regs {X : Cx} {q : Option Addr} {env : En} {cs : Cs} {o : Expr} {apos pos : Pos} {lv : Nat} {ss ns : List PySem.Str} {tp : Int} {pl : Sem Bool} (tk : TlK X.K C) (R : HasM X.prog X.w X.K X.mg X.base C lv "regions" ["self"] (SpR X.K C)) (hr : Room lv X.A)
    (ho : ED X C q o env cs (.tlk ss ns tp)) (ok : TlOk ss ns)
    (ht : eval (.Call (.Attribute o "regions" apos) [] [] pos) X.env = (do
      let ov ← eval o X.env
      standAt apos.atName
      let (f, first) ← holding [ov] (getMethod ov "regions" pl)
      callWith pos f first (backTo pos (starEach [] X.env)) (backToKw pos (keywordEach [] X.env))) := by rfl) : ED X C q (.Call (.Attribute o "regions" apos) [] [] pos) env cs (.int ((2 ^ ss.length : Nat) : Int)) :=
  ed_meth0F (g := regsF) tk.cls R hr ho ⟨ss, ns, tp, rfl, ok⟩ (by decide +kernel) (by decide +kernel) (by decide +kernel) ht

/-! ### alone -/
def sideT (ss : List PySem.Str) (r : Nat) (x : PySem.Str) : Tm := if lieB ss r x = true then .nm x else .not (.nm x)
def joinT : Option Tm → Tm → Option Tm
  | none, s => some s
  | some f, s => some (.and f s)
def aloneO (ss : List PySem.Str) (r : Nat) (xs : List PySem.Str) : Option Tm := xs.foldl (fun acc x => joinT acc (sideT ss r x)) none
def oD : Option Tm → Dt
  | none => .non
  | some t => tD t
def preAl : Option Addr → List Dt → Prop := fun _ ds => ∃ ss ns tp r, ds = [.tlk ss ns tp, .int ((r : Nat) : Int)] ∧ TlOk ss ns ∧ r < 2 ^ ss.length
def aloneF : List Dt → Dt
  | [.tlk ss _ _, .int r] => oD (aloneO ss r.toNat ss)
  | _ => .non
theorem sc20 : FnScope ["talk", "region", "found", "name", "side"] ["talk", "region"] (defScope (top 20)) := ⟨rfl, rfl, rfl, by decide +kernel, rfl, by decide +kernel, by decide +kernel⟩
theorem isNon_oD (o : Option Tm) : isNon (oD o) = o.isNone := by
  cases o with
  | none => rfl
  | some t => cases t <;> rfl
theorem tD_side (ss : List PySem.Str) (r : Nat) (x : PySem.Str) : (if lieB ss r x = true then Dt.str x else Dt.tup [.str "not", .str x]) = tD (sideT ss r x) := by
  unfold sideT
  split <;> rfl
theorem ok_alone (tk : TlK K C) (F : FnP K "alone" 20 f fd) (Se : HasM P w K mg base C 1 "sets" ["self"] (SpQ K C 0 preT (fun ds d => d = setsF ds))) (L : HasM P w K mg base C 3 "lies" ["self", "region", "name"] (SpL K C)) : FnOk P w K mg base CX0 4 f fd ["talk", "region"] (SpQ K C 0 preAl (fun ds d => d = aloneF ds)) := by
  refine fnd_ok F sc20 (fun _ _ ⟨_, _, _, _, h, _⟩ => h ▸ rfl) fun cdv A outer s H E hr q ds n B0 H0 D hp hn S hR hN => ?_
  obtain ⟨ss, ns, tp, r, rfl, ok, hlt⟩ := hp
  refine sg_setD S 2 rok0 ed_non ?_
  refine sg_for (sl := [3]) S rok0 (fun j n' env' cs' => n' = n ∧ cs' = none ∧ ∃ e3 e4, env' = [some (.tlk ss ns tp), some (.int (r : Int)), some (oD (aloneO ss r (ss.take j))), e3, e4]) (id_nms (ed_meth0F (g := setsF) tk.cls Se (hr.mono (by decide)) (ed_var 0 rfl) ⟨ss, ns, tp, rfl, ok⟩)) ⟨rfl, rfl, _, _, rfl⟩ (fun _ _ _ _ _ => rok0) (fun Bm j x hx n' env' cs' ⟨e1, e2, e3, e4, e5⟩ => ?_) (fun n' env' cs' ⟨e1, e2, e3, e4, e5⟩ => ?_)
  · subst e1 e2 e5
    rw [List.getElem?_map] at hx
    cases hz : ss[j]? with
    | none => rw [hz] at hx; cases hx
    | some y =>
      rw [hz] at hx
      cases hx
      have hy : y ∈ ss := List.mem_of_getElem? hz
      refine ⟨[.str y], gd_name S.nd, ?_⟩
      refine sg_setD S 4 rok0 (ED.to (ed_if (td_val (ed_lies tk L hr (ed_var 0 rfl) (ed_var 1 rfl) (ed_var 3 rfl) ok hlt hy)) (fun _ => ed_var 3 rfl) (fun _ => ed_tup (ad_cons ed_str (ad_cons (ed_var 3 rfl) ad_nil)) (Nat.le_of_ble_eq_true rfl))) (tD_side ss r y)) ?_
      refine sg_setD (d := oD (aloneO ss r (ss.take (j + 1)))) S 2 rok0 ?_ (sg_nil fun σ H a => ⟨_, _, _, ⟨rfl, rfl, _, _, rfl⟩, a⟩)
      have e6 : aloneO ss r (ss.take (j + 1)) = joinT (aloneO ss r (ss.take j)) (sideT ss r y) := by
        unfold aloneO
        rw [take_snoc hz, List.foldl_append]
        rfl
      rw [e6]
      refine ED.to (d := if (aloneO ss r (ss.take j)).isNone = true then tD (sideT ss r y) else oD (joinT (aloneO ss r (ss.take j)) (sideT ss r y))) (ed_if (TM.to (td_isN (ed_var 2 rfl)) (isNon_oD _)) (fun _ => ed_var 4 rfl) (fun h => ?_)) ?_
      · cases ho : aloneO ss r (ss.take j) with
        | none => rw [ho] at h; cases h
        | some t => exact ed_tup (ad_cons ed_str (ad_cons (ed_var 2 rfl) (ad_cons (ed_var 4 rfl) ad_nil))) (Nat.le_of_ble_eq_true rfl)
      · cases ho : aloneO ss r (ss.take j) with
        | none => rfl
        | some t => rfl
  · subst e1 e2 e5
    refine sg_retD S rok0 (ed_var 2 rfl) (hR.to ?_)
    rw [List.length_map, List.take_length]
    show _ = oD (aloneO ss ((r : Int)).toNat ss)
    rw [Int.toNat_natCast]

/-! ### term_for -/
/-- the term that holds the one region r -/
def tmFor (ss : List PySem.Str) (r : Nat) : Tm := if ss = [] then .all else (aloneO ss r ss).getD .all
def preTf : Option Addr → List Dt → Prop := fun _ ds => ∃ ss ns tp r, ds = [.tlk ss ns tp, .lst [.int ((r : Nat) : Int)]] ∧ TlOk ss ns ∧ r < 2 ^ ss.length
def tmForF : List Dt → Dt
  | [.tlk ss _ _, .lst [.int r]] => tD (tmFor ss r.toNat)
  | _ => .non
theorem joinT_some (o : Option Tm) (s : Tm) : ∃ t, joinT o s = some t := by
  cases o with
  | none => exact ⟨_, rfl⟩
  | some t => exact ⟨_, rfl⟩
theorem fold_some (ss : List PySem.Str) (r : Nat) : ∀ (xs : List PySem.Str) (o : Option Tm), xs ≠ [] ∨ o.isSome = true → ∃ t, xs.foldl (fun acc x => joinT acc (sideT ss r x)) o = some t
  | [], o, h => by
    rcases h with h | h
    · exact absurd rfl h
    · exact Option.isSome_iff_exists.mp h
  | x :: xs, o, _ => fold_some ss r xs _ (.inr (by
    obtain ⟨t, e⟩ := joinT_some o (sideT ss r x)
    show (joinT o (sideT ss r x)).isSome = true
    rw [e]
    rfl))
theorem sc21 : FnScope ["talk", "regions", "region", "some", "found"] ["talk", "regions"] (defScope (top 21)) := ⟨rfl, rfl, rfl, by decide +kernel, rfl, by decide +kernel, by decide +kernel⟩
theorem filter_one {n r : Nat} (h : r < n) : (List.range n).filter (fun j => decide (((j : Nat) : Int) ∈ [((r : Nat) : Int)])) = [r] := by
  have : (fun j : Nat => decide (((j : Nat) : Int) ∈ [((r : Nat) : Int)])) = fun j => decide (j = r) := by
    funext j
    simp only [List.mem_singleton, Int.ofNat_inj]
  rw [this]
  induction n with
  | zero => omega
  | succ n ih =>
    rw [List.range_succ, List.filter_append]
    by_cases e : r = n
    · subst e
      rw [List.filter_eq_nil_iff.mpr (fun j hj => by
        have := List.mem_range.mp hj
        simp
        omega)]
      simp
    · rw [ih (by omega), List.filter_cons_of_neg (by simp; omega)]
      rfl
theorem ok_tmfor (tk : TlK K C) (g : Bi mg) (F : FnP K "term_for" 21 f fd) (W : HasW P w K mg base C 1) (R : HasM P w K mg base C 1 "regions" ["self"] (SpR K C)) (Al : HasF P w K mg base 4 "alone" ["talk", "region"] (SpQ K C 0 preAl (fun ds d => d = aloneF ds))) :
    FnOk P w K mg base CX0 5 f fd ["talk", "regions"] (SpQ K C 0 preTf (fun ds d => d = tmForF ds)) := by
  refine fnd_ok F sc21 (fun _ _ ⟨_, _, _, _, h, _⟩ => h ▸ rfl) fun cdv A outer s H E hr q ds n B0 H0 D hp hn S hR hN => ?_
  obtain ⟨ss, ns, tp, r, rfl, ok, hlt⟩ := hp
  have h8 := pow8 ok
  have hr1 := hr.mono (j := 1) (by decide)
  have h1r : ∀ x ∈ rngD ((2 ^ ss.length : Nat) : Int).toNat, ∃ j : Nat, x = .int (j : Int) := fun x hx => by
    obtain ⟨j, hj⟩ := List.mem_iff_getElem?.mp hx
    exact ⟨j, (rngD_get hj).2⟩
  refine sg_for (sl := [2]) S rok0 (fun j n' env' cs' => n' = n ∧ cs' = none ∧ ∃ e2, env' = [some (.tlk ss ns tp), some (.lst [.int (r : Int)]), e2, none, none]) (id_list (ed_var 1 rfl)) ⟨rfl, rfl, _, rfl⟩ (fun _ _ _ _ _ => rok0) (fun Bm j x hx n' env' cs' ⟨e1, e2, e3, e4⟩ => ?_) (fun n' env' cs' ⟨e1, e2, e3, e4⟩ => ?_)
  · subst e1 e2 e4
    have : x = .int (r : Int) := by
      cases j with
      | zero => exact (Option.some.inj hx).symm
      | succ j => cases hx
    subst this
    refine ⟨[.int (r : Int)], gd_name S.nd, ?_⟩
    refine sg_no S rok0 (td_not (td_val (ed_whole2 W hr1 (ed_var 2 rfl) ed_int (ed_sub (ed_regs tk R hr1 (ed_var 0 rfl) ok) ed_int)))) (sg_nil fun σ H a => ⟨_, _, _, ⟨rfl, rfl, _, rfl⟩, a⟩) ?_
    rw [decide_eq_true (by omega : (0 : Int) ≤ (r : Int)), decide_eq_true (by omega : (r : Int) ≤ ((2 ^ ss.length : Nat) : Int) - 1)]
    rfl
  · subst e1 e2 e4
    refine sg_lc (k := 0) S 3 rok0 (ps_lc (own := [("region", 2)]) 3 S (blkOk_by (by kernel_rfl))) (lr_F (T := selT fun j => decide (((j : Nat) : Int) ∈ [((r : Nat) : Int)])) (F := id) (G := fun d => [d]) (sl := [2]) (id_range1 g.range (ed_regs tk R hr1 (ed_var 0 rfl) ok) ⟨Int.le_trans (by decide) (Int.natCast_nonneg _), Int.lt_of_le_of_lt (Int.ofNat_le.mpr h8) (by decide)⟩) (by decide) ?_ (fun Y hY x hx => ?_) (fun Y hY x hx => ?_) (fun Y hY x hx hT => ?_)) (Nat.le_refl _) (fun ds e => ?_)
    · rw [rngD_len, Int.toNat_natCast]
      omega
    · obtain ⟨s', H', A', cl, fp, rfl⟩ := hY
      exact gd_name S.nd
    · obtain ⟨s', H', A', cl, fp, rfl⟩ := hY
      obtain ⟨j, rfl⟩ := h1r x hx
      exact ts_one (td_inI (ns := [((r : Nat) : Int)]) (ed_var 2 rfl) (ed_var 1 rfl) rfl)
    · obtain ⟨s', H', A', cl, fp, rfl⟩ := hY
      exact ed_var 2 rfl
    · rw [rngD_filter, Int.toNat_natCast, filter_one hlt] at e
      subst e
      by_cases hs : ss = []
      · subst hs
        refine sg_T S rok0 (td_inI (ns := [0, 1]) (ed_len g.len (ed_var 3 rfl) rfl) (ed_tup (ad_cons ed_int (ad_cons (ed_regs tk R hr1 (ed_var 0 rfl) ok) ad_nil)) (Nat.le_of_ble_eq_true rfl)) rfl) (sg_retD S rok0 (ed_ifT (td_seq (ed_var 3 rfl) rfl (Nat.le_of_ble_eq_true rfl)) (ed_tup (ad_cons ed_str ad_nil) (Nat.le_of_ble_eq_true rfl))) (hR.to rfl))
      · have h2 : 2 ≤ 2 ^ ss.length := by
          cases ss with
          | nil => exact absurd rfl hs
          | cons a b =>
            rw [List.length_cons, Nat.pow_succ]
            have := Nat.pow_pos (n := b.length) (show 0 < 2 by decide)
            omega
        refine sg_no S rok0 (td_inI (ns := [0, ((2 ^ ss.length : Nat) : Int)]) (ed_len g.len (ed_var 3 rfl) rfl) (ed_tup (ad_cons ed_int (ad_cons (ed_regs tk R hr1 (ed_var 0 rfl) ok) ad_nil)) (Nat.le_of_ble_eq_true rfl)) rfl) ?_ ?_
        · refine sg_setD S 4 rok0 (ed_callF (g := aloneF) Al hr (ad_cons (ed_var 0 rfl) (ad_cons (ed_item (ed_var 3 rfl) ed_int rfl rfl) ad_nil)) ⟨ss, ns, tp, r, rfl, ok, hlt⟩) ?_
          refine sg_for (sl := [2]) S rok0 (fun j m env' cs' => m = n' ∧ cs' = none ∧ env' = [some (.tlk ss ns tp), some (.lst [.int (r : Int)]), e3, some (.lst [.int (r : Int)]), some (oD (aloneO ss r ss))]) (id_list (ed_sliceL (ed_var 3 rfl) (.some ed_int) .none)) ⟨rfl, rfl, rfl⟩ (fun _ _ _ _ _ => rok0) (fun Bm j x hx => ?_) (fun m env' cs' ⟨e1, e2, e4⟩ => ?_)
          · exfalso
            rw [show (some (1 : Int)) = some ((1 : Nat) : Int) from rfl, cut_from] at hx
            cases hx
          · subst e1 e2 e4
            refine sg_retD S rok0 (ed_var 4 rfl) (hR.to ?_)
            show oD (aloneO ss r ss) = tD (tmFor ss r)
            unfold tmFor
            rw [if_neg hs]
            obtain ⟨t, e⟩ := fold_some ss r ss none (.inl hs)
            unfold aloneO
            rw [e]
            rfl
        · apply decide_eq_false
          intro hm
          rcases List.mem_cons.mp hm with h | h
          · cases h
          · have := List.mem_singleton.mp h
            have h3 : ((1 : Nat) : Int) = ((2 ^ ss.length : Nat) : Int) := this
            have := Int.ofNat_inj.mp h3
            omega
end
end Cf

/-! Fn5: row_worth, added, row_of, sum_for, worth_of. -/
namespace Cf
open PySem PySem.Spec PyProof.Rows L2

/-- numbers that stay small -/
def Bd (i : Int) : Prop := i.natAbs < 2 ^ 200
theorem Bd.mul {i j : Int} (h1 : Bd i) (h2 : Bd j) : CMulW i j := by
  have l : ∀ {k : Int}, Bd k → k.natAbs.log2 < 200 := fun {k} h => by
    by_cases e : k.natAbs = 0
    · rw [e]; decide
    · exact (Nat.log2_lt e).mpr h
  have := l h1
  have := l h2
  unfold CMulW
  omega
def rowWorth (row vals : List Int) : Int := row.headD 0 + (List.zipWith (· * ·) row.tail vals).sum
def intsOf : List Dt → List Int := List.map fun d => match d with | .int i => i | _ => 0
theorem intsOf_map (ns : List Int) : intsOf (ns.map Dt.int) = ns := by
  unfold intsOf
  rw [List.map_map]
  exact List.map_id _
def preRw : Option Addr → List Dt → Prop := fun _ ds => ∃ (c : Int) (cs vs : List Int), ds = [.tup ((c :: cs).map Dt.int), .tup (vs.map Dt.int)] ∧ (∀ i ∈ cs, Bd i) ∧ (∀ i ∈ vs, Bd i) ∧ cs.length ≤ 100 ∧ vs.length ≤ 100
def rwF : List Dt → Dt
  | [.tup a, .tup b] => .int (rowWorth (intsOf a) (intsOf b))
  | _ => .non
def mulD : Dt → Dt
  | .tup [.int a, .int b] => .int (a * b)
  | _ => .non
theorem zip_mul : ∀ (as bs : List Int), (zipD (as.map Dt.int) (bs.map Dt.int)).map mulD = (List.zipWith (· * ·) as bs).map Dt.int
  | [], _ => rfl
  | _ :: _, [] => rfl
  | a :: as, b :: bs => by
    show mulD (.tup [.int a, .int b]) :: (zipD (as.map Dt.int) (bs.map Dt.int)).map mulD = _
    rw [zip_mul as bs]
    rfl
theorem FunD.kbindsN0 {K : PySem.W.Frag} {x qual : PySem.Str} {params : Arguments} {body : List Stmt} {scope : Scope} {f : Addr} {fd : FuncData} {ps : List PySem.Str} (F : FunD K x qual params body scope [] [] f fd) (n : Nat) (ks : List PySem.Str)
    (h : ∀ (kV doc pm : Value) (an : Option Addr) (cdv ct : Value) (us ws : List Value), us.length = n → ws.length = ks.length → bindArgs (PySem.W.fnOf x qual params body scope .none kV doc pm an cdv ct) ⟨us, ks.zip ws⟩ = pure (ps.zip (us ++ ws))) : KBn K fd ps n ks (fun us ws => us ++ ws) (fun vs zs => vs ++ zs) := by
  obtain ⟨oc, od, dV, kV, doc, pm, an, cdv, ct, osl, rfl, lk, hcd, hD, hK⟩ := F.ex
  rcases hD with ⟨_, rfl⟩ | ⟨e, _⟩
  · exact ⟨fun s us ws X l1 l2 => .of_eq (h kV doc pm an cdv ct us ws l1 l2), fun r1 r2 => r1.append r2⟩
  · exact absurd rfl e
section
variable {P : Program} {w : World} {K : PySem.W.Frag} {mg : PySem.Str → Option Value} {base : Heap} {C : Addr} {f : Addr} {fd : FuncData}
theorem sc9 : FnScope ["row", "values", "constant", "coefs", "coef", "value"] ["row", "values"] (defScope (top 9)) := ⟨rfl, rfl, rfl, by decide +kernel, rfl, by decide +kernel, by decide +kernel⟩
theorem ok_rw (g : Bi mg) (F : FnP K "row_worth" 9 f fd) : FnOk P w K mg base CX0 1 f fd ["row", "values"] (SpQ K C 0 preRw (fun ds d => d = rwF ds)) := by
  refine fnd_ok F sc9 (fun _ _ ⟨_, _, _, h, _⟩ => h ▸ rfl) fun cdv A outer s H E hr q ds n B0 H0 D hp hn S hR hN => ?_
  obtain ⟨c, cs, vs, rfl, h1, h2, h3, h4⟩ := hp
  refine sg_tgtD (sl := [2, 3]) S rok0 (ed_var 0 rfl) (gd_star (i := 1) S.calm (gds_name S.nd (gds_star S.nd)) (.t _) (Nat.succ_le_succ (Nat.zero_le _)) rfl) ?_
  have hz : ∀ x ∈ zipD (cs.map Dt.int) (vs.map Dt.int), ∃ a b : Int, x = .tup [.int a, .int b] ∧ Bd a ∧ Bd b := fun x hx => by
    obtain ⟨j, hj⟩ := List.mem_iff_getElem?.mp hx
    obtain ⟨u, v, e1, e2, rfl⟩ := zipD_get hj
    rw [List.getElem?_map] at e1 e2
    cases g1 : cs[j]? with
    | none => rw [g1] at e1; cases e1
    | some a =>
      cases g2 : vs[j]? with
      | none => rw [g2] at e2; cases e2
      | some b =>
        rw [g1] at e1
        rw [g2] at e2
        cases e1
        cases e2
        exact ⟨a, b, rfl, h1 a (List.mem_of_getElem? g1), h2 b (List.mem_of_getElem? g2)⟩
  refine sg_retD S rok0 (ed_sumS (ns := List.zipWith (· * ·) cs vs) S.calm g.sum (ED.to (ed_lcM (F := mulD) (G := fun d => match d with | .tup l => l | _ => []) (sl := [4, 5]) (own := [("coef", 4), ("value", 5)]) S.calm S.nd (blkOk_by (by kernel_rfl)) (id_zip2 g.zip (ad_cons (ed_var 3 rfl) (ad_cons (ed_var 1 rfl) ad_nil)) (.l (cs.map Dt.int)) (.t _)) (by decide) ?_ (fun Y hY x hx => ?_) (fun Y hY x hx => ?_)) (by rw [zip_mul])) (ed_var 2 rfl)) (hR.to ?_)
  · rw [zipD_len, List.length_map]
    omega
  · obtain ⟨s', H', A', cl, fp, rfl⟩ := hY
    obtain ⟨a, b, rfl, _⟩ := hz x hx
    exact gd_tup S.calm (gds_name S.nd (gds_name S.nd gds_nil)) rfl
  · obtain ⟨s', H', A', cl, fp, rfl⟩ := hY
    obtain ⟨a, b, rfl, ha, hb⟩ := hz x hx
    exact ed_mulW (ha.mul hb) (ed_var 4 rfl) (ed_var 5 rfl)
  · show _ = Dt.int (rowWorth (intsOf ((c :: cs).map Dt.int)) (intsOf (vs.map Dt.int)))
    rw [intsOf_map, intsOf_map]
    rfl

/-! ### added -/
def preAd : Option Addr → List Dt → Prop := fun _ ds => ∃ (r1 r2 : List Int) (m : Nat), ds = [.lst [.tup (r1.map Dt.int), .tup (r2.map Dt.int)], .lst [.int 1, .int 1], .int (m : Int)] ∧ r1.length = m + 1 ∧ r2.length = m + 1 ∧ m ≤ 100
def addedF : List Dt → Dt
  | [.lst [.tup a, .tup b], _, _] => .tup ((List.zipWith (· + ·) (intsOf a) (intsOf b)).map Dt.int)
  | _ => .non
theorem sc10 : FnScope ["rows", "weights", "width", "total", "row", "weight", "at", "coef"] ["rows", "weights", "width"] (defScope (top 10)) := ⟨rfl, rfl, rfl, by decide +kernel, rfl, by decide +kernel, by decide +kernel⟩
theorem zero_add_row : ∀ r : List Int, List.zipWith (· + ·) (List.replicate r.length (0 : Int)) r = r
  | [] => rfl
  | a :: r => by rw [List.length_cons, List.replicate_succ, List.zipWith_cons_cons, zero_add_row r, Int.zero_add]
/-- the first j places added -/
def addUp (t row : List Int) (j : Nat) : List Int := (List.zipWith (· + ·) t row).take j ++ t.drop j
theorem addUp_len {t row : List Int} {j : Nat} (h : row.length = t.length) (hj : j ≤ t.length) : (addUp t row j).length = t.length := by
  unfold addUp
  rw [List.length_append, List.length_take, List.length_zipWith, List.length_drop, h]
  omega
theorem addUp_step {t row : List Int} {j : Nat} {c : Int} (h : row.length = t.length) (hc : row[j]? = some c) : (addUp t row j).set j ((addUp t row j).getD j 0 + c) = addUp t row (j + 1) := by
  have hj : j < t.length := by rw [← h]; exact (List.getElem?_eq_some_iff.mp hc).1
  have ht : t[j]? = some t[j] := List.getElem?_eq_getElem hj
  have hz : (List.zipWith (· + ·) t row)[j]? = some (t[j] + c) := by
    rw [List.getElem?_zipWith, ht, hc]
  have hl : ((List.zipWith (· + ·) t row).take j).length = j := by
    rw [List.length_take, List.length_zipWith, h]
    omega
  have hd : t.drop j = t[j] :: t.drop (j + 1) := List.drop_eq_getElem_cons hj
  unfold addUp
  rw [take_snoc hz, hd, List.getD_eq_getElem?_getD, List.getElem?_append_right (by rw [hl]; exact Nat.le_refl _), hl, Nat.sub_self, List.set_append_right _ _ (by rw [hl]; exact Nat.le_refl _), hl, Nat.sub_self, List.append_assoc]
  rfl
theorem addUp_all {t row : List Int} (h : row.length = t.length) : addUp t row row.length = List.zipWith (· + ·) t row := by
  unfold addUp
  rw [List.take_of_length_le (by rw [List.length_zipWith]; omega), List.drop_of_length_le (by omega), List.append_nil]
theorem ixN_nat {n j : Nat} (h : j < n) : ixN n (j : Int) = some j := by
  unfold ixN
  rw [if_pos (Int.natCast_nonneg _), if_pos (Int.ofNat_lt.mpr h)]
  rfl
/-- [d] * n, a new list -/
theorem en_rep {X : Cx} {q : Option Addr} {env : En} {cs : Cs} {a b : Expr} {pos : Pos} {d : Dt} {i : Int} (h0 : 0 ≤ i) (hz : i ≤ 1000) (ha : ED X C q a env cs (.lst [d])) (hb : ED X C q b env cs (.int i)) : EN X C q 0 (.BinOp a .Mult b pos) env cs (fun ds => ds = List.replicate i.toNat d) := fun n B σ H cf hn Q hQ =>
  wpE_of (pe_op op_rep wpE_pe wpE_pe) (em_two (k1 := 0) (k2 := 0) ha hb cf hn fun x d1 y d2 B2 H2 e1 e2 f1 f2 o => by
    subst e1 e2
    obtain ⟨l, xs, rfl, g2, g3⟩ := f1
    obtain ⟨v, rfl, h4⟩ := g3.one
    refine ⟨l, i, [v], rfl, f2, o.ex _ _ g2, by omega, by omega, by
      rw [List.length_singleton, Nat.one_mul, sizeLine_eq]
      omega, fun p hp => ?_⟩
    have e : (List.replicate i.toNat [v]).flatten = List.replicate i.toNat v := by
      generalize i.toNat = m
      induction m with
      | zero => rfl
      | succ m ih => rw [List.replicate_succ, List.flatten_cons, ih, List.replicate_succ]; rfl
    rw [e]
    obtain ⟨u, k1, k2, k3⟩ := o.newH (o := .lst (List.replicate i.toNat v)) hp
    exact hQ p _ _ B2 _ rfl upd_same k1 k2 k3 (DeAll.rep h4 _) u)
theorem ok_added (g : Bi mg) (F : FnP K "added" 10 f fd) : FnOk P w K mg base CX0 1 f fd ["rows", "weights", "width"] (SpQ K C 0 preAd (fun ds d => d = addedF ds)) := by
  refine fnd_ok F sc10 (fun _ _ ⟨_, _, _, h, _⟩ => h ▸ rfl) fun cdv A outer s H E hr q ds n B0 H0 D hp hn S hR hN => ?_
  obtain ⟨r1, r2, m, rfl, h1, h2, h3⟩ := hp
  refine sg_newD S 3 rok0 (en_rep (d := .int 0) (i := ((m : Int) + 1)) (by omega) (by omega) (ed_lst (ad_cons ed_int ad_nil) (Nat.le_of_ble_eq_true rfl)) (ed_add (ed_var 2 rfl) ed_int)) (fun p => ?_)
  let tot : Nat → List Int := fun j => ([r1, r2].take j).foldl (fun t row => List.zipWith (· + ·) t row) (List.replicate (m + 1) 0)
  have totl : ∀ j, j ≤ 2 → (tot j).length = m + 1 := fun j hj => by
    match j, hj with
    | 0, _ => exact List.length_replicate
    | 1, _ =>
      show (List.zipWith (· + ·) (List.replicate (m + 1) (0 : Int)) r1).length = _
      rw [List.length_zipWith, List.length_replicate, h1, Nat.min_self]
    | 2, _ =>
      show (List.zipWith (· + ·) (List.zipWith (· + ·) (List.replicate (m + 1) (0 : Int)) r1) r2).length = _
      rw [List.length_zipWith, List.length_zipWith, List.length_replicate, h1, h2, Nat.min_self, Nat.min_self]
  have e0 : List.replicate ((m : Int) + 1).toNat (Dt.int 0) = (tot 0).map Dt.int := by
    show _ = (List.replicate (m + 1) (0 : Int)).map Dt.int
    rw [List.map_replicate]
    congr 1
  rw [e0]
  refine sg_for (sl := [4, 5]) S rok0 (fun j n' env' cs' => n' = n ∧ j ≤ 2 ∧ cs' = some (p, (tot j).map Dt.int) ∧ ∃ e4 e5 e6 e7, env' = [some (.lst [.tup (r1.map Dt.int), .tup (r2.map Dt.int)]), some (.lst [.int 1, .int 1]), some (.int (m : Int)), some (.cell p), e4, e5, e6, e7])
    (id_zip2 g.zip (ad_cons (ed_var 0 rfl) (ad_cons (ed_var 1 rfl) ad_nil)) (.l _) (.l _)) ⟨rfl, by decide, rfl, _, _, _, _, rfl⟩ (fun _ _ _ _ _ => rok0) (fun Bm j x hx n' env' cs' ⟨e1, e2, e3, x4, x5, x6, x7, e4⟩ => ?_) (fun n' env' cs' ⟨e1, e2, e3, x4, x5, x6, x7, e4⟩ => ?_)
  · subst e1 e3 e4
    obtain ⟨row, hrow, hrl, rfl⟩ : ∃ row, [r1, r2][j]? = some row ∧ row.length = m + 1 ∧ x = .tup [.tup (row.map Dt.int), .int 1] := by
      match j, hx with
      | 0, hx => exact ⟨r1, rfl, h1, (Option.some.inj hx).symm⟩
      | 1, hx => exact ⟨r2, rfl, h2, (Option.some.inj hx).symm⟩
      | j + 2, hx => cases hx
    have hj2 : j < 2 := (List.getElem?_eq_some_iff.mp hrow).1
    have step : tot (j + 1) = List.zipWith (· + ·) (tot j) row := by
      show ([r1, r2].take (j + 1)).foldl _ _ = _
      rw [take_snoc hrow, List.foldl_append]
      rfl
    have tl := totl j e2
    refine ⟨[.tup (row.map Dt.int), .int 1], gd_tup S.calm (gds_name S.nd (gds_name S.nd gds_nil)) rfl, ?_⟩
    refine sg_for (sl := [6, 7]) S rok0 (fun k m' env' cs' => m' = n' ∧ cs' = some (p, (addUp (tot j) row k).map Dt.int) ∧ ∃ e6 e7, env' = [some (.lst [.tup (r1.map Dt.int), .tup (r2.map Dt.int)]), some (.lst [.int 1, .int 1]), some (.int (m : Int)), some (.cell p), some (.tup (row.map Dt.int)), some (.int 1), e6, e7])
      (id_enum g.enum (ed_var 4 rfl) (.t (row.map Dt.int))) ⟨rfl, rfl, _, _, rfl⟩ (fun _ _ _ _ _ => rok0) (fun Bm k x hx m' env' cs' ⟨e1, e3, x6, x7, e4⟩ => ?_) (fun m' env' cs' ⟨e1, e3, x6, x7, e4⟩ => ?_)
    · subst e1 e3 e4
      obtain ⟨y, hy, rfl⟩ := enumD_get hx
      rw [List.getElem?_map] at hy
      cases hc : row[k]? with
      | none => rw [hc] at hy; cases hy
      | some c =>
        rw [hc] at hy
        cases hy
        have hk : k < m + 1 := by rw [← hrl]; exact (List.getElem?_eq_some_iff.mp hc).1
        refine ⟨[.int (k : Int), .int c], gd_tup S.calm (gds_name S.nd (gds_name S.nd gds_nil)) rfl, ?_⟩
        refine sg_augIx S 3 rok0 (ed_mul (.inl ⟨by decide, by decide⟩) (ed_var 5 rfl) (ed_var 7 rfl)) (ed_var 6 rfl) (ixN_nat (by rw [addUp_len (by rw [hrl, tl]) (by omega)]; omega)) (sg_nil fun σ H a => ?_)
        rw [Int.one_mul, addUp_step (by rw [hrl, tl]) hc] at a
        exact ⟨_, _, _, ⟨rfl, rfl, _, _, rfl⟩, a⟩
    · subst e1 e3 e4
      refine sg_nil fun σ H a => ?_
      have e : (enumD (row.map Dt.int)).length = row.length := by rw [enumD_len, List.length_map]
      rw [e, addUp_all (by rw [hrl, tl]), ← step] at a
      exact ⟨_, _, _, ⟨rfl, hj2, rfl, _, _, _, _, rfl⟩, a⟩
  · subst e1 e3 e4
    refine sg_freeze 3 rfl rfl (sg_retD S rok0 (ed_tuple g.tuple (ed_var 3 rfl)) (hR.to ?_))
    show Dt.tup ((tot 2).map Dt.int) = Dt.tup ((List.zipWith (· + ·) (intsOf (r1.map Dt.int)) (intsOf (r2.map Dt.int))).map Dt.int)
    rw [intsOf_map, intsOf_map]
    have : tot 2 = List.zipWith (· + ·) r1 r2 := by
      show List.zipWith (· + ·) (List.zipWith (· + ·) (List.replicate (m + 1) (0 : Int)) r1) r2 = _
      rw [← h1, zero_add_row]
    rw [this]
end
end Cf

/-! Fn6: row_of, sum_for, worth_of. -/
namespace Cf
open PySem PySem.Spec PyProof.Rows L2

/-! ### sums -/
inductive Ad where
  | lot (c : Int)
  | num (c : Int) (x : PySem.Str)
  | size (c : Int) (t : Tm)
def aD : Ad → Dt
  | .lot c => .tup [.str "lot", .int c]
  | .num c x => .tup [.str "num", .int c, .str x]
  | .size c t => .tup [.str "size", .int c, tD t]
structure AdOk (ss ns : List PySem.Str) (m : Nat) (a : Ad) : Prop where
  num : ∀ c x, a = .num c x → x ∈ ns
  tin : ∀ c t, a = .size c t → t.In ss ∧ t.deep ≤ m
def Ad.c : Ad → Int
  | .lot c => c
  | .num c _ => c
  | .size c _ => c
def addAt (row : List Int) (j : Nat) (c : Int) : List Int := row.set j (row.getD j 0 + c)
theorem addAt_len (row : List Int) (j : Nat) (c : Int) : (addAt row j c).length = row.length := List.length_set
/-- the regions that hold t -/
def regs (ss : List PySem.Str) (t : Tm) : List Nat := (List.range (2 ^ ss.length)).filter fun r => t.ev (lieB ss r)
def stepAd (ss ns : List PySem.Str) (row : List Int) : Ad → List Int
  | .lot c => addAt row 0 c
  | .num c x => addAt row (1 + (2 ^ ss.length + ns.idxOf x)) c
  | .size c t => (regs ss t).foldl (fun row r => addAt row (1 + r) c) row
def rowOf (ss ns : List PySem.Str) (as : List Ad) : List Int := as.foldl (stepAd ss ns) (List.replicate (1 + (2 ^ ss.length + ns.length)) 0)
theorem fold_len (c : Int) : ∀ (rs : List Nat) (row : List Int), (rs.foldl (fun row r => addAt row (1 + r) c) row).length = row.length
  | [], _ => rfl
  | r :: rs, row => by rw [List.foldl_cons, fold_len c rs, addAt_len]
theorem stepAd_len (ss ns : List PySem.Str) (row : List Int) (a : Ad) : (stepAd ss ns row a).length = row.length := by
  cases a with
  | lot c => exact addAt_len _ _ _
  | num c x => exact addAt_len _ _ _
  | size c t => exact fold_len c _ _
theorem foldAd_len (ss ns : List PySem.Str) : ∀ (as : List Ad) (row : List Int), (as.foldl (stepAd ss ns) row).length = row.length
  | [], _ => rfl
  | a :: as, row => by rw [List.foldl_cons, foldAd_len ss ns as, stepAd_len]
theorem aD_inj {a b : Ad} (h : aD a = aD b) : a = b := by
  cases a <;> cases b <;> simp [aD] at h <;> first | (exact absurd h.1 (by decide)) | (obtain ⟨h1, h2⟩ := h; subst h1; first | rfl | (subst h2; rfl) | (rw [tD_inj h2])) | (subst h; rfl) | skip
theorem aDs_inj : ∀ {as bs : List Ad}, as.map aD = bs.map aD → as = bs
  | [], [], _ => rfl
  | [], _ :: _, h => by cases h
  | _ :: _, [], h => by cases h
  | a :: as, b :: bs, h => by
    injection h with h1 h2
    rw [aD_inj h1, aDs_inj h2]
section
variable {P : Program} {w : World} {K : PySem.W.Frag} {mg : PySem.Str → Option Value} {base : Heap} {C : Addr} {f : Addr} {fd : FuncData}
def preRo (m : Nat) : Option Addr → List Dt → Prop := fun _ ds => ∃ ss ns tp, ∃ as : List Ad, ds = [.tlk ss ns tp, .tup (as.map aD)] ∧ TlOk ss ns ∧ (∀ a ∈ as, AdOk ss ns m a)
def postRo : List Dt → Dt → Prop := fun ds d => ∀ ss ns tp, ∀ as : List Ad, ds = [.tlk ss ns tp, .tup (as.map aD)] → d = .tup ((rowOf ss ns as).map Dt.int)
theorem sc23 : FnScope ["talk", "addends", "row", "word", "many", "rest", "region"] ["talk", "addends"] (defScope (top 23)) := ⟨rfl, rfl, rfl, by decide +kernel, rfl, by decide +kernel, by decide +kernel⟩
abbrev SpLen (K : PySem.W.Frag) (C : Addr) : Sp := SpQ K C 0 preT (fun ds d => d = lenF ds)
abbrev SpPl (K : PySem.W.Frag) (C : Addr) : Sp := SpQ K C 0 preTN (fun ds d => d = placeF ds)
theorem ed_place {X : Cx} {q : Option Addr} {env : En} {cs : Cs} {o a : Expr} {apos pos : Pos} {lv : Nat} {ss ns : List PySem.Str} {tp : Int} {x : PySem.Str} {pl : Sem Bool} (tk : TlK X.K C) (L : HasM X.prog X.w X.K X.mg X.base C lv "place" ["self", "name"] (SpPl X.K C)) (hr : Room lv X.A)
    (ho : ED X C q o env cs (.tlk ss ns tp)) (ha : ED X C q a env cs (.str x)) (ok : TlOk ss ns) (hx : x ∈ ns)
    (hst : starEach [a] X.env = (false, eval a X.env) :: starEach [] X.env := by rfl) (hpl : (backTo pos (starEach [] X.env)).any (·.1) = false := by rfl)
    (ht : eval (.Call (.Attribute o "place" apos) [a] [] pos) X.env = (do
      let ov ← eval o X.env
      standAt apos.atName
      let (f, first) ← holding [ov] (getMethod ov "place" pl)
      callWith pos f first (backTo pos (starEach [a] X.env)) (backToKw pos (keywordEach [] X.env))) := by rfl) : ED X C q (.Call (.Attribute o "place" apos) [a] [] pos) env cs (.int ((2 ^ ss.length + ns.idxOf x : Nat) : Int)) :=
  ED.to (ed_methF (g := placeF) tk.cls L hr ho (ad_cons ha ad_nil hst) ⟨ss, ns, tp, x, rfl, ok, hx⟩ (by decide +kernel) (by decide +kernel) (by decide +kernel) hst hpl ht) rfl
theorem ed_regof {X : Cx} {q : Option Addr} {env : En} {cs : Cs} {a b : Expr} {p pos : Pos} {m lv : Nat} {ss ns : List PySem.Str} {tp : Int} {t : Tm} (h : HasF X.prog X.w X.K X.mg X.base lv "regions_of" ["talk", "term"] (SpG X.K C m)) (hr : Room lv X.A)
    (ha : ED X C q a env cs (.tlk ss ns tp)) (hb : ED X C q b env cs (tD t)) (ok : TlOk ss ns) (hin : t.In ss) (hd : t.deep ≤ m) (hg : Gl X "regions_of" := by rfl)
    (he : starEach [a, b] X.env = (false, eval a X.env) :: starEach [b] X.env := by rfl) (he2 : starEach [b] X.env = (false, eval b X.env) :: starEach [] X.env := by rfl) (hpl : (backTo pos (starEach [b] X.env)).any (·.1) = false := by rfl) :
    ED X C q (.Call (.Name "regions_of" p) [a, b] [] pos) env cs (.lst ((regs ss t).map fun (r : Nat) => .int (r : Int))) :=
  em_callF (k := 0) (kf := 0) h hr (ad_cons ha (ad_cons hb ad_nil he2) he) (fun _ e => e ▸ ⟨ss, ns, tp, t, rfl, ok, hin, hd⟩) (fun ds d e h => h ss ns tp t e) hg (by decide) he hpl
theorem ok_rowof {m : Nat} (tk : TlK K C) (g : Bi mg) (F : FnP K "row_of" 23 f fd) (Le : HasM P w K mg base C 2 "__len__" ["self"] (SpLen K C)) (Pl : HasM P w K mg base C 2 "place" ["self", "name"] (SpPl K C)) (Rg : HasF P w K mg base (5 + m) "regions_of" ["talk", "term"] (SpG K C m)) :
    FnOk P w K mg base CX0 (6 + m) f fd ["talk", "addends"] (SpQ K C 0 (preRo m) postRo) := by
  have e4 : 6 + m = (5 + m) + 1 := by omega
  rw [e4]
  refine fnd_ok F sc23 (fun _ _ ⟨_, _, _, _, h, _⟩ => h ▸ rfl) fun cdv A outer s H E hr q ds n B0 H0 D hp hn S hR hN => ?_
  obtain ⟨ss, ns, tp, as, rfl, ok, hok⟩ := hp
  have h8 := pow8 ok
  have hn2 := ok.hn
  have hl0 : (1 : Int) + ((2 ^ ss.length + ns.length : Nat) : Int) = ((1 + (2 ^ ss.length + ns.length) : Nat) : Int) := by rw [Int.natCast_add]; rfl
  refine sg_newD S 2 rok0 (en_rep (d := .int 0) (i := (1 : Int) + ((2 ^ ss.length + ns.length : Nat) : Int)) (by rw [hl0]; exact Int.natCast_nonneg _) (by rw [hl0]; exact Int.ofNat_le.mpr (show 1 + (2 ^ ss.length + ns.length) ≤ 1000 by omega)) (ed_lst (ad_cons ed_int ad_nil) (Nat.le_of_ble_eq_true rfl)) (ed_add ed_int (ed_lenT Le (hr.mono (by omega)) g.len (ed_var 0 rfl) ok))) (fun p => ?_)
  have e0 : List.replicate ((1 : Int) + ((2 ^ ss.length + ns.length : Nat) : Int)).toNat (Dt.int 0) = ((as.take 0).foldl (stepAd ss ns) (List.replicate (1 + (2 ^ ss.length + ns.length)) 0)).map Dt.int := by
    rw [hl0, Int.toNat_natCast, List.take_zero, List.foldl_nil, List.map_replicate]
  rw [e0]
  refine sg_for (sl := [3, 4, 5]) S rok0 (fun j n' env' cs' => n' = n ∧ cs' = some (p, ((as.take j).foldl (stepAd ss ns) (List.replicate (1 + (2 ^ ss.length + ns.length)) 0)).map Dt.int) ∧ ∃ e3 e4 e5 e6, env' = [some (.tlk ss ns tp), some (.tup (as.map aD)), some (.cell p), e3, e4, e5, e6])
    (id_tup (ed_var 1 rfl)) ⟨rfl, rfl, _, _, _, _, rfl⟩ (fun _ _ _ _ _ => rok0) (fun Bm j x hx n' env' cs' ⟨e1, e3, x3, x4, x5, x6, e4⟩ => ?_) (fun n' env' cs' ⟨e1, e3, x3, x4, x5, x6, e4⟩ => ?_)
  · subst e1 e3 e4
    rw [List.getElem?_map] at hx
    cases hz : as[j]? with
    | none => rw [hz] at hx; cases hx
    | some a =>
      rw [hz] at hx
      cases hx
      have aok := hok a (List.mem_of_getElem? hz)
      generalize hrow : (as.take j).foldl (stepAd ss ns) (List.replicate (1 + (2 ^ ss.length + ns.length)) 0) = row
      have hrl : row.length = 1 + (2 ^ ss.length + ns.length) := by rw [← hrow, foldAd_len, List.length_replicate]
      have step : (as.take (j + 1)).foldl (stepAd ss ns) (List.replicate (1 + (2 ^ ss.length + ns.length)) 0) = stepAd ss ns row a := by
        rw [take_snoc hz, List.foldl_append, hrow]
        rfl
      rw [step]
      cases a with
      | lot c =>
        refine ⟨[.str "lot", .int c, .lst []], gd_star (i := 2) S.calm (gds_name S.nd (gds_name S.nd (gds_star S.nd))) (.t _) (Nat.le_refl _) rfl, ?_⟩
        refine sg_T S rok0 (td_eqS (ed_var 3 rfl) ed_str) ?_
        refine sg_augIx S 2 rok0 (ed_var 4 rfl) ed_int (ixN_nat (n := row.length) (j := 0) (by rw [hrl]; exact Nat.lt_of_lt_of_le Nat.zero_lt_one (Nat.le_add_right 1 _))) (sg_nil fun σ H a => wpB_of pss_nil ?_)
        exact ⟨_, _, _, ⟨rfl, rfl, _, _, _, _, rfl⟩, a⟩
      | num c x =>
        have hx := aok.num c x rfl
        have hi := List.idxOf_lt_length_of_mem hx
        have hc : (1 : Int) + ((2 ^ ss.length + ns.idxOf x : Nat) : Int) = ((1 + (2 ^ ss.length + ns.idxOf x) : Nat) : Int) := by rw [Int.natCast_add 1]; rfl
        refine ⟨[.str "num", .int c, .lst [.str x]], gd_star (i := 2) S.calm (gds_name S.nd (gds_name S.nd (gds_star S.nd))) (.t _) (Nat.le_succ _) rfl, ?_⟩
        refine sg_F S rok0 (td_eqS (ed_var 3 rfl) ed_str) ?_
        refine sg_T S rok0 (td_eqS (ed_var 3 rfl) ed_str) ?_
        refine sg_augIx (jn := 1 + (2 ^ ss.length + ns.idxOf x)) S 2 rok0 (ed_var 4 rfl) (ed_add ed_int (ed_place tk Pl (hr.mono (by omega)) (ed_var 0 rfl) (ed_item (ed_var 5 rfl) ed_int rfl rfl) ok hx)) (by rw [hc]; exact ixN_nat (by omega)) (sg_nil fun σ H a => wpB_of pss_nil (wpB_of pss_nil ?_))
        exact ⟨_, _, _, ⟨rfl, rfl, _, _, _, _, rfl⟩, a⟩
      | size c t =>
        obtain ⟨hin, hd⟩ := aok.tin c t rfl
        refine ⟨[.str "size", .int c, .lst [tD t]], gd_star (i := 2) S.calm (gds_name S.nd (gds_name S.nd (gds_star S.nd))) (.t _) (Nat.le_succ _) rfl, ?_⟩
        refine sg_F S rok0 (td_eqS (ed_var 3 rfl) ed_str) ?_
        refine sg_F S rok0 (td_eqS (ed_var 3 rfl) ed_str) ?_
        refine sg_for (sl := [6]) S rok0 (fun k m' env' cs' => m' = n' ∧ cs' = some (p, (((regs ss t).take k).foldl (fun row r => addAt row (1 + r) c) row).map Dt.int) ∧ ∃ e6, env' = [some (.tlk ss ns tp), some (.tup (as.map aD)), some (.cell p), some (.str "size"), some (.int c), some (.lst [tD t]), e6])
          (id_list (ed_regof Rg hr (ed_var 0 rfl) (ed_item (ed_var 5 rfl) ed_int rfl rfl) ok hin hd)) ⟨rfl, rfl, _, rfl⟩ (fun _ _ _ _ _ => rok0) (fun Bm k x hx m' env' cs' ⟨e1, e3, x6, e4⟩ => ?_) (fun m' env' cs' ⟨e1, e3, x6, e4⟩ => ?_)
        · subst e1 e3 e4
          rw [List.getElem?_map] at hx
          cases hr' : (regs ss t)[k]? with
          | none => rw [hr'] at hx; cases hx
          | some r =>
            rw [hr'] at hx
            cases hx
            have hlt : r < 2 ^ ss.length := List.mem_range.mp (List.mem_filter.mp (List.mem_of_getElem? hr')).1
            have hc : (1 : Int) + ((r : Nat) : Int) = ((1 + r : Nat) : Int) := by rw [Int.natCast_add 1]; rfl
            refine ⟨[.int (r : Int)], gd_name S.nd, ?_⟩
            refine sg_augIx (jn := 1 + r) S 2 rok0 (ed_var 4 rfl) (ed_add ed_int (ed_var 6 rfl)) (by rw [hc]; exact ixN_nat (by rw [fold_len]; omega)) (sg_nil fun σ H a => ?_)
            have e : ((regs ss t).take (k + 1)).foldl (fun row r => addAt row (1 + r) c) row = addAt (((regs ss t).take k).foldl (fun row r => addAt row (1 + r) c) row) (1 + r) c := by
              rw [take_snoc hr', List.foldl_append]
              rfl
            rw [e]
            exact ⟨_, _, _, ⟨rfl, rfl, _, rfl⟩, a⟩
        · subst e1 e3 e4
          rw [List.length_map, List.take_length]
          exact sg_nil fun σ H a => wpB_of pss_nil (wpB_of pss_nil ⟨_, _, _, ⟨rfl, rfl, _, _, _, _, rfl⟩, a⟩)
  · subst e1 e3 e4
    refine sg_freeze 2 rfl rfl (sg_retD S rok0 (ed_tuple g.tuple (ed_var 2 rfl)) (hR.to ?_))
    intro ss' ns' tp' as' e
    injection e with e1 e2
    injection e1 with e3 e4
    injection e2 with e5
    injection e5 with e6
    have := aDs_inj e6
    subst this e3 e4
    rw [List.length_map, List.take_length]
    rfl

/-! ### sum_for -/
def szAds (ss : List PySem.Str) (cs : List Int) : List Ad := (List.range cs.length).map fun j => .size (cs.getD j 0) (tmFor ss j)
def nmAds (ns : List PySem.Str) (cs : List Int) : List Ad := List.zipWith (fun x c => .num c x) ns cs
def allAds (ss ns : List PySem.Str) (row : List Int) : List Ad := .lot (row.headD 0) :: (szAds ss (row.tail.take (2 ^ ss.length)) ++ nmAds ns (row.tail.drop (2 ^ ss.length)))
def sumFor (ss ns : List PySem.Str) (row : List Int) : List Ad := (allAds ss ns row).filter fun a => !decide (a.c = 0)
def preSf : Option Addr → List Dt → Prop := fun _ ds => ∃ ss ns tp c, ∃ cs : List Int, ds = [.tlk ss ns tp, .tup ((c :: cs).map Dt.int)] ∧ TlOk ss ns ∧ cs.length = 2 ^ ss.length + ns.length
def sfF : List Dt → Dt
  | [.tlk ss ns _, .tup row] => .tup ((sumFor ss ns (intsOf row)).map aD)
  | _ => .non
theorem szAds_get {ss : List PySem.Str} {cs : List Int} {j : Nat} {c : Int} (h : cs[j]? = some c) : (szAds ss cs)[j]? = some (.size c (tmFor ss j)) := by
  have hj := (List.getElem?_eq_some_iff.mp h).1
  unfold szAds
  rw [List.getElem?_map, List.getElem?_range hj]
  show some (Ad.size (cs.getD j 0) (tmFor ss j)) = _
  rw [List.getD_eq_getElem?_getD, h]
  rfl
theorem szAds_len (ss : List PySem.Str) (cs : List Int) : (szAds ss cs).length = cs.length := by
  unfold szAds
  rw [List.length_map, List.length_range]
theorem nmAds_get {ns : List PySem.Str} {cs : List Int} {j : Nat} {x : PySem.Str} {c : Int} (h1 : ns[j]? = some x) (h2 : cs[j]? = some c) : (nmAds ns cs)[j]? = some (.num c x) := by
  unfold nmAds
  rw [List.getElem?_zipWith, h1, h2]
def nzD : Dt → Bool
  | .tup (_ :: .int c :: _) => !decide (c = 0)
  | _ => false
theorem nzD_aD (a : Ad) : nzD (aD a) = !decide (a.c = 0) := by cases a <;> rfl
theorem filter_aD (as : List Ad) : ((as.map aD).filter nzD).map id = (as.filter fun a => !decide (a.c = 0)).map aD := by
  rw [List.map_id, List.filter_map]
  congr 1
  congr 1
  funext a
  exact nzD_aD a
theorem aD_c (a : Ad) : ∃ ds, itemsOf (aD a) = some ds ∧ L2.atI ds 1 = some (.int a.c) := by
  cases a <;> exact ⟨_, rfl, rfl⟩
theorem sc24 : FnScope ["talk", "row", "constant", "coefs", "many", "found", "region", "coef", "name", "addend"] ["talk", "row"] (defScope (top 24)) := ⟨rfl, rfl, rfl, by decide +kernel, rfl, by decide +kernel, by decide +kernel⟩
theorem ok_sumfor (tk : TlK K C) (g : Bi mg) (F : FnP K "sum_for" 24 f fd) (R : HasM P w K mg base C 1 "regions" ["self"] (SpR K C)) (Nu : HasM P w K mg base C 1 "numbers" ["self"] (SpQ K C 0 preT (fun ds d => d = numsF ds))) (Tf : HasF P w K mg base 5 "term_for" ["talk", "regions"] (SpQ K C 0 preTf (fun ds d => d = tmForF ds))) :
    FnOk P w K mg base CX0 6 f fd ["talk", "row"] (SpQ K C 0 preSf (fun ds d => d = sfF ds)) := by
  refine fnd_ok F sc24 (fun _ _ ⟨_, _, _, _, _, h, _⟩ => h ▸ rfl) fun cdv A outer s H E hr q ds n B0 H0 D hp hn S hR hN => ?_
  obtain ⟨ss, ns, tp, c, cs, rfl, ok, hcl⟩ := hp
  have h8 := pow8 ok
  have hn2 := ok.hn
  have hr1 := hr.mono (j := 1) (by decide)
  generalize hR2 : 2 ^ ss.length = RR at *
  refine sg_tgtD (sl := [2, 3]) S rok0 (ed_var 1 rfl) (gd_star (i := 1) S.calm (gds_name S.nd (gds_star S.nd)) (.t _) (Nat.succ_le_succ (Nat.zero_le _)) rfl) ?_
  refine sg_setD (d := .int (RR : Int)) S 4 rok0 (by rw [← hR2]; exact ed_regs tk R hr1 (ed_var 0 rfl) ok) ?_
  refine sg_newD (ds := [aD (.lot c)]) S 5 rok0 ((en_lst (ad_cons (ed_tup (ad_cons ed_str (ad_cons (ed_var 2 rfl) ad_nil)) (Nat.le_of_ble_eq_true rfl)) ad_nil) (fun ds e => e ▸ Nat.le_of_ble_eq_true rfl)).imp fun ds e => e) (fun p => ?_)
  have hz1 : (szAds ss (cs.take RR)).length = RR := by rw [szAds_len, List.length_take]; omega
  refine sg_for (sl := [6, 7]) S rok0 (fun j n' env' cs' => n' = n ∧ cs' = some (p, (.lot c :: (szAds ss (cs.take RR)).take j).map aD) ∧ ∃ e6 e7, env' = [some (.tlk ss ns tp), some (.tup ((c :: cs).map Dt.int)), some (.int c), some (.lst (cs.map Dt.int)), some (.int (RR : Int)), some (.cell p), e6, e7, none, none])
    (id_enum g.enum (ed_sliceL (ed_var 3 rfl) .none (.some (ed_var 4 rfl))) (.l (cutG (cs.map Dt.int) none (some (RR : Int))))) ⟨rfl, rfl, _, _, rfl⟩ (fun _ _ _ _ _ => rok0) (fun Bm j x hx n' env' cs' ⟨e1, e3, x6, x7, e4⟩ => ?_) (fun n' env' cs' ⟨e1, e3, x6, x7, e4⟩ => ?_)
  · subst e1 e3 e4
    obtain ⟨y, hy, rfl⟩ := enumD_get hx
    rw [cut_to, ← List.map_take, List.getElem?_map] at hy
    cases hc : (cs.take RR)[j]? with
    | none => rw [hc] at hy; cases hy
    | some v =>
      rw [hc] at hy
      cases hy
      have hj : j < RR := by
        have := (List.getElem?_eq_some_iff.mp hc).1
        rw [List.length_take] at this
        omega
      refine ⟨[.int (j : Int), .int v], gd_tup S.calm (gds_name S.nd (gds_name S.nd gds_nil)) rfl, ?_⟩
      refine sg_append (k := 0) S 5 rok0 (ed_tup (ad_cons ed_str (ad_cons (ed_var 7 rfl) (ad_cons (ED.to (ed_callF (g := tmForF) Tf hr (ad_cons (ed_var 0 rfl) (ad_cons (ed_lst (ad_cons (ed_var 6 rfl) ad_nil) (Nat.le_of_ble_eq_true rfl)) ad_nil)) ⟨ss, ns, tp, j, rfl, ok, by rw [hR2]; exact hj⟩) rfl) ad_nil))) (Nat.le_of_ble_eq_true rfl)) (Nat.le_refl _) ?_ (fun d e => ?_)
      · rw [List.length_map, List.length_cons, List.length_take, hz1]
        omega
      · subst e
        have e : (Ad.lot c :: (szAds ss (cs.take RR)).take (j + 1)).map aD = (Ad.lot c :: (szAds ss (cs.take RR)).take j).map aD ++ [aD (.size v (tmFor ss j))] := by
          rw [take_snoc (szAds_get hc), ← List.cons_append, List.map_append]
          rfl
        refine sg_nil fun σ H a => ?_
        exact ⟨_, _, _, ⟨rfl, rfl, _, _, rfl⟩, a.to (by
          rw [e]
          rfl)⟩
  · subst e1 e3 e4
    have e0 : (enumD (cutG (cs.map Dt.int) none (some (RR : Int)))).length = RR := by
      rw [enumD_len, cut_to, List.length_take, List.length_map]
      omega
    rw [e0, List.take_of_length_le (by rw [hz1]; exact Nat.le_refl _)]
    have hz2 : (nmAds ns (cs.drop RR)).length = ns.length := by
      unfold nmAds
      rw [List.length_zipWith, List.length_drop]
      omega
    refine sg_for (sl := [8, 7]) S rok0 (fun j m env' cs' => m = n' ∧ cs' = some (p, ((.lot c :: szAds ss (cs.take RR)) ++ (nmAds ns (cs.drop RR)).take j).map aD) ∧ ∃ e7 e8, env' = [some (.tlk ss ns tp), some (.tup ((c :: cs).map Dt.int)), some (.int c), some (.lst (cs.map Dt.int)), some (.int (RR : Int)), some (.cell p), x6, e7, e8, none])
      (id_zip2 g.zip (ad_cons (ed_meth0F (g := numsF) tk.cls Nu hr1 (ed_var 0 rfl) ⟨ss, ns, tp, rfl, ok⟩) (ad_cons (ed_sliceL (ed_var 3 rfl) (.some (ed_var 4 rfl)) .none) ad_nil)) (.n ns) (.l (cutG (cs.map Dt.int) (some (RR : Int)) none))) ⟨rfl, by rw [List.take_zero, List.append_nil], _, _, rfl⟩ (fun _ _ _ _ _ => rok0) (fun Bm j x hx m env' cs' ⟨e1, e3, x7, x8, e4⟩ => ?_) (fun m env' cs' ⟨e1, e3, x7, x8, e4⟩ => ?_)
    · subst e1 e3 e4
      obtain ⟨y, z, hy, hz, rfl⟩ := zipD_get hx
      rw [cut_from, ← List.map_drop, List.getElem?_map] at hz
      rw [List.getElem?_map] at hy
      cases hc : (cs.drop RR)[j]? with
      | none => rw [hc] at hz; cases hz
      | some v =>
        cases hd : ns[j]? with
        | none => rw [hd] at hy; cases hy
        | some x =>
          rw [hc] at hz
          rw [hd] at hy
          cases hz
          cases hy
          refine ⟨[.str x, .int v], gd_tup S.calm (gds_name S.nd (gds_name S.nd gds_nil)) rfl, ?_⟩
          refine sg_append (k := 0) S 5 rok0 (ed_tup (ad_cons ed_str (ad_cons (ed_var 7 rfl) (ad_cons (ed_var 8 rfl) ad_nil))) (Nat.le_of_ble_eq_true rfl)) (Nat.le_refl _) ?_ (fun d e => ?_)
          · rw [List.length_map, List.length_append, List.length_cons, List.length_take, hz1, hz2]
            omega
          · subst e
            refine sg_nil fun σ H a => ?_
            exact ⟨_, _, _, ⟨rfl, rfl, _, _, rfl⟩, a.to (by
              rw [take_snoc (nmAds_get hd hc)]
              simp only [List.map_append, List.append_assoc]
              rfl)⟩
    · subst e1 e3 e4
      have e9 : (zipD (ns.map Dt.str) (cutG (cs.map Dt.int) (some (RR : Int)) none)).length = ns.length := by
        rw [zipD_len, cut_from, List.length_map, List.length_drop, List.length_map]
        omega
      rw [e9, List.take_of_length_le (l := nmAds ns (cs.drop RR)) (by rw [hz2]; exact Nat.le_refl _)]
      refine sg_freeze 5 rfl rfl (sg_retD S rok0 (ed_tuple g.tuple (ed_lcF (T := nzD) (F := id) (G := fun d => [d]) (sl := [9]) (own := [("addend", 9)]) S.calm S.nd (blkOk_by (by kernel_rfl)) (id_list (ed_var 5 rfl)) (by decide) ?_ (fun Y hY x hx => ?_) (fun Y hY x hx => ?_) (fun Y hY x hx hT => ?_))) (hR.to ?_))
      · rw [List.length_map, List.length_append, List.length_cons, hz1, hz2]
        omega
      · obtain ⟨s', H', A', cl, fp, rfl⟩ := hY
        exact gd_name S.nd
      · obtain ⟨s', H', A', cl, fp, rfl⟩ := hY
        obtain ⟨a, _, rfl⟩ := List.mem_map.mp hx
        obtain ⟨l, k1, k2⟩ := aD_c a
        exact ts_one (TM.to (td_neI (ed_item (ed_var 9 rfl) ed_int k1 k2) ed_int) (nzD_aD a).symm)
      · obtain ⟨s', H', A', cl, fp, rfl⟩ := hY
        exact ed_var 9 rfl
      · rw [filter_aD]
        show _ = Dt.tup ((sumFor ss ns (intsOf ((c :: cs).map Dt.int))).map aD)
        rw [intsOf_map]
        unfold sumFor allAds
        rw [hR2]
        rfl

/-! ### worth_of -/
def preWo (m : Nat) : Option Addr → List Dt → Prop := fun _ ds => ∃ ss ns tp, ∃ (cnt vals : List Int) (as : List Ad), ds = [.tlk ss ns tp, .tup [.tup (cnt.map Dt.int), .tup (vals.map Dt.int)], .tup (as.map aD)] ∧ TlOk ss ns ∧ (∀ a ∈ as, AdOk ss ns m a) ∧
  (∀ i ∈ cnt, Bd i) ∧ (∀ i ∈ vals, Bd i) ∧ (∀ i ∈ rowOf ss ns as, Bd i) ∧ cnt.length ≤ 50 ∧ vals.length ≤ 50
def postWo : List Dt → Dt → Prop := fun ds d => ∀ ss ns tp, ∀ (cnt vals : List Int) (as : List Ad), ds = [.tlk ss ns tp, .tup [.tup (cnt.map Dt.int), .tup (vals.map Dt.int)], .tup (as.map aD)] → d = .int (rowWorth (rowOf ss ns as) (cnt ++ vals))
theorem ints_inj {as bs : List Int} (h : as.map Dt.int = bs.map Dt.int) : as = bs := by
  have := congrArg intsOf h
  rwa [intsOf_map, intsOf_map] at this
abbrev SpRo (K : PySem.W.Frag) (C : Addr) (m : Nat) : Sp := SpQ K C 0 (preRo m) postRo
abbrev SpRw (K : PySem.W.Frag) (C : Addr) : Sp := SpQ K C 0 preRw (fun ds d => d = rwF ds)
theorem ed_rowof {X : Cx} {q : Option Addr} {env : En} {cs : Cs} {a b : Expr} {p pos : Pos} {m lv : Nat} {ss ns : List PySem.Str} {tp : Int} {as : List Ad} (h : HasF X.prog X.w X.K X.mg X.base lv "row_of" ["talk", "addends"] (SpRo X.K C m)) (hr : Room lv X.A)
    (ha : ED X C q a env cs (.tlk ss ns tp)) (hb : ED X C q b env cs (.tup (as.map aD))) (ok : TlOk ss ns) (hok : ∀ a ∈ as, AdOk ss ns m a) (hg : Gl X "row_of" := by rfl)
    (he : starEach [a, b] X.env = (false, eval a X.env) :: starEach [b] X.env := by rfl) (he2 : starEach [b] X.env = (false, eval b X.env) :: starEach [] X.env := by rfl) (hpl : (backTo pos (starEach [b] X.env)).any (·.1) = false := by rfl) :
    ED X C q (.Call (.Name "row_of" p) [a, b] [] pos) env cs (.tup ((rowOf ss ns as).map Dt.int)) :=
  em_callF (k := 0) (kf := 0) h hr (ad_cons ha (ad_cons hb ad_nil he2) he) (fun _ e => e ▸ ⟨ss, ns, tp, as, rfl, ok, hok⟩) (fun ds d e h => h ss ns tp as e) hg (by decide) he hpl
theorem ed_rw {X : Cx} {q : Option Addr} {env : En} {cs : Cs} {a b : Expr} {p pos : Pos} {lv : Nat} {row vs : List Int} (h : HasF X.prog X.w X.K X.mg X.base lv "row_worth" ["row", "values"] (SpRw X.K C)) (hr : Room lv X.A)
    (ha : ED X C q a env cs (.tup (row.map Dt.int))) (hb : ED X C q b env cs (.tup (vs.map Dt.int))) (hne : row ≠ []) (h1 : ∀ i ∈ row, Bd i) (h2 : ∀ i ∈ vs, Bd i) (h3 : row.length ≤ 100) (h4 : vs.length ≤ 100) (hg : Gl X "row_worth" := by rfl)
    (he : starEach [a, b] X.env = (false, eval a X.env) :: starEach [b] X.env := by rfl) (he2 : starEach [b] X.env = (false, eval b X.env) :: starEach [] X.env := by rfl) (hpl : (backTo pos (starEach [b] X.env)).any (·.1) = false := by rfl) :
    ED X C q (.Call (.Name "row_worth" p) [a, b] [] pos) env cs (.int (rowWorth row vs)) := by
  cases row with
  | nil => exact absurd rfl hne
  | cons c cs' =>
    refine em_callF (k := 0) (kf := 0) h hr (ad_cons ha (ad_cons hb ad_nil he2) he) (fun _ e => e ▸ ⟨c, cs', vs, rfl, fun i hi => h1 i (List.mem_cons_of_mem _ hi), h2, Nat.le_of_succ_le h3, h4⟩) (fun ds d e h => ?_) hg (by decide) he hpl
    rw [h, e]
    show Dt.int (rowWorth (intsOf ((c :: cs').map Dt.int)) (intsOf (vs.map Dt.int))) = _
    rw [intsOf_map, intsOf_map]
theorem rowOf_len (ss ns : List PySem.Str) (as : List Ad) : (rowOf ss ns as).length = 1 + (2 ^ ss.length + ns.length) := by
  unfold rowOf
  rw [foldAd_len, List.length_replicate]
theorem sc25 : FnScope ["talk", "world", "addends", "counts", "values"] ["talk", "world", "addends"] (defScope (top 25)) := ⟨rfl, rfl, rfl, by decide +kernel, rfl, by decide +kernel, by decide +kernel⟩
theorem ok_worth {m : Nat} (F : FnP K "worth_of" 25 f fd) (Ro : HasF P w K mg base (6 + m) "row_of" ["talk", "addends"] (SpRo K C m)) (Rw : HasF P w K mg base 1 "row_worth" ["row", "values"] (SpRw K C)) :
    FnOk P w K mg base CX0 (7 + m) f fd ["talk", "world", "addends"] (SpQ K C 0 (preWo m) postWo) := by
  have e4 : 7 + m = (6 + m) + 1 := by omega
  rw [e4]
  refine fnd_ok F sc25 (fun _ _ ⟨_, _, _, _, _, _, h, _⟩ => h ▸ rfl) fun cdv A outer s H E hr q ds n B0 H0 D hp hn S hR hN => ?_
  obtain ⟨ss, ns, tp, cnt, vals, as, rfl, ok, hok, b1, b2, b3, l1, l2⟩ := hp
  have h8 := pow8 ok
  have hn2 := ok.hn
  refine sg_tgtD (sl := [3, 4]) S rok0 (ed_var 1 rfl) (gd_tup S.calm (gds_name S.nd (gds_name S.nd gds_nil)) rfl) ?_
  refine sg_retD S rok0 (ed_rw (vs := cnt ++ vals) Rw (hr.mono (by omega)) (ed_rowof Ro hr (ed_var 0 rfl) (ed_var 2 rfl) ok hok) (ED.to (ed_catT (by rw [List.length_map, List.length_map]; omega) (ed_var 3 rfl) (ed_var 4 rfl)) (by rw [List.map_append])) ?_ b3 ?_ ?_ ?_) (hR.to ?_)
  · intro e
    have := rowOf_len ss ns as
    rw [e] at this
    have h0 : (0 : Nat) = 1 + (2 ^ ss.length + ns.length) := this
    rw [Nat.add_comm] at h0
    exact Nat.succ_ne_zero _ h0.symm
  · intro i hi
    rcases List.mem_append.mp hi with h | h
    · exact b1 i h
    · exact b2 i h
  · rw [rowOf_len]
    omega
  · rw [List.length_append]
    omega
  · intro ss' ns' tp' cnt' vals' as' e
    injection e with e1 e2
    injection e1 with e3 e4
    injection e2 with e5 e6
    injection e5 with e7
    injection e7 with e8 e9
    injection e8 with e10
    injection e9 with e11
    injection e11 with e12
    injection e6 with e13
    injection e13 with e14
    have k1 := ints_inj e10
    have k2 := ints_inj e12
    have k3 := aDs_inj e14
    subst k1 k2 k3 e3 e4
    rfl
end
end Cf

/-! Fn7: the law's own: lies, in, size, worth, regions, has. -/
namespace Cf
open PySem PySem.Spec PyProof.Rows L2
section
variable {P : Program} {w : World} {K : PySem.W.Frag} {mg : PySem.Str → Option Value} {base : Heap} {C : Addr} {f : Addr} {fd : FuncData}

/-! ### _law_lies -/
def preLl : Option Addr → List Dt → Prop := fun _ ds => ∃ ss r x, ds = [.nms ss, .int ((r : Nat) : Int), .str x]
def llF : List Dt → Dt
  | [.nms ss, .int r, .str x] => .bl (lieB ss r.toNat x)
  | _ => .non
theorem sc38 : FnScope ["_law_sets", "_law_region", "_law_name", "_law_bits", "_law_other"] ["_law_sets", "_law_region", "_law_name"] (defScope (top 38)) := ⟨rfl, rfl, rfl, by decide +kernel, rfl, by decide +kernel, by decide +kernel⟩
theorem ok_llies (F : FnP K "_law_lies" 38 f fd) : FnOk P w K mg base CX0 1 f fd ["_law_sets", "_law_region", "_law_name"] (SpQ K C 0 preLl (fun ds d => d = llF ds)) := by
  refine fnd_ok F sc38 (fun _ _ ⟨_, _, _, h⟩ => h ▸ rfl) fun cdv A outer s H E hr q ds n B0 H0 D hp hn S hR hN => ?_
  obtain ⟨ss, r, x, rfl⟩ := hp
  refine sg_setD S 3 rok0 (ed_var 1 rfl) ?_
  refine sg_for (sl := [4]) S rok0 (fun j n' env' cs' => n' = n ∧ cs' = none ∧ ∃ b : Nat, ∃ e4, env' = [some (.nms ss), some (.int (r : Int)), some (.str x), some (.int (b : Int)), e4] ∧ lieB (ss.drop j) b x = lieB ss r x) (id_nms (ed_var 0 rfl)) ⟨rfl, rfl, r, _, rfl, rfl⟩ (fun _ _ _ _ _ => rok0) (fun Bm j y hx n' env' cs' ⟨e1, e2, b, e3, e4, e5⟩ => ?_) (fun n' env' cs' ⟨e1, e2, b, e3, e4, e5⟩ => ?_)
  · subst e1 e2 e4
    rw [List.getElem?_map] at hx
    cases hz : ss[j]? with
    | none => rw [hz] at hx; cases hx
    | some z =>
      rw [hz] at hx
      cases hx
      have hl := (List.getElem?_eq_some_iff.mp hz).1
      have hd : ss.drop j = z :: ss.drop (j + 1) := by
        rw [List.drop_eq_getElem_cons hl, (List.getElem?_eq_some_iff.mp hz).2]
      rw [hd] at e5
      refine ⟨[.str z], gd_name S.nd, ?_⟩
      refine sg_ifD S rok0 (td_eqS (ed_var 4 rfl) (ed_var 2 rfl)) (fun h => sg_retD S rok0 (ed_eqI (ed_mod (by decide) (ed_var 3 rfl) ed_int) ed_int) (hR.to ?_)) (fun h => sg_back (sg_setD S 3 rok0 (ed_fdiv ⟨by decide, by decide⟩ (ed_var 3 rfl) ed_int) (sg_nil fun σ H a => ⟨_, _, _, ⟨rfl, rfl, b / 2, _, rfl, ?_⟩, a⟩)))
      · show _ = Dt.bl (lieB ss r x)
        rw [← e5]
        show _ = Dt.bl (if z = x then decide (b % 2 = 1) else lieB (ss.drop (j + 1)) (b / 2) x)
        rw [if_pos (of_decide_eq_true h)]
        congr 1
        exact decide_eq_decide.mpr (by omega)
      · rw [← e5]
        show _ = (if z = x then decide (b % 2 = 1) else lieB (ss.drop (j + 1)) (b / 2) x)
        rw [if_neg (of_decide_eq_false h)]
  · subst e1 e2 e4
    rw [List.length_map, List.drop_length] at e5
    exact sg_retD S rok0 ed_bl (hR.to (by show _ = Dt.bl (lieB ss r x); rw [← e5]; rfl))
abbrev SpLl (K : PySem.W.Frag) (C : Addr) : Sp := SpQ K C 0 preLl (fun ds d => d = llF ds)
theorem ed_llies {X : Cx} {q : Option Addr} {env : En} {cs : Cs} {a b c : Expr} {p pos : Pos} {lv r : Nat} {ss : List PySem.Str} {x : PySem.Str} (h : HasF X.prog X.w X.K X.mg X.base lv "_law_lies" ["_law_sets", "_law_region", "_law_name"] (SpLl X.K C)) (hr : Room lv X.A)
    (ha : ED X C q a env cs (.nms ss)) (hb : ED X C q b env cs (.int ((r : Nat) : Int))) (hc : ED X C q c env cs (.str x)) (hg : Gl X "_law_lies" := by rfl)
    (he : starEach [a, b, c] X.env = (false, eval a X.env) :: starEach [b, c] X.env := by rfl) (he2 : starEach [b, c] X.env = (false, eval b X.env) :: starEach [c] X.env := by rfl) (he3 : starEach [c] X.env = (false, eval c X.env) :: starEach [] X.env := by rfl) (hpl : (backTo pos (starEach [b, c] X.env)).any (·.1) = false := by rfl) :
    ED X C q (.Call (.Name "_law_lies" p) [a, b, c] [] pos) env cs (.bl (lieB ss r x)) :=
  ED.to (ed_callF (g := llF) h hr (ad_cons ha (ad_cons hb (ad_cons hc ad_nil he3) he2) he) ⟨ss, r, x, rfl⟩ hg (by decide) he hpl) rfl

/-! ### _law_in -/
def preIn (m : Nat) : Option Addr → List Dt → Prop := fun _ ds => ∃ ss r t, ds = [.nms ss, .int ((r : Nat) : Int), tD t] ∧ t.deep ≤ m
def postIn : List Dt → Dt → Prop := fun ds d => ∀ ss r t, ds = [.nms ss, .int ((r : Nat) : Int), tD t] → d = .bl (t.ev (lieB ss r))
abbrev SpIn (K : PySem.W.Frag) (C : Addr) (m : Nat) : Sp := SpQ K C 0 (preIn m) postIn
theorem sc39 : FnScope ["_law_sets", "_law_region", "_law_term_here", "_law_one", "_law_other"] ["_law_sets", "_law_region", "_law_term_here"] (defScope (top 39)) := ⟨rfl, rfl, rfl, by decide +kernel, rfl, by decide +kernel, by decide +kernel⟩
theorem ed_lin {X : Cx} {q : Option Addr} {env : En} {cs : Cs} {a b c : Expr} {p pos : Pos} {m lv r : Nat} {ss : List PySem.Str} {t : Tm} (h : HasF X.prog X.w X.K X.mg X.base lv "_law_in" ["_law_sets", "_law_region", "_law_term_here"] (SpIn X.K C m)) (hr : Room lv X.A)
    (ha : ED X C q a env cs (.nms ss)) (hb : ED X C q b env cs (.int ((r : Nat) : Int))) (hc : ED X C q c env cs (tD t)) (hd : t.deep ≤ m) (hg : Gl X "_law_in" := by rfl)
    (he : starEach [a, b, c] X.env = (false, eval a X.env) :: starEach [b, c] X.env := by rfl) (he2 : starEach [b, c] X.env = (false, eval b X.env) :: starEach [c] X.env := by rfl) (he3 : starEach [c] X.env = (false, eval c X.env) :: starEach [] X.env := by rfl) (hpl : (backTo pos (starEach [b, c] X.env)).any (·.1) = false := by rfl) :
    ED X C q (.Call (.Name "_law_in" p) [a, b, c] [] pos) env cs (.bl (t.ev (lieB ss r))) :=
  em_callF (k := 0) (kf := 0) h hr (ad_cons ha (ad_cons hb (ad_cons hc ad_nil he3) he2) he) (fun _ e => e ▸ ⟨ss, r, t, rfl, hd⟩) (fun ds d e h => h ss r t e) hg (by decide) he hpl
theorem ok_lin0 {m : Nat} (g : Bi mg) (F : FnP K "_law_in" 39 f fd) (L : HasF P w K mg base 1 "_law_lies" ["_law_sets", "_law_region", "_law_name"] (SpLl K C))
    (IH : ∀ m', m = m' + 1 → HasF P w K mg base (2 + m') "_law_in" ["_law_sets", "_law_region", "_law_term_here"] (SpIn K C m')) : FnOk P w K mg base CX0 (2 + m) f fd ["_law_sets", "_law_region", "_law_term_here"] (SpIn K C m) := by
  have e4 : 2 + m = (1 + m) + 1 := by omega
  rw [e4]
  refine fnd_ok F sc39 (fun _ _ ⟨_, _, _, h, _⟩ => h ▸ rfl) fun cdv A outer s H E hr q ds n B0 H0 D hp hn S hR hN => ?_
  obtain ⟨ss, r, t, rfl, hd⟩ := hp
  have fin : ∀ d, d = Dt.bl (t.ev (lieB ss r)) → Rt (bX P w K mg base ["_law_sets", "_law_region", "_law_term_here", "_law_one", "_law_other"] "_law_in" (defScope (top 39)) f cdv A outer s H E) C q q B0 H0 (n + 0) (fun x => x = d) D := fun d e => hR.to (by
    intro ss' r' t' e'
    injection e' with e1 e2
    injection e1 with e3
    injection e2 with e4 e5
    injection e5 with e6
    have := tD_inj e6
    subst this
    subst e3
    injection e4 with e7
    obtain rfl := Int.ofNat.inj e7
    exact e)
  have two : ∀ (a b : Tm), max a.deep b.deep + 1 ≤ m → ∃ m', m = m' + 1 ∧ a.deep ≤ m' ∧ b.deep ≤ m' := fun a b h => ⟨m - 1, by omega, by omega, by omega⟩
  cases t with
  | nm x =>
    exact sg_T S rok0 (td_val (ed_isi g.isin (ed_var 2 rfl) (ed_ty (n := "str") g.str (by decide +kernel)) rfl rfl)) (sg_retD S rok0 (ed_llies L (hr.mono (by omega)) (ed_var 0 rfl) (ed_var 1 rfl) (ed_var 2 rfl)) (fin _ rfl))
  | all =>
    refine sg_no S rok0 (td_val (ed_isi g.isin (ed_var 2 rfl) (ed_ty (n := "str") g.str (by decide +kernel)) rfl rfl)) ?_
    refine sg_no S rok0 (td_eqS (ed_item (ed_var 2 rfl) ed_int rfl rfl) ed_str) ?_
    exact sg_T S rok0 (td_inS (ns := ["all", "none"]) (ed_item (ed_var 2 rfl) ed_int rfl rfl) (ed_tup (ad_cons ed_str (ad_cons ed_str ad_nil)) (by decide)) rfl) (sg_retD S rok0 (ed_eqS (ed_item (ed_var 2 rfl) ed_int rfl rfl) ed_str) (fin _ rfl))
  | none =>
    refine sg_no S rok0 (td_val (ed_isi g.isin (ed_var 2 rfl) (ed_ty (n := "str") g.str (by decide +kernel)) rfl rfl)) ?_
    refine sg_no S rok0 (td_eqS (ed_item (ed_var 2 rfl) ed_int rfl rfl) ed_str) ?_
    exact sg_T S rok0 (td_inS (ns := ["all", "none"]) (ed_item (ed_var 2 rfl) ed_int rfl rfl) (ed_tup (ad_cons ed_str (ad_cons ed_str ad_nil)) (by decide)) rfl) (sg_retD S rok0 (ed_eqS (ed_item (ed_var 2 rfl) ed_int rfl rfl) ed_str) (fin _ rfl))
  | not a =>
    obtain ⟨m', rfl, h1, _⟩ := two a a (by have : a.deep + 1 ≤ m := hd; omega)
    refine sg_no S rok0 (td_val (ed_isi g.isin (ed_var 2 rfl) (ed_ty (n := "str") g.str (by decide +kernel)) rfl rfl)) ?_
    exact sg_T S rok0 (td_eqS (ed_item (ed_var 2 rfl) ed_int rfl rfl) ed_str) (sg_retD S rok0 (ed_not (ed_lin (IH m' rfl) (hr.mono (by omega)) (ed_var 0 rfl) (ed_var 1 rfl) (ed_item (ed_var 2 rfl) ed_int rfl rfl) h1)) (fin _ rfl))
  | and a b =>
    obtain ⟨m', rfl, h1, h2⟩ := two a b hd
    refine sg_no S rok0 (td_val (ed_isi g.isin (ed_var 2 rfl) (ed_ty (n := "str") g.str (by decide +kernel)) rfl rfl)) ?_
    refine sg_no S rok0 (td_eqS (ed_item (ed_var 2 rfl) ed_int rfl rfl) ed_str) ?_
    refine sg_no S rok0 (td_inS (ns := ["all", "none"]) (ed_item (ed_var 2 rfl) ed_int rfl rfl) (ed_tup (ad_cons ed_str (ad_cons ed_str ad_nil)) (by decide)) rfl) ?_
    refine sg_setD S 3 rok0 (ed_lin (IH m' rfl) (hr.mono (by omega)) (ed_var 0 rfl) (ed_var 1 rfl) (ed_item (ed_var 2 rfl) ed_int rfl rfl) h1) ?_
    refine sg_setD S 4 rok0 (ed_lin (IH m' rfl) (hr.mono (by omega)) (ed_var 0 rfl) (ed_var 1 rfl) (ed_item (ed_var 2 rfl) ed_int rfl rfl) h2) ?_
    exact sg_T S rok0 (td_eqS (ed_item (ed_var 2 rfl) ed_int rfl rfl) ed_str) (sg_retD S rok0 (ed_and (ed_var 3 rfl) fun _ => ed_one (ed_var 4 rfl)) (fin _ rfl))
  | or a b =>
    obtain ⟨m', rfl, h1, h2⟩ := two a b hd
    refine sg_no S rok0 (td_val (ed_isi g.isin (ed_var 2 rfl) (ed_ty (n := "str") g.str (by decide +kernel)) rfl rfl)) ?_
    refine sg_no S rok0 (td_eqS (ed_item (ed_var 2 rfl) ed_int rfl rfl) ed_str) ?_
    refine sg_no S rok0 (td_inS (ns := ["all", "none"]) (ed_item (ed_var 2 rfl) ed_int rfl rfl) (ed_tup (ad_cons ed_str (ad_cons ed_str ad_nil)) (by decide)) rfl) ?_
    refine sg_setD S 3 rok0 (ed_lin (IH m' rfl) (hr.mono (by omega)) (ed_var 0 rfl) (ed_var 1 rfl) (ed_item (ed_var 2 rfl) ed_int rfl rfl) h1) ?_
    refine sg_setD S 4 rok0 (ed_lin (IH m' rfl) (hr.mono (by omega)) (ed_var 0 rfl) (ed_var 1 rfl) (ed_item (ed_var 2 rfl) ed_int rfl rfl) h2) ?_
    refine sg_no S rok0 (td_eqS (ed_item (ed_var 2 rfl) ed_int rfl rfl) ed_str) ?_
    exact sg_T S rok0 (td_eqS (ed_item (ed_var 2 rfl) ed_int rfl rfl) ed_str) (sg_retD S rok0 (ed_or (ed_var 3 rfl) fun _ => ed_one (ed_var 4 rfl)) (fin _ rfl))
  | but a b =>
    obtain ⟨m', rfl, h1, h2⟩ := two a b hd
    refine sg_no S rok0 (td_val (ed_isi g.isin (ed_var 2 rfl) (ed_ty (n := "str") g.str (by decide +kernel)) rfl rfl)) ?_
    refine sg_no S rok0 (td_eqS (ed_item (ed_var 2 rfl) ed_int rfl rfl) ed_str) ?_
    refine sg_no S rok0 (td_inS (ns := ["all", "none"]) (ed_item (ed_var 2 rfl) ed_int rfl rfl) (ed_tup (ad_cons ed_str (ad_cons ed_str ad_nil)) (by decide)) rfl) ?_
    refine sg_setD S 3 rok0 (ed_lin (IH m' rfl) (hr.mono (by omega)) (ed_var 0 rfl) (ed_var 1 rfl) (ed_item (ed_var 2 rfl) ed_int rfl rfl) h1) ?_
    refine sg_setD S 4 rok0 (ed_lin (IH m' rfl) (hr.mono (by omega)) (ed_var 0 rfl) (ed_var 1 rfl) (ed_item (ed_var 2 rfl) ed_int rfl rfl) h2) ?_
    refine sg_no S rok0 (td_eqS (ed_item (ed_var 2 rfl) ed_int rfl rfl) ed_str) ?_
    refine sg_no S rok0 (td_eqS (ed_item (ed_var 2 rfl) ed_int rfl rfl) ed_str) ?_
    exact sg_retD S rok0 (ed_and (ed_var 3 rfl) fun _ => ed_one (ed_not (ed_var 4 rfl))) (fin _ rfl)
theorem has_lin (g : Bi mg) (F : FnP K "_law_in" 39 f fd) (mH : mg "_law_in" = some (.ref f)) (L : HasF P w K mg base 1 "_law_lies" ["_law_sets", "_law_region", "_law_name"] (SpLl K C)) : ∀ m, HasF P w K mg base (2 + m) "_law_in" ["_law_sets", "_law_region", "_law_term_here"] (SpIn K C m)
  | 0 => ⟨f, fd, mH, F.kp, F.bindsN fun _ _ _ _ _ _ us hl => match us, hl with | [_, _, _], _ => rfl, ok_lin0 g F L fun m' e => by omega⟩
  | m + 1 => ⟨f, fd, mH, F.kp, F.bindsN fun _ _ _ _ _ _ us hl => match us, hl with | [_, _, _], _ => rfl, ok_lin0 g F L fun m' e => by
      cases e
      exact has_lin g F mH L m⟩

/-! ### _law_has -/
def preHs (m : Nat) : Option Addr → List Dt → Prop := fun _ ds => ∃ (ns : List PySem.Str) (t : Tm), ds = [.lst (ns.map Dt.str), tD t] ∧ t.deep ≤ m
def postHs : List Dt → Dt → Prop := fun ds d => ∀ (ns : List PySem.Str) (t : Tm), ds = [.lst (ns.map Dt.str), tD t] → d = .bl (t.ev fun x => decide (x ∈ ns))
abbrev SpHs (K : PySem.W.Frag) (C : Addr) (m : Nat) : Sp := SpQ K C 0 (preHs m) postHs
theorem strs_inj : ∀ {as bs : List PySem.Str}, as.map Dt.str = bs.map Dt.str → as = bs
  | [], [], _ => rfl
  | [], _ :: _, h => by cases h
  | _ :: _, [], h => by cases h
  | a :: as, b :: bs, h => by
    injection h with h1 h2
    injection h1 with h3
    rw [h3, strs_inj h2]
theorem sc45 : FnScope ["_law_names_here", "_law_term_here", "_law_one", "_law_other"] ["_law_names_here", "_law_term_here"] (defScope (top 45)) := ⟨rfl, rfl, rfl, by decide +kernel, rfl, by decide +kernel, by decide +kernel⟩
theorem ed_lhas {X : Cx} {q : Option Addr} {env : En} {cs : Cs} {a b : Expr} {p pos : Pos} {m lv : Nat} {ns : List PySem.Str} {t : Tm} (h : HasF X.prog X.w X.K X.mg X.base lv "_law_has" ["_law_names_here", "_law_term_here"] (SpHs X.K C m)) (hr : Room lv X.A)
    (ha : ED X C q a env cs (.lst (ns.map Dt.str))) (hb : ED X C q b env cs (tD t)) (hd : t.deep ≤ m) (hg : Gl X "_law_has" := by rfl)
    (he : starEach [a, b] X.env = (false, eval a X.env) :: starEach [b] X.env := by rfl) (he2 : starEach [b] X.env = (false, eval b X.env) :: starEach [] X.env := by rfl) (hpl : (backTo pos (starEach [b] X.env)).any (·.1) = false := by rfl) :
    ED X C q (.Call (.Name "_law_has" p) [a, b] [] pos) env cs (.bl (t.ev fun x => decide (x ∈ ns))) :=
  em_callF (k := 0) (kf := 0) h hr (ad_cons ha (ad_cons hb ad_nil he2) he) (fun _ e => e ▸ ⟨ns, t, rfl, hd⟩) (fun ds d e h => h ns t e) hg (by decide) he hpl
theorem ok_lhas0 {m : Nat} (g : Bi mg) (F : FnP K "_law_has" 45 f fd)
    (IH : ∀ m', m = m' + 1 → HasF P w K mg base (1 + m') "_law_has" ["_law_names_here", "_law_term_here"] (SpHs K C m')) : FnOk P w K mg base CX0 (1 + m) f fd ["_law_names_here", "_law_term_here"] (SpHs K C m) := by
  have e4 : 1 + m = m + 1 := by omega
  rw [e4]
  refine fnd_ok F sc45 (fun _ _ ⟨_, _, h, _⟩ => h ▸ rfl) fun cdv A outer s H E hr q ds n B0 H0 D hp hn S hR hN => ?_
  obtain ⟨ns, t, rfl, hd⟩ := hp
  have fin : ∀ d, d = Dt.bl (t.ev fun x => decide (x ∈ ns)) → Rt (bX P w K mg base ["_law_names_here", "_law_term_here", "_law_one", "_law_other"] "_law_has" (defScope (top 45)) f cdv A outer s H E) C q q B0 H0 (n + 0) (fun x => x = d) D := fun d e => hR.to (by
    intro ns' t' e'
    injection e' with e1 e2
    injection e1 with e3
    injection e2 with e4
    have h1 := tD_inj e4
    have h2 := strs_inj e3
    subst h1 h2
    exact e)
  have two : ∀ (a b : Tm), max a.deep b.deep + 1 ≤ m → ∃ m', m = m' + 1 ∧ a.deep ≤ m' ∧ b.deep ≤ m' := fun a b h => ⟨m - 1, by omega, by omega, by omega⟩
  cases t with
  | nm x =>
    exact sg_T S rok0 (td_val (ed_isi g.isin (ed_var 1 rfl) (ed_ty (n := "str") g.str (by decide +kernel)) rfl rfl)) (sg_retD S rok0 (ed_inS (ed_var 1 rfl) (ed_var 0 rfl) rfl) (fin _ rfl))
  | all =>
    refine sg_no S rok0 (td_val (ed_isi g.isin (ed_var 1 rfl) (ed_ty (n := "str") g.str (by decide +kernel)) rfl rfl)) ?_
    exact sg_T S rok0 (td_inS (ns := ["all", "none"]) (ed_item (ed_var 1 rfl) ed_int rfl rfl) (ed_tup (ad_cons ed_str (ad_cons ed_str ad_nil)) (by decide)) rfl) (sg_retD S rok0 (ed_eqS (ed_item (ed_var 1 rfl) ed_int rfl rfl) ed_str) (fin _ rfl))
  | none =>
    refine sg_no S rok0 (td_val (ed_isi g.isin (ed_var 1 rfl) (ed_ty (n := "str") g.str (by decide +kernel)) rfl rfl)) ?_
    exact sg_T S rok0 (td_inS (ns := ["all", "none"]) (ed_item (ed_var 1 rfl) ed_int rfl rfl) (ed_tup (ad_cons ed_str (ad_cons ed_str ad_nil)) (by decide)) rfl) (sg_retD S rok0 (ed_eqS (ed_item (ed_var 1 rfl) ed_int rfl rfl) ed_str) (fin _ rfl))
  | not a =>
    obtain ⟨m', rfl, h1, _⟩ := two a a (by have : a.deep + 1 ≤ m := hd; omega)
    refine sg_no S rok0 (td_val (ed_isi g.isin (ed_var 1 rfl) (ed_ty (n := "str") g.str (by decide +kernel)) rfl rfl)) ?_
    refine sg_no S rok0 (td_inS (ns := ["all", "none"]) (ed_item (ed_var 1 rfl) ed_int rfl rfl) (ed_tup (ad_cons ed_str (ad_cons ed_str ad_nil)) (by decide)) rfl) ?_
    refine sg_setD S 2 rok0 (ed_lhas (IH m' rfl) (hr.mono (by omega)) (ed_var 0 rfl) (ed_item (ed_var 1 rfl) ed_int rfl rfl) h1) ?_
    exact sg_T S rok0 (td_eqS (ed_item (ed_var 1 rfl) ed_int rfl rfl) ed_str) (sg_retD S rok0 (ed_not (ed_var 2 rfl)) (fin _ rfl))
  | and a b =>
    obtain ⟨m', rfl, h1, h2⟩ := two a b hd
    refine sg_no S rok0 (td_val (ed_isi g.isin (ed_var 1 rfl) (ed_ty (n := "str") g.str (by decide +kernel)) rfl rfl)) ?_
    refine sg_no S rok0 (td_inS (ns := ["all", "none"]) (ed_item (ed_var 1 rfl) ed_int rfl rfl) (ed_tup (ad_cons ed_str (ad_cons ed_str ad_nil)) (by decide)) rfl) ?_
    refine sg_setD S 2 rok0 (ed_lhas (IH m' rfl) (hr.mono (by omega)) (ed_var 0 rfl) (ed_item (ed_var 1 rfl) ed_int rfl rfl) h1) ?_
    refine sg_no S rok0 (td_eqS (ed_item (ed_var 1 rfl) ed_int rfl rfl) ed_str) ?_
    refine sg_setD S 3 rok0 (ed_lhas (IH m' rfl) (hr.mono (by omega)) (ed_var 0 rfl) (ed_item (ed_var 1 rfl) ed_int rfl rfl) h2) ?_
    exact sg_T S rok0 (td_eqS (ed_item (ed_var 1 rfl) ed_int rfl rfl) ed_str) (sg_retD S rok0 (ed_and (ed_var 2 rfl) fun _ => ed_one (ed_var 3 rfl)) (fin _ rfl))
  | or a b =>
    obtain ⟨m', rfl, h1, h2⟩ := two a b hd
    refine sg_no S rok0 (td_val (ed_isi g.isin (ed_var 1 rfl) (ed_ty (n := "str") g.str (by decide +kernel)) rfl rfl)) ?_
    refine sg_no S rok0 (td_inS (ns := ["all", "none"]) (ed_item (ed_var 1 rfl) ed_int rfl rfl) (ed_tup (ad_cons ed_str (ad_cons ed_str ad_nil)) (by decide)) rfl) ?_
    refine sg_setD S 2 rok0 (ed_lhas (IH m' rfl) (hr.mono (by omega)) (ed_var 0 rfl) (ed_item (ed_var 1 rfl) ed_int rfl rfl) h1) ?_
    refine sg_no S rok0 (td_eqS (ed_item (ed_var 1 rfl) ed_int rfl rfl) ed_str) ?_
    refine sg_setD S 3 rok0 (ed_lhas (IH m' rfl) (hr.mono (by omega)) (ed_var 0 rfl) (ed_item (ed_var 1 rfl) ed_int rfl rfl) h2) ?_
    refine sg_no S rok0 (td_eqS (ed_item (ed_var 1 rfl) ed_int rfl rfl) ed_str) ?_
    exact sg_retD S rok0 (ed_ifT (td_eqS (ed_item (ed_var 1 rfl) ed_int rfl rfl) ed_str) (ed_or (ed_var 2 rfl) fun _ => ed_one (ed_var 3 rfl))) (fin _ rfl)
  | but a b =>
    obtain ⟨m', rfl, h1, h2⟩ := two a b hd
    refine sg_no S rok0 (td_val (ed_isi g.isin (ed_var 1 rfl) (ed_ty (n := "str") g.str (by decide +kernel)) rfl rfl)) ?_
    refine sg_no S rok0 (td_inS (ns := ["all", "none"]) (ed_item (ed_var 1 rfl) ed_int rfl rfl) (ed_tup (ad_cons ed_str (ad_cons ed_str ad_nil)) (by decide)) rfl) ?_
    refine sg_setD S 2 rok0 (ed_lhas (IH m' rfl) (hr.mono (by omega)) (ed_var 0 rfl) (ed_item (ed_var 1 rfl) ed_int rfl rfl) h1) ?_
    refine sg_no S rok0 (td_eqS (ed_item (ed_var 1 rfl) ed_int rfl rfl) ed_str) ?_
    refine sg_setD S 3 rok0 (ed_lhas (IH m' rfl) (hr.mono (by omega)) (ed_var 0 rfl) (ed_item (ed_var 1 rfl) ed_int rfl rfl) h2) ?_
    refine sg_no S rok0 (td_eqS (ed_item (ed_var 1 rfl) ed_int rfl rfl) ed_str) ?_
    exact sg_retD S rok0 (ed_ifF (td_eqS (ed_item (ed_var 1 rfl) ed_int rfl rfl) ed_str) (ed_and (ed_var 2 rfl) fun _ => ed_one (ed_not (ed_var 3 rfl)))) (fin _ rfl)
theorem has_lhas (g : Bi mg) (F : FnP K "_law_has" 45 f fd) (mH : mg "_law_has" = some (.ref f)) : ∀ m, HasF P w K mg base (1 + m) "_law_has" ["_law_names_here", "_law_term_here"] (SpHs K C m)
  | 0 => ⟨f, fd, mH, F.kp, F.bindsN fun _ _ _ _ _ _ us hl => match us, hl with | [_, _], _ => rfl, ok_lhas0 g F fun m' e => by omega⟩
  | m + 1 => ⟨f, fd, mH, F.kp, F.bindsN fun _ _ _ _ _ _ us hl => match us, hl with | [_, _], _ => rfl, ok_lhas0 g F fun m' e => by
      cases e
      exact has_lhas g F mH m⟩
end
end Cf

/-! Fn8: the law's regions, size, worth, told. -/
namespace Cf
open PySem PySem.Spec PyProof.Rows L2
section
variable {P : Program} {w : World} {K : PySem.W.Frag} {mg : PySem.Str → Option Value} {base : Heap} {C : Addr} {f : Addr} {fd : FuncData}

/-! ### _law_regions -/
def preLr : Option Addr → List Dt → Prop := fun _ ds => ∃ ss, ds = [.nms ss]
def lrF : List Dt → Dt
  | [.nms ss] => .int ((2 ^ ss.length : Nat) : Int)
  | _ => .non
theorem sc44 : FnScope ["_law_sets", "_law_many", "_law_name"] ["_law_sets"] (defScope (top 44)) := ⟨rfl, rfl, rfl, by decide +kernel, rfl, by decide +kernel, by decide +kernel⟩
theorem ok_lregs (F : FnP K "_law_regions" 44 f fd) : FnOk P w K mg base CX0 1 f fd ["_law_sets"] (SpQ K C 0 preLr (fun ds d => d = lrF ds)) := by
  refine fnd_ok F sc44 (fun _ _ ⟨_, h⟩ => h ▸ rfl) fun cdv A outer s H E hr q ds n B0 H0 D hp hn S hR hN => ?_
  obtain ⟨ss, rfl⟩ := hp
  refine sg_setD S 1 rok0 ed_int ?_
  refine sg_for (sl := [2]) S rok0 (fun j n' env' cs' => n' = n ∧ cs' = none ∧ ∃ e2, env' = [some (.nms ss), some (.int ((2 ^ j : Nat) : Int)), e2]) (id_nms (ed_var 0 rfl)) ⟨rfl, rfl, _, rfl⟩ (fun _ _ _ _ _ => rok0) (fun Bm j y hx n' env' cs' ⟨e1, e2, e3, e4⟩ => ?_) (fun n' env' cs' ⟨e1, e2, e3, e4⟩ => ?_)
  · subst e1 e2 e4
    refine ⟨[y], gd_name S.nd, ?_⟩
    refine sg_setD (d := .int ((2 ^ (j + 1) : Nat) : Int)) S 1 rok0 (ED.to (ed_mul (.inr ⟨by decide, by decide⟩) (ed_var 1 rfl) ed_int) ?_) (sg_nil fun σ H a => ⟨_, _, _, ⟨rfl, rfl, _, rfl⟩, a⟩)
    rw [Nat.pow_succ, Int.natCast_mul]
    rfl
  · subst e1 e2 e4
    refine sg_retD S rok0 (ed_var 1 rfl) (hR.to ?_)
    rw [List.length_map]
    rfl

/-! ### _law_size -/
def sizeOf (ss : List PySem.Str) (cnt : List Int) (t : Tm) : Int := (((List.range cnt.length).filter fun r => t.ev (lieB ss r)).map fun r => cnt.getD r 0).sum
def preSz (m : Nat) : Option Addr → List Dt → Prop := fun _ ds => ∃ ss, ∃ (cnt : List Int) (v : Dt) (t : Tm), ds = [.nms ss, .tup [.tup (cnt.map Dt.int), v], tD t] ∧ t.deep ≤ m ∧ cnt.length ≤ 100
def postSz : List Dt → Dt → Prop := fun ds d => ∀ ss, ∀ (cnt : List Int) (v : Dt) (t : Tm), ds = [.nms ss, .tup [.tup (cnt.map Dt.int), v], tD t] → d = .int (sizeOf ss cnt t)
abbrev SpSz (K : PySem.W.Frag) (C : Addr) (m : Nat) : Sp := SpQ K C 0 (preSz m) postSz
theorem sc40 : FnScope ["_law_sets", "_law_world_here", "_law_term_here", "_law_region", "_law_count"] ["_law_sets", "_law_world_here", "_law_term_here"] (defScope (top 40)) := ⟨rfl, rfl, rfl, by decide +kernel, rfl, by decide +kernel, by decide +kernel⟩
theorem enumD_ints (ns : List Int) : enumD (ns.map Dt.int) = (List.range ns.length).map fun (r : Nat) => .tup [.int (r : Int), .int (ns.getD r 0)] := by
  apply List.ext_getElem?
  intro j
  rw [List.getElem?_map]
  rcases Nat.lt_or_ge j ns.length with hj | hj
  · have h1 : j < (enumD (ns.map Dt.int)).length := by rw [enumD_len, List.length_map]; exact hj
    have h2 := List.getElem?_eq_getElem h1
    obtain ⟨x, hx, e⟩ := enumD_get h2
    rw [h2, e, List.getElem?_range hj]
    rw [List.getElem?_map, List.getElem?_eq_getElem hj] at hx
    cases hx
    show _ = some (Dt.tup [.int (j : Int), .int (ns.getD j 0)])
    rw [List.getD_eq_getElem?_getD, List.getElem?_eq_getElem hj]
    rfl
  · rw [List.getElem?_eq_none (by rw [enumD_len, List.length_map]; exact hj), List.getElem?_eq_none (by rw [List.length_range]; exact hj)]
    rfl
def regT (T : Nat → Bool) : Dt → Bool
  | .tup (.int r :: _) => T r.toNat
  | _ => false
def snd2 : Dt → Dt
  | .tup [_, x] => x
  | _ => .non
theorem enum_filter (ns : List Int) (T : Nat → Bool) : ((enumD (ns.map Dt.int)).filter (regT T)).map snd2 = (((List.range ns.length).filter T).map fun r => ns.getD r 0).map Dt.int := by
  rw [enumD_ints, List.filter_map, List.map_map, List.map_map]
  congr 1
theorem ok_lsize {m : Nat} (g : Bi mg) (F : FnP K "_law_size" 40 f fd) (In : HasF P w K mg base (2 + m) "_law_in" ["_law_sets", "_law_region", "_law_term_here"] (SpIn K C m)) : FnOk P w K mg base CX0 (3 + m) f fd ["_law_sets", "_law_world_here", "_law_term_here"] (SpSz K C m) := by
  have e4 : 3 + m = (2 + m) + 1 := by omega
  rw [e4]
  refine fnd_ok F sc40 (fun _ _ ⟨_, _, _, _, h, _⟩ => h ▸ rfl) fun cdv A outer s H E hr q ds n B0 H0 D hp hn S hR hN => ?_
  obtain ⟨ss, cnt, v, t, rfl, hd, hl⟩ := hp
  have hz : ∀ x ∈ enumD (cnt.map Dt.int), ∃ (r : Nat) (c : Int), x = .tup [.int (r : Int), .int c] := fun x hx => by
    rw [enumD_ints] at hx
    obtain ⟨r, _, rfl⟩ := List.mem_map.mp hx
    exact ⟨r, _, rfl⟩
  refine sg_retD S rok0 (ed_sum (ns := ((List.range cnt.length).filter fun r => t.ev (lieB ss r)).map fun r => cnt.getD r 0) S.calm g.sum (ED.to (ed_lcF (T := regT fun r => t.ev (lieB ss r)) (F := snd2) (G := fun d => match d with | .tup l => l | _ => []) (sl := [3, 4]) (own := [("_law_region", 3), ("_law_count", 4)]) S.calm S.nd (blkOk_by (by kernel_rfl)) (id_enum g.enum (ed_item (ed_var 1 rfl) ed_int rfl rfl) (.t _)) (by decide) ?_ (fun Y hY x hx => ?_) (fun Y hY x hx => ?_) (fun Y hY x hx hT => ?_)) (by rw [enum_filter]))) (hR.to ?_)
  · rw [enumD_len, List.length_map]
    omega
  · obtain ⟨s', H', A', cl, fp, rfl⟩ := hY
    obtain ⟨r, c, rfl⟩ := hz x hx
    exact gd_tup S.calm (gds_name S.nd (gds_name S.nd gds_nil)) rfl
  · obtain ⟨s', H', A', cl, fp, rfl⟩ := hY
    obtain ⟨r, c, rfl⟩ := hz x hx
    exact ts_one (td_val (ed_lin In hr (ed_var 0 rfl) (ed_var 3 rfl) (ed_var 2 rfl) hd))
  · obtain ⟨s', H', A', cl, fp, rfl⟩ := hY
    obtain ⟨r, c, rfl⟩ := hz x hx
    exact ed_var 4 rfl
  · intro ss' cnt' v' t' e
    injection e with e1 e2
    injection e1 with e3
    injection e2 with e4 e5
    injection e4 with e6
    injection e6 with e7 e8
    injection e7 with e9
    injection e5 with e10
    have h1 := tD_inj e10
    have h2 := ints_inj e9
    subst h1 h2 e3
    rfl
theorem ed_lsize {X : Cx} {q : Option Addr} {env : En} {cs : Cs} {a b c : Expr} {p pos : Pos} {m lv : Nat} {ss : List PySem.Str} {cnt : List Int} {v : Dt} {t : Tm} (h : HasF X.prog X.w X.K X.mg X.base lv "_law_size" ["_law_sets", "_law_world_here", "_law_term_here"] (SpSz X.K C m)) (hr : Room lv X.A)
    (ha : ED X C q a env cs (.nms ss)) (hb : ED X C q b env cs (.tup [.tup (cnt.map Dt.int), v])) (hc : ED X C q c env cs (tD t)) (hd : t.deep ≤ m) (hl : cnt.length ≤ 100) (hg : Gl X "_law_size" := by rfl)
    (he : starEach [a, b, c] X.env = (false, eval a X.env) :: starEach [b, c] X.env := by rfl) (he2 : starEach [b, c] X.env = (false, eval b X.env) :: starEach [c] X.env := by rfl) (he3 : starEach [c] X.env = (false, eval c X.env) :: starEach [] X.env := by rfl) (hpl : (backTo pos (starEach [b, c] X.env)).any (·.1) = false := by rfl) :
    ED X C q (.Call (.Name "_law_size" p) [a, b, c] [] pos) env cs (.int (sizeOf ss cnt t)) :=
  em_callF (k := 0) (kf := 0) h hr (ad_cons ha (ad_cons hb (ad_cons hc ad_nil he3) he2) he) (fun _ e => e ▸ ⟨ss, cnt, v, t, rfl, hd, hl⟩) (fun ds d e h => h ss cnt v t e) hg (by decide) he hpl

/-! ### _law_worth -/
def adW (ss ns : List PySem.Str) (cnt vals : List Int) : Ad → Int
  | .lot c => c
  | .num c x => c * vals.getD (ns.idxOf x) 0
  | .size c t => c * sizeOf ss cnt t
def worthL (ss ns : List PySem.Str) (cnt vals : List Int) (as : List Ad) : Int := (as.map (adW ss ns cnt vals)).sum
structure AdBd (ss : List PySem.Str) (cnt : List Int) (a : Ad) : Prop where
  c : Bd a.c
  sz : ∀ c t, a = .size c t → Bd (sizeOf ss cnt t)
def preLw (m : Nat) : Option Addr → List Dt → Prop := fun _ ds => ∃ ss ns, ∃ (cnt vals : List Int) (as : List Ad), ds = [.tup [.nms ss, .nms ns], .tup [.tup (cnt.map Dt.int), .tup (vals.map Dt.int)], .tup (as.map aD)] ∧ (∀ a ∈ as, AdOk ss ns m a) ∧ (∀ a ∈ as, AdBd ss cnt a) ∧ (∀ i ∈ vals, Bd i) ∧ cnt.length ≤ 100 ∧ vals.length = ns.length ∧ ns.length ≤ 100
def postLw : List Dt → Dt → Prop := fun ds d => ∀ ss ns, ∀ (cnt vals : List Int) (as : List Ad), ds = [.tup [.nms ss, .nms ns], .tup [.tup (cnt.map Dt.int), .tup (vals.map Dt.int)], .tup (as.map aD)] → d = .int (worthL ss ns cnt vals as)
abbrev SpLw (K : PySem.W.Frag) (C : Addr) (m : Nat) : Sp := SpQ K C 0 (preLw m) postLw
theorem sc41 : FnScope ["_law_tongue_here", "_law_world_here", "_law_addends", "_law_found", "_law_addend", "_law_name", "_law_value"] ["_law_tongue_here", "_law_world_here", "_law_addends"] (defScope (top 41)) := ⟨rfl, rfl, rfl, by decide +kernel, rfl, by decide +kernel, by decide +kernel⟩
def nmT (x : PySem.Str) : Dt → Bool
  | .tup (.str y :: _) => decide (y = x)
  | _ => false
/-- the value that stands with the name -/
theorem zip_pick : ∀ (ns : List PySem.Str) (vals : List Int) (x : PySem.Str), x ∈ ns → vals.length = ns.length → ∃ r, ((zipD (ns.map Dt.str) (vals.map Dt.int)).filter (nmT x)).map snd2 = .int (vals.getD (ns.idxOf x) 0) :: r
  | [], _, _, h, _ => by cases h
  | o :: os, [], x, h, hl => by cases hl
  | o :: os, v :: vs, x, h, hl => by
    have e : zipD ((o :: os).map Dt.str) ((v :: vs).map Dt.int) = .tup [.str o, .int v] :: zipD (os.map Dt.str) (vs.map Dt.int) := rfl
    rw [e]
    by_cases ho : o = x
    · subst ho
      rw [List.filter_cons_of_pos (by exact decide_eq_true rfl), List.idxOf_cons_self]
      exact ⟨_, rfl⟩
    · have hm : x ∈ os := by
        cases h with
        | head => exact absurd rfl ho
        | tail _ h => exact h
      rw [List.filter_cons_of_neg (by rw [show nmT x (.tup [.str o, .int v]) = decide (o = x) from rfl, decide_eq_false ho]; decide), idx_cons_ne os ho]
      obtain ⟨r, h1⟩ := zip_pick os vs x hm (Nat.succ.inj hl)
      exact ⟨r, h1⟩
theorem ok_lworth {m : Nat} (g : Bi mg) (F : FnP K "_law_worth" 41 f fd) (Sz : HasF P w K mg base (3 + m) "_law_size" ["_law_sets", "_law_world_here", "_law_term_here"] (SpSz K C m)) : FnOk P w K mg base CX0 (4 + m) f fd ["_law_tongue_here", "_law_world_here", "_law_addends"] (SpLw K C m) := by
  have e4 : 4 + m = (3 + m) + 1 := by omega
  rw [e4]
  refine fnd_ok F sc41 (fun _ _ ⟨_, _, _, _, _, h, _⟩ => h ▸ rfl) fun cdv A outer s H E hr q ds n B0 H0 D hp hn S hR hN => ?_
  obtain ⟨ss, ns, cnt, vals, as, rfl, hok, hbd, hv, hl1, hl2, hl3⟩ := hp
  refine sg_setD S 3 rok0 ed_int ?_
  refine sg_for (sl := [4]) S rok0 (fun j n' env' cs' => n' = n ∧ cs' = none ∧ ∃ e4 e5 e6, env' = [some (.tup [.nms ss, .nms ns]), some (.tup [.tup (cnt.map Dt.int), .tup (vals.map Dt.int)]), some (.tup (as.map aD)), some (.int (worthL ss ns cnt vals (as.take j))), e4, e5, e6])
    (id_tup (ed_var 2 rfl)) ⟨rfl, rfl, _, _, _, rfl⟩ (fun _ _ _ _ _ => rok0) (fun Bm j x hx n' env' cs' ⟨e1, e2, x4, x5, x6, e4⟩ => ?_) (fun n' env' cs' ⟨e1, e2, x4, x5, x6, e4⟩ => ?_)
  · subst e1 e2 e4
    rw [List.getElem?_map] at hx
    cases hz : as[j]? with
    | none => rw [hz] at hx; cases hx
    | some a =>
      rw [hz] at hx
      cases hx
      have hm := List.mem_of_getElem? hz
      have aok := hok a hm
      have abd := hbd a hm
      have step : worthL ss ns cnt vals (as.take (j + 1)) = worthL ss ns cnt vals (as.take j) + adW ss ns cnt vals a := by
        unfold worthL
        rw [take_snoc hz, List.map_append, List.sum_append]
        simp
      refine ⟨[aD a], gd_name S.nd, ?_⟩
      rw [step]
      cases a with
      | lot c =>
        refine sg_T S rok0 (td_eqS (ed_item (ed_var 4 rfl) ed_int rfl rfl) ed_str) ?_
        exact sg_setD S 3 rok0 (ed_add (ed_var 3 rfl) (ed_item (ed_var 4 rfl) ed_int rfl rfl)) (sg_nil fun σ H a => wpB_of pss_nil ⟨_, _, _, ⟨rfl, rfl, _, _, _, rfl⟩, a⟩)
      | num c x =>
        have hx := aok.num c x rfl
        have hi := List.idxOf_lt_length_of_mem hx
        obtain ⟨r, hpick⟩ := zip_pick ns vals x hx hl2
        have bv : Bd (vals.getD (ns.idxOf x) 0) := by
          rw [List.getD_eq_getElem?_getD, List.getElem?_eq_getElem (by omega)]
          exact hv _ (List.getElem_mem _)
        have hzz : ∀ y ∈ zipD (ns.map Dt.str) (vals.map Dt.int), ∃ (a : PySem.Str) (b : Int), y = .tup [.str a, .int b] := fun y hy => by
          obtain ⟨k, hk⟩ := List.mem_iff_getElem?.mp hy
          obtain ⟨u, v, h1, h2, rfl⟩ := zipD_get hk
          rw [List.getElem?_map] at h1 h2
          cases g1 : ns[k]? with
          | none => rw [g1] at h1; cases h1
          | some a =>
            cases g2 : vals[k]? with
            | none => rw [g2] at h2; cases h2
            | some b =>
              rw [g1] at h1
              rw [g2] at h2
              cases h1
              cases h2
              exact ⟨a, b, rfl⟩
        refine sg_F S rok0 (td_eqS (ed_item (ed_var 4 rfl) ed_int rfl rfl) ed_str) ?_
        refine sg_T S rok0 (td_eqS (ed_item (ed_var 4 rfl) ed_int rfl rfl) ed_str) ?_
        refine sg_setD S 3 rok0 (ed_add (ed_var 3 rfl) (ed_mulW (abd.c.mul bv) (ed_item (ed_var 4 rfl) ed_int rfl rfl) (ed_item (ds := .int (vals.getD (ns.idxOf x) 0) :: r) (ED.to (ed_lcF (T := nmT x) (F := snd2) (G := fun d => match d with | .tup l => l | _ => []) (sl := [5, 6]) (own := [("_law_name", 5), ("_law_value", 6)]) S.calm S.nd (blkOk_by (by kernel_rfl)) (id_zip2 g.zip (ad_cons (ed_item (ed_var 0 rfl) ed_int rfl rfl) (ad_cons (ed_item (ed_var 1 rfl) ed_int rfl rfl) ad_nil)) (.n ns) (.t (vals.map Dt.int))) (by decide) ?_ (fun Y hY y hy => ?_) (fun Y hY y hy => ?_) (fun Y hY y hy hT => ?_)) (by rw [hpick])) ed_int rfl (atI_nat (j := 0) rfl)))) (sg_nil fun σ H a => wpB_of pss_nil (wpB_of pss_nil ⟨_, _, _, ⟨rfl, rfl, _, _, _, rfl⟩, a⟩))
        · rw [zipD_len, List.length_map]
          omega
        · obtain ⟨s', H', A', cl, fp, rfl⟩ := hY
          obtain ⟨a, b, rfl⟩ := hzz y hy
          exact gd_tup S.calm (gds_name S.nd (gds_name S.nd gds_nil)) rfl
        · obtain ⟨s', H', A', cl, fp, rfl⟩ := hY
          obtain ⟨a, b, rfl⟩ := hzz y hy
          exact ts_one (td_eqS (ed_var 5 rfl) (ed_item (ed_var 4 rfl) ed_int rfl rfl))
        · obtain ⟨s', H', A', cl, fp, rfl⟩ := hY
          obtain ⟨a, b, rfl⟩ := hzz y hy
          exact ed_var 6 rfl
      | size c t =>
        obtain ⟨hin, hd⟩ := aok.tin c t rfl
        refine sg_F S rok0 (td_eqS (ed_item (ed_var 4 rfl) ed_int rfl rfl) ed_str) ?_
        refine sg_F S rok0 (td_eqS (ed_item (ed_var 4 rfl) ed_int rfl rfl) ed_str) ?_
        exact sg_setD S 3 rok0 (ed_add (ed_var 3 rfl) (ed_mulW (abd.c.mul (abd.sz c t rfl)) (ed_item (ed_var 4 rfl) ed_int rfl rfl) (ed_lsize Sz hr (ed_item (ed_var 0 rfl) ed_int rfl rfl) (ed_var 1 rfl) (ed_item (ed_var 4 rfl) ed_int rfl rfl) hd hl1))) (sg_nil fun σ H a => wpB_of pss_nil (wpB_of pss_nil ⟨_, _, _, ⟨rfl, rfl, _, _, _, rfl⟩, a⟩))
  · subst e1 e2 e4
    refine sg_retD S rok0 (ed_var 3 rfl) (hR.to ?_)
    intro ss' ns' cnt' vals' as' e
    injection e with e1 e2
    injection e1 with e3
    injection e3 with e5 e6
    injection e5 with e5
    injection e6 with e6
    injection e6 with e6
    injection e2 with e7 e8
    injection e7 with e9
    injection e9 with e10 e11
    injection e10 with e12
    injection e11 with e13
    injection e13 with e14
    injection e8 with e15
    injection e15 with e16
    have h1 := ints_inj e12
    have h2 := ints_inj e14
    have h3 := aDs_inj e16
    subst h1 h2 h3 e5 e6
    rw [List.length_map, List.take_length]
end
end Cf

/-! Fn9: the law's told, counts_of, read_back. -/
namespace Cf
open PySem PySem.Spec PyProof.Rows L2
/-- a name's text is sound -/
theorem NmOk.strOk {s : PySem.Str} (h : NmOk s) : PyData.strOk s = true := by
  unfold PyData.strOk
  rw [← Array.all_toList, List.all_eq_true]
  intro c hc
  have : ∀ c ∈ LETT.cps.toList, decide (c < 0x110000) = true := by decide +kernel
  exact this c (h.ab c hc)
section
variable {X : Cx} {C : Addr} {q r : Option Addr} {B0 H0 Bm : Hp} {N n k : Nat} {env : En} {cs : Cs} {rest : List Stmt} {D : Ends} {a b : Expr} {x y : PySem.Str} {px py pt pos pt2 : Pos} {kt k2 : Nat} {PA1 : List Dt → Prop}
/-- x, y = a, b -/
theorem sg_par (S : SOk X q r N) (i j : Nat) (hr : Rok q r cs) (ha : AM X C q k [a, b] env cs PA1) (hn : n + k ≤ N) (hP : ∀ ds, PA1 ds → ∃ d1 d2, ds = [d1, d2]) (h : ∀ d1 d2, PA1 [d1, d2] → SG X C q r B0 H0 N Bm (n + k) ((env.set i (some d1)).set j (some d2)) cs rest D)
    (hw : swappedStores [.Tuple [.Name x px, .Name y py] kt pt] (.Tuple [a, b] k2 pt2) X.env = pure (some [x, y]) := by rfl) (hi : X.N[i]? = some x := by rfl) (hj : X.N[j]? = some y := by rfl) (hij : i ≠ j := by decide)
    (hx : X.env.scope.names.lookup x = some .local := by rfl) (hy : X.env.scope.names.lookup y = some .local := by rfl)
    (hs : swapsWithSole [.Tuple [.Name x px, .Name y py] kt pt] (.Tuple [a, b] k2 pt2) pos.line X.env = pure false := by rfl) :
    SG X C q r B0 H0 N Bm n env cs (.Assign [.Tuple [.Name x px, .Name y py] kt pt] (.Tuple [a, b] k2 pt2) pos :: rest) D :=
  sg_st (ps_par S.calm S.nd hi hj hij hx hy wpA_pa hw hs) fun σ H ⟨h1, B, cf, kp, co, em⟩ => ha n B σ H cf (Nat.le_trans hn S.lim) _ fun vs ds B2 H2 p1 e1 o => by
    obtain ⟨d1, d2, rfl⟩ := hP ds p1
    obtain ⟨v1, v2, rfl, f1, f2⟩ := e1.two
    have cf2 := cf.after o
    exact ⟨v1, v2, rfl, h d1 d2 p1 _ _ ⟨hn, B2, ⟨(cf2.sg.set f1 i).set f2 j, cf2.ex, cf2.pl, cf2.cl⟩, kp.out S (hr.there cf) o, co, em.trans o.nw.ex⟩⟩
end
/-- lists of names, == -/
theorem eqv_strs : ∀ (as bs : List PySem.Str), PyData.eqvAll (as.map PyData.str) (bs.map PyData.str) = decide (as = bs)
  | [], [] => rfl
  | [], _ :: _ => rfl
  | _ :: _, [] => rfl
  | a :: as, b :: bs => by
    rw [List.map_cons, List.map_cons]
    unfold PyData.eqvAll
    rw [eqv_strs as bs]
    show ((a == b) && _) = _
    rw [Bool.eq_iff_iff, Bool.and_eq_true, beq_iff_eq, decide_eq_true_eq, decide_eq_true_eq, List.cons.injEq]
theorem canLay_strs : ∀ {as : List PySem.Str}, (∀ s ∈ as, NmOk s) → PyData.canLayAll0 (as.map PyData.str) = true
  | [], _ => rfl
  | a :: as, h => by
    rw [List.map_cons]
    unfold PyData.canLayAll0
    rw [canLay_strs fun s hs => h s (List.mem_cons_of_mem _ hs), Bool.and_true]
    show PyData.canLay0 (.str a) = true
    unfold PyData.canLay0
    exact (h a (List.mem_cons_self ..)).strOk
theorem depth_strs : ∀ (as : List PySem.Str), PyData.depthAll (as.map PyData.str) = 0
  | [] => rfl
  | a :: as => by
    rw [List.map_cons]
    unfold PyData.depthAll
    rw [depth_strs as]
    rfl
theorem toPy_strs : ∀ (as : List PySem.Str), toPyAll (as.map Dt.str) = as.map PyData.str
  | [] => rfl
  | a :: as => by
    rw [List.map_cons]
    unfold toPyAll
    rw [toPy_strs as]
    rfl
theorem plain_strs : ∀ (as : List PySem.Str), plainDs (as.map Dt.str) = true
  | [] => rfl
  | a :: as => by
    rw [List.map_cons]
    unfold plainDs
    rw [plain_strs as]
    rfl
theorem shaped_strs {as : List PySem.Str} (h : ∀ s ∈ as, NmOk s) : SeqAt.shaped (toPy (.lst (as.map Dt.str))) = true := by
  unfold SeqAt.shaped toPy
  rw [toPy_strs]
  have h1 : PyData.canLay0 (.list (as.map PyData.str)) = true := by
    unfold PyData.canLay0
    exact canLay_strs h
  have h2 : PyData.depth (.list (as.map PyData.str)) = 1 := by
    unfold PyData.depth
    rw [depth_strs]
  rw [h1, h2]
  rfl
section
variable {X : Cx} {C : Addr} {q : Option Addr} {env : En} {cs : Cs} {a b : Expr} {pos : Pos} {as bs : List PySem.Str}
theorem td_eqN (hu : X.A.units + 64 < cLine) (ha : ED X C q a env cs (.lst (as.map Dt.str))) (hb : ED X C q b env cs (.lst (bs.map Dt.str))) (h1 : ∀ s ∈ as, NmOk s) (h2 : ∀ s ∈ bs, NmOk s) : TD X C q (.Compare a [.Eq] [b] pos) env cs (decide (as = bs)) :=
  td_cmp (op_eqD hu) (nomark _) ha hb (by
    have h := rr_eqD (K := X.K) (C := C) (q := q) (d1 := .lst (as.map Dt.str)) (d2 := .lst (bs.map Dt.str)) (plain_strs as) (plain_strs bs) (shaped_strs h1) (shaped_strs h2)
    have e : PyData.eqv (toPy (.lst (as.map Dt.str))) (toPy (.lst (bs.map Dt.str))) = decide (as = bs) := by
      unfold toPy
      rw [toPy_strs, toPy_strs]
      unfold PyData.eqv
      exact eqv_strs as bs
    rw [e] at h
    exact h)
end

/-! ### _law_told -/
def thD (l : List PySem.Str) : Dt := .lst (l.map Dt.str)
def strsOf : List Dt → List PySem.Str := List.map fun d => match d with | .str s => s | _ => ""
theorem strsOf_map (ns : List PySem.Str) : strsOf (ns.map Dt.str) = ns := by
  unfold strsOf
  rw [List.map_map]
  exact List.map_id _
def hasT (t : Tm) : Dt → Bool
  | .lst l => t.ev fun x => decide (x ∈ strsOf l)
  | _ => false
theorem hasT_thD (t : Tm) (l : List PySem.Str) : hasT t (thD l) = t.ev fun x => decide (x ∈ l) := by
  show (t.ev fun x => decide (x ∈ strsOf (l.map Dt.str))) = _
  rw [strsOf_map]
def countT (ths : List (List PySem.Str)) (t : Tm) : Nat := (ths.filter fun l => t.ev fun x => decide (x ∈ l)).length
theorem filter_hasT (ths : List (List PySem.Str)) (t : Tm) : (((ths.map thD).filter (hasT t)).map id).length = countT ths t := by
  unfold countT
  rw [List.map_id, List.filter_map, List.length_map]
  congr 2
  funext l
  exact hasT_thD t l
def toldW (kvs : List (PySem.Str × Int)) (ths : List (List PySem.Str)) : Ad → Int
  | .lot c => c
  | .num c x => c * (kvs.lookup x).getD 0
  | .size c t => c * (countT ths t : Int)
def toldL (kvs : List (PySem.Str × Int)) (ths : List (List PySem.Str)) (as : List Ad) : Int := (as.map (toldW kvs ths)).sum
def preLt (m : Nat) : Option Addr → List Dt → Prop := fun _ ds => ∃ (ths : List (List PySem.Str)) (kvs : List (PySem.Str × Int)) (as : List Ad), ds = [.lst (ths.map thD), .dic kvs, .tup (as.map aD)] ∧ ths.length ≤ 40 ∧ (∀ a ∈ as, Bd a.c) ∧ (∀ c t, .size c t ∈ as → t.deep ≤ m) ∧ (∀ c x, .num c x ∈ as → ∃ v, kvs.lookup x = some v ∧ Bd v)
def postLt : List Dt → Dt → Prop := fun ds d => ∀ (ths : List (List PySem.Str)) (kvs : List (PySem.Str × Int)) (as : List Ad), ds = [.lst (ths.map thD), .dic kvs, .tup (as.map aD)] → d = .int (toldL kvs ths as)
abbrev SpLt (K : PySem.W.Frag) (C : Addr) (m : Nat) : Sp := SpQ K C 0 (preLt m) postLt
theorem ths_inj : ∀ {as bs : List (List PySem.Str)}, as.map thD = bs.map thD → as = bs
  | [], [], _ => rfl
  | [], _ :: _, h => by cases h
  | _ :: _, [], h => by cases h
  | a :: as, b :: bs, h => by
    injection h with h1 h2
    injection h1 with h3
    rw [strs_inj h3, ths_inj h2]
section
variable {P : Program} {w : World} {K : PySem.W.Frag} {mg : PySem.Str → Option Value} {base : Heap} {C : Addr} {f : Addr} {fd : FuncData}
theorem sc46 : FnScope ["_law_things", "_law_values", "_law_addends", "_law_found", "_law_addend", "_law_names_here"] ["_law_things", "_law_values", "_law_addends"] (defScope (top 46)) := ⟨rfl, rfl, rfl, by decide +kernel, rfl, by decide +kernel, by decide +kernel⟩
theorem ok_ltold {m : Nat} (g : Bi mg) (F : FnP K "_law_told" 46 f fd) (Hs : HasF P w K mg base (1 + m) "_law_has" ["_law_names_here", "_law_term_here"] (SpHs K C m)) : FnOk P w K mg base CX0 (2 + m) f fd ["_law_things", "_law_values", "_law_addends"] (SpLt K C m) := by
  have e4 : 2 + m = (1 + m) + 1 := by omega
  rw [e4]
  refine fnd_ok F sc46 (fun _ _ ⟨_, _, _, h, _⟩ => h ▸ rfl) fun cdv A outer s H E hr q ds n B0 H0 D hp hn S hR hN => ?_
  obtain ⟨ths, kvs, as, rfl, hl, hc, hd, hv⟩ := hp
  refine sg_setD S 3 rok0 ed_int ?_
  refine sg_for (sl := [4]) S rok0 (fun j n' env' cs' => n' = n ∧ cs' = none ∧ ∃ e4 e5, env' = [some (.lst (ths.map thD)), some (.dic kvs), some (.tup (as.map aD)), some (.int (toldL kvs ths (as.take j))), e4, e5])
    (id_tup (ed_var 2 rfl)) ⟨rfl, rfl, _, _, rfl⟩ (fun _ _ _ _ _ => rok0) (fun Bm j x hx n' env' cs' ⟨e1, e2, x4, x5, e4⟩ => ?_) (fun n' env' cs' ⟨e1, e2, x4, x5, e4⟩ => ?_)
  · subst e1 e2 e4
    rw [List.getElem?_map] at hx
    cases hz : as[j]? with
    | none => rw [hz] at hx; cases hx
    | some a =>
      rw [hz] at hx
      cases hx
      have hm := List.mem_of_getElem? hz
      have bc := hc a hm
      have step : toldL kvs ths (as.take (j + 1)) = toldL kvs ths (as.take j) + toldW kvs ths a := by
        unfold toldL
        rw [take_snoc hz, List.map_append, List.sum_append]
        simp
      refine ⟨[aD a], gd_name S.nd, ?_⟩
      rw [step]
      cases a with
      | lot c =>
        refine sg_T S rok0 (td_eqS (ed_item (ed_var 4 rfl) ed_int rfl rfl) ed_str) ?_
        exact sg_setD S 3 rok0 (ed_add (ed_var 3 rfl) (ed_item (ed_var 4 rfl) ed_int rfl rfl)) (sg_nil fun σ H a => wpB_of pss_nil ⟨_, _, _, ⟨rfl, rfl, _, _, rfl⟩, a⟩)
      | num c x =>
        obtain ⟨v, hlk, bv⟩ := hv c x hm
        have e : toldW kvs ths (.num c x) = c * v := by
          show c * (kvs.lookup x).getD 0 = c * v
          rw [hlk]
          rfl
        rw [e]
        refine sg_F S rok0 (td_eqS (ed_item (ed_var 4 rfl) ed_int rfl rfl) ed_str) ?_
        refine sg_T S rok0 (td_eqS (ed_item (ed_var 4 rfl) ed_int rfl rfl) ed_str) ?_
        exact sg_setD S 3 rok0 (ed_add (ed_var 3 rfl) (ed_mulW (bc.mul bv) (ed_item (ed_var 4 rfl) ed_int rfl rfl) (ed_dget (Nat.lt_of_le_of_lt (Nat.add_le_add_left (by decide : 1 ≤ 64) _) hr.units) (ed_var 1 rfl) (ed_item (ed_var 4 rfl) ed_int rfl rfl) hlk))) (sg_nil fun σ H a => wpB_of pss_nil (wpB_of pss_nil ⟨_, _, _, ⟨rfl, rfl, _, _, rfl⟩, a⟩))
      | size c t =>
        have hct : countT ths t ≤ 40 := Nat.le_trans (List.length_filter_le _ _) hl
        refine sg_F S rok0 (td_eqS (ed_item (ed_var 4 rfl) ed_int rfl rfl) ed_str) ?_
        refine sg_F S rok0 (td_eqS (ed_item (ed_var 4 rfl) ed_int rfl rfl) ed_str) ?_
        refine sg_setD S 3 rok0 (ed_add (ed_var 3 rfl) (ed_mul (j := (countT ths t : Int)) (.inr ⟨by omega, by omega⟩) (ed_item (ed_var 4 rfl) ed_int rfl rfl) (ED.to (ed_len g.len (ed_lcF (T := hasT t) (F := id) (G := fun d => [d]) (sl := [5]) (own := [("_law_names_here", 5)]) S.calm S.nd (blkOk_by (by kernel_rfl)) (id_list (ed_var 0 rfl)) (by decide) ?_ (fun Y hY y hy => ?_) (fun Y hY y hy => ?_) (fun Y hY y hy hT => ?_)) rfl) (by rw [filter_hasT])))) (sg_nil fun σ H a => wpB_of pss_nil (wpB_of pss_nil ⟨_, _, _, ⟨rfl, rfl, _, _, rfl⟩, a⟩))
        · rw [List.length_map]
          omega
        · obtain ⟨s', H', A', cl, fp, rfl⟩ := hY
          exact gd_name S.nd
        · obtain ⟨s', H', A', cl, fp, rfl⟩ := hY
          obtain ⟨l, _, rfl⟩ := List.mem_map.mp hy
          exact ts_one (TM.to (td_val (ed_lhas Hs hr (ed_var 5 rfl) (ed_item (ed_var 4 rfl) ed_int rfl rfl) (hd c t hm))) (hasT_thD t l).symm)
        · obtain ⟨s', H', A', cl, fp, rfl⟩ := hY
          exact ed_var 5 rfl
  · subst e1 e2 e4
    refine sg_retD S rok0 (ed_var 3 rfl) (hR.to ?_)
    intro ths' kvs' as' e
    injection e with e1 e2
    injection e1 with e3
    injection e2 with e4 e5
    injection e4 with e6
    injection e5 with e7
    injection e7 with e8
    have h1 := ths_inj e3
    have h2 := aDs_inj e8
    subst h1 h2 e6
    rw [List.length_map, List.take_length]
end
end Cf

/-! Fn10: the law's counts_of, read_back. -/
namespace Cf
open PySem PySem.Spec PyProof.Rows L2

/-! ### _law_counts_of -/
/-- the names of region r -/
def selN (ss : List PySem.Str) (r : Nat) : List PySem.Str := ss.filter fun x => lieB ss r x
def cntAt (ss : List PySem.Str) (ths : List (List PySem.Str)) (r : Nat) : Nat := (ths.filter fun l => decide (selN ss r = l)).length
def countsOf (ss : List PySem.Str) (ths : List (List PySem.Str)) : List Int := (List.range (2 ^ ss.length)).map fun r => (cntAt ss ths r : Int)
def preCo : Option Addr → List Dt → Prop := fun _ ds => ∃ (ss : List PySem.Str) (ths : List (List PySem.Str)), ds = [.nms ss, .lst (ths.map thD)] ∧ ss.length ≤ 3 ∧ (∀ s ∈ ss, NmOk s) ∧ (∀ l ∈ ths, ∀ s ∈ l, NmOk s) ∧ ths.length ≤ 40
def coF : List Dt → Dt
  | [.nms ss, .lst ths] => .tup ((countsOf ss (ths.map fun d => match d with | .lst l => strsOf l | _ => [])).map Dt.int)
  | _ => .non
theorem unth (ths : List (List PySem.Str)) : ((ths.map thD).map fun d => match d with | .lst l => strsOf l | _ => []) = ths := by
  rw [List.map_map]
  have : ((fun d => match d with | .lst l => strsOf l | _ => []) ∘ thD) = (id : List PySem.Str → List PySem.Str) := by
    funext l
    exact strsOf_map l
  rw [this, List.map_id]
theorem set_range (n k : Nat) (g : Nat → Int) (v : Int) : ((List.range n).map g).set k v = (List.range n).map fun r => if r = k then v else g r := by
  apply List.ext_getElem?
  intro j
  rw [List.getElem?_set, List.getElem?_map, List.getElem?_map, List.length_map, List.length_range]
  rcases Nat.lt_or_ge j n with hj | hj
  · rw [List.getElem?_range hj]
    by_cases e : k = j
    · subst e
      rw [if_pos rfl, if_pos hj]
      show some v = some (if k = k then v else g k)
      rw [if_pos rfl]
    · rw [if_neg e]
      show some (g j) = some (if j = k then v else g j)
      rw [if_neg (Ne.symm e)]
  · rw [List.getElem?_eq_none (by rw [List.length_range]; exact hj)]
    by_cases e : k = j
    · subst e
      rw [if_pos rfl, if_neg (by omega)]
      rfl
    · rw [if_neg e]
      rfl
def nmLie (ss : List PySem.Str) (r : Nat) : Dt → Bool
  | .str x => lieB ss r x
  | _ => false
theorem filter_lie (ss : List PySem.Str) (r : Nat) : (((ss.map Dt.str).filter (nmLie ss r)).map id) = (selN ss r).map Dt.str := by
  rw [List.map_id, List.filter_map]
  rfl
section
variable {P : Program} {w : World} {K : PySem.W.Frag} {mg : PySem.Str → Option Value} {base : Heap} {C : Addr} {f : Addr} {fd : FuncData}
theorem sc47 : FnScope ["_law_sets", "_law_things", "_law_counts", "_law_names_here", "_law_region", "_law_name"] ["_law_sets", "_law_things"] (defScope (top 47)) := ⟨rfl, rfl, rfl, by decide +kernel, rfl, by decide +kernel, by decide +kernel⟩
abbrev SpLr (K : PySem.W.Frag) (C : Addr) : Sp := SpQ K C 0 preLr (fun ds d => d = lrF ds)
theorem ed_lregs {X : Cx} {q : Option Addr} {env : En} {cs : Cs} {a : Expr} {p pos : Pos} {lv : Nat} {ss : List PySem.Str} (h : HasF X.prog X.w X.K X.mg X.base lv "_law_regions" ["_law_sets"] (SpLr X.K C)) (hr : Room lv X.A)
    (ha : ED X C q a env cs (.nms ss)) (hg : Gl X "_law_regions" := by rfl) (he : starEach [a] X.env = (false, eval a X.env) :: starEach [] X.env := by rfl) (hpl : (backTo pos (starEach [] X.env)).any (·.1) = false := by rfl) :
    ED X C q (.Call (.Name "_law_regions" p) [a] [] pos) env cs (.int ((2 ^ ss.length : Nat) : Int)) :=
  ED.to (ed_callF (g := lrF) h hr (ad_cons ha ad_nil he) ⟨ss, rfl⟩ hg (by decide) he hpl) rfl
theorem ok_lcounts (g : Bi mg) (F : FnP K "_law_counts_of" 47 f fd) (Rg : HasF P w K mg base 1 "_law_regions" ["_law_sets"] (SpLr K C)) (L : HasF P w K mg base 1 "_law_lies" ["_law_sets", "_law_region", "_law_name"] (SpLl K C)) : FnOk P w K mg base CX0 2 f fd ["_law_sets", "_law_things"] (SpQ K C 0 preCo (fun ds d => d = coF ds)) := by
  refine fnd_ok F sc47 (fun _ _ ⟨_, _, h, _⟩ => h ▸ rfl) fun cdv A outer s H E hr q ds n B0 H0 D hp hn S hR hN => ?_
  obtain ⟨ss, ths, rfl, hs3, hnm, hth, htl⟩ := hp
  have h8 : 2 ^ ss.length ≤ 8 := by
    have : 2 ^ ss.length ≤ 2 ^ 3 := Nat.pow_le_pow_right (by decide) hs3
    omega
  generalize hRR : 2 ^ ss.length = RR at *
  refine sg_lcNew (k := 0) S 2 rok0 (ps_lc (own := [("_law_region", 4)]) 2 S (blkOk_by (by kernel_rfl))) (lr_M (F := fun _ => .int 0) (G := fun d => [d]) (sl := [4]) (id_range1 (j := (RR : Int)) g.range (by rw [← hRR]; exact ed_lregs Rg hr (ed_var 0 rfl)) ⟨by omega, by omega⟩) (by decide) ?_ (fun Y hY x hx => ?_) (fun Y hY x hx => ?_)) (Nat.le_refl _) (fun p ds e => ?_)
  · rw [rngD_len, Int.toNat_natCast]
    omega
  · obtain ⟨s', H', A', cl, fp, rfl⟩ := hY
    exact gd_name S.nd
  · exact ed_int
  · subst e
    have e0 : ((rngD ((RR : Int)).toNat).map fun _ => Dt.int 0) = ((List.range RR).map fun r => (cntAt ss (ths.take 0) r : Int)).map Dt.int := by
      rw [Int.toNat_natCast]
      unfold rngD
      rw [List.map_map, List.map_map]
      rfl
    rw [e0]
    refine sg_for (sl := [3]) S rok0 (fun j n' env' cs' => n' = n ∧ cs' = some (p, ((List.range RR).map fun r => (cntAt ss (ths.take j) r : Int)).map Dt.int) ∧ ∃ e3 e4 e5, env' = [some (.nms ss), some (.lst (ths.map thD)), some (.cell p), e3, e4, e5])
      (id_list (ed_var 1 rfl)) ⟨rfl, rfl, _, _, _, rfl⟩ (fun _ _ _ _ _ => rok0) (fun Bm j x hx n' env' cs' ⟨e1, e3, x3, x4, x5, e4⟩ => ?_) (fun n' env' cs' ⟨e1, e3, x3, x4, x5, e4⟩ => ?_)
    · subst e1 e3 e4
      rw [List.getElem?_map] at hx
      cases hz : ths[j]? with
      | none => rw [hz] at hx; cases hx
      | some l =>
        rw [hz] at hx
        cases hx
        have hlm := List.mem_of_getElem? hz
        have step : ∀ r, cntAt ss (ths.take (j + 1)) r = cntAt ss (ths.take j) r + if selN ss r = l then 1 else 0 := fun r => by
          unfold cntAt
          rw [take_snoc hz, List.filter_append, List.length_append]
          congr 1
          by_cases e : selN ss r = l
          · rw [if_pos e, List.filter_cons_of_pos (by rw [decide_eq_true e])]
            rfl
          · rw [if_neg e, List.filter_cons_of_neg (by rw [decide_eq_false e]; decide)]
            rfl
        refine ⟨[thD l], gd_name S.nd, ?_⟩
        refine sg_for (sl := [4]) S rok0 (fun k m env' cs' => m = n' ∧ cs' = some (p, ((List.range RR).map fun r => (cntAt ss (ths.take j) r : Int) + if r < k ∧ selN ss r = l then 1 else 0).map Dt.int) ∧ ∃ e4 e5, env' = [some (.nms ss), some (.lst (ths.map thD)), some (.cell p), some (thD l), e4, e5])
          (id_viewR (j := (RR : Int)) g.range 2 (ED.to (ed_len g.len (ed_var 2 rfl) rfl) (by rw [List.length_map, List.length_map, List.length_range])) ⟨by omega, by omega⟩) ⟨rfl, ?_, _, _, rfl⟩ (fun _ _ _ _ _ => rok0) (fun Bm k x hx m env' cs' ⟨e1, e3, x4, x5, e4⟩ => ?_) (fun m env' cs' ⟨e1, e3, x4, x5, e4⟩ => ?_)
        · congr 4
        · subst e1 e3 e4
          obtain ⟨hk, rfl⟩ := rngD_get hx
          rw [Int.toNat_natCast] at hk
          refine ⟨[.int (k : Int)], gd_name S.nd, ?_⟩
          have nxt : ∀ (σ : L2.St) (H : Hp) (x5 : Option Dt), True := fun _ _ _ => trivial
          refine sg_ifD S rok0 (td_eqN hr.units (as := selN ss k) (bs := l) (ED.to (ed_lcF (T := nmLie ss k) (F := id) (G := fun d => [d]) (sl := [5]) (own := [("_law_name", 5)]) S.calm S.nd (blkOk_by (by kernel_rfl)) (id_nms (ed_var 0 rfl)) (by decide) ?_ (fun Y hY y hy => ?_) (fun Y hY y hy => ?_) (fun Y hY y hy hT => ?_)) (by rw [filter_lie])) (ed_var 3 rfl) (fun s hs => hnm s (List.mem_filter.mp hs).1) (hth l hlm)) (fun h => ?_) (fun h => ?_)
          · rw [List.length_map]
            omega
          · obtain ⟨s', H', A', cl, fp, rfl⟩ := hY
            exact gd_name S.nd
          · obtain ⟨s', H', A', cl, fp, rfl⟩ := hY
            obtain ⟨z, _, rfl⟩ := List.mem_map.mp hy
            exact ts_one (td_val (ed_llies L hr (ed_var 0 rfl) (ed_var 4 rfl) (ed_var 5 rfl)))
          · obtain ⟨s', H', A', cl, fp, rfl⟩ := hY
            exact ed_var 5 rfl
          · have hsel := of_decide_eq_true h
            refine sg_setIx (k := 0) (jn := k) S 2 rok0 (ed_add (ed_view 2 (ed_item (ed_var 2 rfl) (ed_var 4 rfl) rfl (atI_nat (j := k) (v := Dt.int ((cntAt ss (ths.take j) k : Int) + if k < k ∧ selN ss k = l then 1 else 0)) ?_)) rfl) ed_int) (ed_var 4 rfl) (ixN_nat ?_) (Nat.le_refl _) (fun d e => sg_nil fun σ H a => wpB_of pss_nil ⟨_, _, _, ⟨rfl, rfl, _, _, rfl⟩, a.to ?_⟩)
            · rw [List.getElem?_map, List.getElem?_map, List.getElem?_range hk]
              rfl
            · rw [List.length_map, List.length_map, List.length_range]
              exact hk
            · subst e
              rw [← List.map_set, set_range]
              congr 4
              funext r
              by_cases e : r = k
              · subst e
                simp [hsel]
              · rw [if_neg e]
                congr 1
                simp only [Nat.lt_succ_iff_lt_or_eq, e, or_false]
          · have hsel := of_decide_eq_false h
            refine sg_nil fun σ H a => wpB_of pss_nil ⟨_, _, _, ⟨rfl, rfl, _, _, rfl⟩, a.to ?_⟩
            congr 4
            funext r
            congr 1
            by_cases e : r = k
            · subst e
              simp [hsel]
            · simp only [Nat.lt_succ_iff_lt_or_eq, e, or_false]
        · subst e1 e3 e4
          refine sg_nil fun σ H a => ⟨_, _, _, ⟨rfl, rfl, _, _, _, rfl⟩, a.to ?_⟩
          rw [rngD_len, Int.toNat_natCast]
          congr 3
          refine List.map_congr_left fun r hr' => ?_
          rw [step r]
          have := List.mem_range.mp hr'
          by_cases e : selN ss r = l
          · simp [e, this]
          · simp [e]
    · subst e1 e3 e4
      refine sg_freeze 2 rfl rfl (sg_retD S rok0 (ed_tuple g.tuple (ed_var 2 rfl)) (hR.to ?_))
      rw [List.length_map, List.take_length]
      show _ = Dt.tup ((countsOf ss ((ths.map thD).map fun d => match d with | .lst l => strsOf l | _ => [])).map Dt.int)
      rw [unth]
      unfold countsOf
      rw [hRR]
end
end Cf

/-! Fn11: the law's read_back. -/
namespace Cf
open PySem PySem.Spec PyProof.Rows L2
section
variable {P : Program} {w : World} {K : PySem.W.Frag} {mg : PySem.Str → Option Value} {base : Heap} {C : Addr} {f : Addr} {fd : FuncData}
abbrev SpWo (K : PySem.W.Frag) (C : Addr) (m : Nat) : Sp := SpQ K C 0 (preWo m) postWo
theorem ed_worth {X : Cx} {q : Option Addr} {env : En} {cs : Cs} {a b c : Expr} {p pos : Pos} {m lv : Nat} {ss ns : List PySem.Str} {tp : Int} {cnt vals : List Int} {as : List Ad} (h : HasF X.prog X.w X.K X.mg X.base lv "worth_of" ["talk", "world", "addends"] (SpWo X.K C m)) (hr : Room lv X.A)
    (ha : ED X C q a env cs (.tlk ss ns tp)) (hb : ED X C q b env cs (.tup [.tup (cnt.map Dt.int), .tup (vals.map Dt.int)])) (hc : ED X C q c env cs (.tup (as.map aD))) (ok : TlOk ss ns) (hok : ∀ a ∈ as, AdOk ss ns m a) (b1 : ∀ i ∈ cnt, Bd i) (b2 : ∀ i ∈ vals, Bd i) (b3 : ∀ i ∈ rowOf ss ns as, Bd i) (l1 : cnt.length ≤ 50) (l2 : vals.length ≤ 50) (hg : Gl X "worth_of" := by rfl)
    (he : starEach [a, b, c] X.env = (false, eval a X.env) :: starEach [b, c] X.env := by rfl) (he2 : starEach [b, c] X.env = (false, eval b X.env) :: starEach [c] X.env := by rfl) (he3 : starEach [c] X.env = (false, eval c X.env) :: starEach [] X.env := by rfl) (hpl : (backTo pos (starEach [b, c] X.env)).any (·.1) = false := by rfl) :
    ED X C q (.Call (.Name "worth_of" p) [a, b, c] [] pos) env cs (.int (rowWorth (rowOf ss ns as) (cnt ++ vals))) :=
  em_callF (k := 0) (kf := 0) h hr (ad_cons ha (ad_cons hb (ad_cons hc ad_nil he3) he2) he) (fun _ e => e ▸ ⟨ss, ns, tp, cnt, vals, as, rfl, ok, hok, b1, b2, b3, l1, l2⟩) (fun ds d e h => h ss ns tp cnt vals as e) hg (by decide) he hpl
def zs (n : Nat) : List Int := List.replicate n 0
theorem zs_bd (n : Nat) : ∀ i ∈ zs n, Bd i := fun i hi => by
  rw [List.eq_of_mem_replicate hi]
  exact Nat.pow_pos (by decide)
theorem zs_len (n : Nat) : (zs n).length = n := List.length_replicate
theorem zs_rng (n : Nat) : ((rngD n).map fun _ => Dt.int 0) = (zs n).map Dt.int := by
  unfold rngD zs
  rw [List.map_map, List.map_replicate]
  exact List.eq_replicate_iff.mpr ⟨by rw [List.length_map, List.length_range], fun b hb => by
    obtain ⟨_, _, e⟩ := List.mem_map.mp hb
    exact e.symm⟩
theorem unit_cut {n k : Nat} (h : k < n) : (zs n).take k ++ [1] ++ (zs n).drop (k + 1) = (zs n).set k 1 := by
  rw [List.set_eq_take_append_cons_drop, if_pos (by rw [zs_len]; exact h), List.append_assoc]
  rfl
theorem unit_bd (n k : Nat) : ∀ i ∈ (zs n).set k 1, Bd i := fun i hi => by
  rcases List.mem_or_eq_of_mem_set hi with h | h
  · exact zs_bd n i h
  · rw [h]
    exact Nat.one_lt_two_pow (by decide)
def rdB (R K : Nat) (W : List Int → List Int → Int) : List Int := W (zs R) (zs K) :: ((List.range R).map (fun r => W ((zs R).set r 1) (zs K) - W (zs R) (zs K)) ++ (List.range K).map fun k => W (zs R) ((zs K).set k 1) - W (zs R) (zs K))
def preRb (m : Nat) : Option Addr → List Dt → Prop := fun _ ds => ∃ ss ns tp, ∃ as : List Ad, ds = [.tlk ss ns tp, .int ((2 ^ ss.length : Nat) : Int), .int (ns.length : Int), .tup (as.map aD)] ∧ TlOk ss ns ∧ (∀ a ∈ as, AdOk ss ns m a) ∧ (∀ i ∈ rowOf ss ns as, Bd i)
def postRb : List Dt → Dt → Prop := fun ds d => ∀ ss ns tp, ∀ as : List Ad, ds = [.tlk ss ns tp, .int ((2 ^ ss.length : Nat) : Int), .int (ns.length : Int), .tup (as.map aD)] → d = .tup ((rdB (2 ^ ss.length) ns.length fun c v => rowWorth (rowOf ss ns as) (c ++ v)).map Dt.int)
theorem sc48 : FnScope ["_law_talk", "_law_many", "_law_numbers", "_law_addends", "_law_noughts", "_law_none", "_law_row", "_law_region", "_law_name", "_law_one", "_law_at"] ["_law_talk", "_law_many", "_law_numbers", "_law_addends"] (defScope (top 48)) := ⟨rfl, rfl, rfl, by decide +kernel, rfl, by decide +kernel, by decide +kernel⟩
theorem range_snoc {α : Type} (g : Nat → α) (k : Nat) : (List.range (k + 1)).map g = (List.range k).map g ++ [g k] := by
  rw [List.range_succ, List.map_append]
  rfl
theorem ok_lread {m : Nat} (g : Bi mg) (F : FnP K "_law_read_back" 48 f fd) (Wo : HasF P w K mg base (7 + m) "worth_of" ["talk", "world", "addends"] (SpWo K C m)) : FnOk P w K mg base CX0 (8 + m) f fd ["_law_talk", "_law_many", "_law_numbers", "_law_addends"] (SpQ K C 0 (preRb m) postRb) := by
  have e4 : 8 + m = (7 + m) + 1 := by omega
  rw [e4]
  refine fnd_ok F sc48 (fun _ _ ⟨_, _, _, _, h, _⟩ => h ▸ rfl) fun cdv A outer s H E hr q ds n B0 H0 D hp hn S hR hN => ?_
  obtain ⟨ss, ns, tp, as, rfl, ok, hok, hbd⟩ := hp
  have h8 := pow8 ok
  have hn2 := ok.hn
  generalize hWW : (fun c v => rowWorth (rowOf ss ns as) (c ++ v)) = W
  generalize hRR : 2 ^ ss.length = RR at *
  have dn : ∀ c v, rowWorth (rowOf ss ns as) (c ++ v) = W c v := fun c v => by rw [← hWW]
  have fin : ∀ d, d = Dt.tup ((rdB RR ns.length W).map Dt.int) → Rt (bX P w K mg base ["_law_talk", "_law_many", "_law_numbers", "_law_addends", "_law_noughts", "_law_none", "_law_row", "_law_region", "_law_name", "_law_one", "_law_at"] "_law_read_back" (defScope (top 48)) f cdv A outer s H E) C q q B0 H0 (n + 0) (fun x => x = d) D := fun d e => hR.to (by
    intro ss' ns' tp' as' e'
    injection e' with e1 e2
    injection e1 with e3 e4
    injection e2 with e5 e6
    injection e6 with e7 e8
    injection e8 with e9
    injection e9 with e10
    have h1 := aDs_inj e10
    subst h1 e3 e4
    rw [hWW, hRR]
    exact e)
  refine sg_par (k := 0) S 4 5 rok0 (ad_cons (ED.to (ed_tuple g.tuple (ed_lcM (F := fun _ => .int 0) (G := fun d => [d]) (sl := [7]) (own := [("_law_region", 7)]) S.calm S.nd (blkOk_by (by kernel_rfl)) (id_range1 g.range (ed_var 1 rfl) ⟨by omega, by omega⟩) (by decide) (by rw [rngD_len, Int.toNat_natCast]; omega) (fun Y hY x hx => by obtain ⟨s', H', A', cl, fp, rfl⟩ := hY; exact gd_name S.nd) (fun Y hY x hx => ed_int))) (by rw [Int.toNat_natCast, zs_rng]))
      (ad_cons (ED.to (ed_tuple g.tuple (ed_lcM (F := fun _ => .int 0) (G := fun d => [d]) (sl := [8]) (own := [("_law_name", 8)]) S.calm S.nd (blkOk_by (by kernel_rfl)) (id_range1 g.range (ed_var 2 rfl) ⟨by omega, by omega⟩) (by decide) (by rw [rngD_len, Int.toNat_natCast]; omega) (fun Y hY x hx => by obtain ⟨s', H', A', cl, fp, rfl⟩ := hY; exact gd_name S.nd) (fun Y hY x hx => ed_int))) (by rw [Int.toNat_natCast, zs_rng])) ad_nil)) (Nat.le_refl _) (fun ds e => ⟨_, _, e⟩) (fun d1 d2 e => ?_)
  injection e with e1 e2
  injection e2 with e2 _
  subst e1 e2
  refine sg_newD (ds := [.int (W (zs RR) (zs ns.length))]) S 6 rok0 ((en_lst (ad_cons (ed_worth (cnt := zs RR) (vals := zs ns.length) Wo hr (ed_var 0 rfl) (ed_tup (ad_cons (ed_var 4 rfl) (ad_cons (ed_var 5 rfl) ad_nil)) (Nat.le_of_ble_eq_true rfl)) (ed_var 3 rfl) ok hok (zs_bd _) (zs_bd _) hbd (by rw [zs_len]; omega) (by rw [zs_len]; omega)) ad_nil) (fun ds e => e ▸ Nat.le_of_ble_eq_true rfl)).imp fun ds e => by rw [e, dn]) (fun p => ?_)
  refine sg_for (sl := [7]) S rok0 (fun j n' env' cs' => n' = n ∧ cs' = some (p, (W (zs RR) (zs ns.length) :: (List.range j).map fun r => W ((zs RR).set r 1) (zs ns.length) - W (zs RR) (zs ns.length)).map Dt.int) ∧ ∃ e7 e8 e9 e10, env' = [some (.tlk ss ns tp), some (.int (RR : Int)), some (.int (ns.length : Int)), some (.tup (as.map aD)), some (.tup ((zs RR).map Dt.int)), some (.tup ((zs ns.length).map Dt.int)), some (.cell p), e7, e8, e9, e10])
    (id_range1 g.range (ed_var 1 rfl) ⟨by omega, by omega⟩) ⟨rfl, rfl, _, _, _, _, rfl⟩ (fun _ _ _ _ _ => rok0) (fun Bm j x hx n' env' cs' ⟨e1, e3, x7, x8, x9, x10, e4⟩ => ?_) (fun n' env' cs' ⟨e1, e3, x7, x8, x9, x10, e4⟩ => ?_)
  · subst e1 e3 e4
    obtain ⟨hk, rfl⟩ := rngD_get hx
    rw [Int.toNat_natCast] at hk
    have hj1 : ((j : Nat) : Int) + 1 = ((j + 1 : Nat) : Int) := rfl
    refine ⟨[.int (j : Int)], gd_name S.nd, ?_⟩
    refine sg_setD (d := .tup (((zs RR).set j 1).map Dt.int)) S 9 rok0 (ED.to (ed_catT ?_ (ed_catT ?_ (ed_sliceT (ed_var 4 rfl) .none (.some (ed_var 7 rfl))) (ed_tup (ad_cons ed_int ad_nil) (Nat.le_of_ble_eq_true rfl))) (ed_sliceT (ed_var 4 rfl) (.some (ed_add (ed_var 7 rfl) ed_int)) .none)) ?_) ?_
    · rw [hj1, cut_to, cut_from, List.length_append, List.length_take, List.length_drop, List.length_map, zs_len]
      show min j RR + 1 + _ ≤ 1000
      omega
    · rw [cut_to, List.length_take, List.length_map, zs_len]
      show min j RR + 1 ≤ 1000
      omega
    · rw [hj1, cut_to, cut_from, ← unit_cut hk, List.map_append, List.map_append, List.map_take, List.map_drop]
      rfl
    · refine sg_append (k := 0) S 6 rok0 (ed_sub (ed_worth (cnt := (zs RR).set j 1) (vals := zs ns.length) Wo hr (ed_var 0 rfl) (ed_tup (ad_cons (ed_var 9 rfl) (ad_cons (ed_var 5 rfl) ad_nil)) (Nat.le_of_ble_eq_true rfl)) (ed_var 3 rfl) ok hok (unit_bd _ _) (zs_bd _) hbd (by rw [List.length_set, zs_len]; omega) (by rw [zs_len]; omega)) (ed_view 6 (ed_item (ed_var 6 rfl) ed_int rfl (atI_nat (j := 0) rfl)) rfl)) (Nat.le_refl _) ?_ (fun d e => sg_nil fun σ H a => ⟨_, _, _, ⟨rfl, rfl, _, _, _, _, rfl⟩, a.to ?_⟩)
      · rw [List.length_map, List.length_cons, List.length_map, List.length_range]
        omega
      · subst e
        rw [range_snoc, dn, ← List.cons_append, List.map_append]
        rfl
  · subst e1 e3 e4
    rw [rngD_len, Int.toNat_natCast]
    refine sg_for (sl := [10]) S rok0 (fun j m' env' cs' => m' = n' ∧ cs' = some (p, (W (zs RR) (zs ns.length) :: (((List.range RR).map fun r => W ((zs RR).set r 1) (zs ns.length) - W (zs RR) (zs ns.length)) ++ (List.range j).map fun k => W (zs RR) ((zs ns.length).set k 1) - W (zs RR) (zs ns.length))).map Dt.int) ∧ ∃ e7 e8 e9 e10, env' = [some (.tlk ss ns tp), some (.int (RR : Int)), some (.int (ns.length : Int)), some (.tup (as.map aD)), some (.tup ((zs RR).map Dt.int)), some (.tup ((zs ns.length).map Dt.int)), some (.cell p), e7, e8, e9, e10])
      (id_range1 g.range (ed_var 2 rfl) ⟨by omega, by omega⟩) ⟨rfl, by rw [List.range_zero, List.map_nil, List.append_nil], _, _, _, _, rfl⟩ (fun _ _ _ _ _ => rok0) (fun Bm j x hx m' env' cs' ⟨e1, e3, x7, x8, x9, x10, e4⟩ => ?_) (fun m' env' cs' ⟨e1, e3, x7, x8, x9, x10, e4⟩ => ?_)
    · subst e1 e3 e4
      obtain ⟨hk, rfl⟩ := rngD_get hx
      rw [Int.toNat_natCast] at hk
      have hj1 : ((j : Nat) : Int) + 1 = ((j + 1 : Nat) : Int) := rfl
      refine ⟨[.int (j : Int)], gd_name S.nd, ?_⟩
      refine sg_append (k := 0) S 6 rok0 (ed_sub (ed_worth (cnt := zs RR) (vals := (zs ns.length).set j 1) Wo hr (ed_var 0 rfl) (ed_tup (ad_cons (ed_var 4 rfl) (ad_cons (ED.to (ed_catT ?_ (ed_catT ?_ (ed_sliceT (ed_var 5 rfl) .none (.some (ed_var 10 rfl))) (ed_tup (ad_cons ed_int ad_nil) (Nat.le_of_ble_eq_true rfl))) (ed_sliceT (ed_var 5 rfl) (.some (ed_add (ed_var 10 rfl) ed_int)) .none)) ?_) ad_nil)) (Nat.le_of_ble_eq_true rfl)) (ed_var 3 rfl) ok hok (zs_bd _) (unit_bd _ _) hbd (by rw [zs_len]; omega) (by rw [List.length_set, zs_len]; omega)) (ed_view 6 (ed_item (ed_var 6 rfl) ed_int rfl (atI_nat (j := 0) rfl)) rfl)) (Nat.le_refl _) ?_ (fun d e => sg_nil fun σ H a => ⟨_, _, _, ⟨rfl, rfl, _, _, _, _, rfl⟩, a.to ?_⟩)
      · rw [hj1, cut_to, cut_from, List.length_append, List.length_take, List.length_drop, List.length_map, zs_len]
        show min j ns.length + 1 + _ ≤ 1000
        omega
      · rw [cut_to, List.length_take, List.length_map, zs_len]
        show min j ns.length + 1 ≤ 1000
        omega
      · rw [hj1, cut_to, cut_from, ← unit_cut hk, List.map_append, List.map_append, List.map_take, List.map_drop]
        rfl
      · rw [List.length_map, List.length_cons, List.length_append, List.length_map, List.length_range, List.length_map, List.length_range]
        omega
      · subst e
        rw [range_snoc, dn]
        simp only [List.map_append, List.map_cons, List.append_assoc, List.cons_append]
        rfl
    · subst e1 e3 e4
      rw [rngD_len, Int.toNat_natCast]
      exact sg_freeze 6 rfl rfl (sg_retD S rok0 (ed_tuple g.tuple (ed_var 6 rfl)) (fin _ rfl))
end
end Cf

/-! Fn12: draws: take, great, number. -/
namespace Cf
open PySem PySem.Spec PyProof.Rows L2

/-! ### whole numbers that are not known -/
section
variable {X : Cx} {C : Addr} {q r : Option Addr} {B0 H0 Bm : Hp} {N n k k1 k2 : Nat} {env : En} {cs : Cs} {a b e : Expr} {es : List Expr} {pos p : Pos} {P1 P2 : Int → Prop} {i j : Int} {rest : List Stmt} {D : Ends}
abbrev EI (X : Cx) (C : Addr) (q : Option Addr) (k : Nat) (e : Expr) (env : En) (cs : Cs) (P : Int → Prop) : Prop := EM X C q k e env cs (fun d => ∃ i : Int, d = .int i ∧ P i)
theorem ei_of (h : ED X C q e env cs (.int i)) : EI X C q 0 e env cs (fun x => x = i) := h.imp fun d e => ⟨i, e, rfl⟩
theorem EI.to {P P' : Int → Prop} (h : EI X C q k e env cs P) (hp : ∀ i, P i → P' i) : EI X C q k e env cs P' := EM.imp h fun d ⟨i, e, p⟩ => ⟨i, e, hp i p⟩
theorem ei_op {op : Operator} {Cn : Int → Int → Prop} {g : Int → Int → Int} (ho : OpR X (binaryOp op) (rI Cn fun i j => .int (g i j))) (ha : EI X C q k1 a env cs P1) (hb : EI X C q k2 b env cs P2) (hc : ∀ x y, P1 x → P2 y → Cn x y) :
    EI X C q (k1 + k2) (.BinOp a op b pos) env cs (fun i => ∃ x y, P1 x ∧ P2 y ∧ i = g x y) := em_op ho ha hb fun d1 d2 ⟨x, e1, p1⟩ ⟨y, e2, p2⟩ => by
  subst e1 e2
  exact fun n B H u v Q bs h1 h2 hf => ⟨x, y, h1, h2, hc x y p1 p2, bs.fin hf ⟨_, rfl, x, y, p1, p2, rfl⟩ rfl⟩
theorem ei_add (ha : EI X C q k1 a env cs P1) (hb : EI X C q k2 b env cs P2) : EI X C q (k1 + k2) (.BinOp a .Add b pos) env cs (fun i => ∃ x y, P1 x ∧ P2 y ∧ i = x + y) := em_op op_add ha hb fun d1 d2 ⟨x, e1, p1⟩ ⟨y, e2, p2⟩ => by
  subst e1 e2
  exact fun n B H u v Q bs h1 h2 hf => ⟨x, y, h1, h2, bs.fin hf ⟨_, rfl, x, y, p1, p2, rfl⟩ rfl⟩
theorem ei_mul (ha : EI X C q k1 a env cs P1) (hb : EI X C q k2 b env cs P2) (hc : ∀ x y, P1 x → P2 y → CMul x y) : EI X C q (k1 + k2) (.BinOp a .Mult b pos) env cs (fun i => ∃ x y, P1 x ∧ P2 y ∧ i = x * y) := ei_op op_mul ha hb hc
theorem ei_mod (ha : EI X C q k1 a env cs P1) (hb : EI X C q k2 b env cs P2) (hc : ∀ x y, P1 x → P2 y → 0 < y) : EI X C q (k1 + k2) (.BinOp a .Mod b pos) env cs (fun i => ∃ x y, P1 x ∧ P2 y ∧ i = x % y) := ei_op (Cn := fun _ j => 0 < j) op_mod ha hb hc
end

/-! ### _law_take -/
section
variable {P : Program} {w : World} {K : PySem.W.Frag} {mg : PySem.Str → Option Value} {base : Heap} {C : Addr} {f : Addr} {fd : FuncData}
def preTk : Option Addr → List Dt → Prop := fun q ds => ∃ p many, q = some p ∧ ds = [.cell p, .int many] ∧ 1 ≤ many ∧ many ≤ 1000000
def postTk : List Dt → Dt → Prop := fun ds d => ∀ p many, ds = [.cell p, .int many] → ∃ r : Nat, d = .int (r : Int) ∧ (r : Int) < many
theorem sc32 : FnScope ["_law_pool_here", "_law_many", "_law_digit", "_law_one", "_law_two"] ["_law_pool_here", "_law_many"] (defScope (top 32)) := ⟨rfl, rfl, rfl, by decide +kernel, rfl, by decide +kernel, by decide +kernel⟩
theorem nat_of {i m : Int} (h0 : 0 ≤ i) (h1 : i < m) : ∃ r : Nat, Dt.int i = .int (r : Int) ∧ (r : Int) < m := ⟨i.toNat, by rw [Int.toNat_of_nonneg h0], by rw [Int.toNat_of_nonneg h0]; exact h1⟩
theorem ok_take (F : FnP K "_law_take" 32 f fd) : FnOk P w K mg base CX0 1 f fd ["_law_pool_here", "_law_many"] (SpQ K C 1 preTk postTk) := by
  refine F.ok sc32 (fun vs H Q E h => ?_) fun cdv A outer s H vs Q E hr h => ?_
  · obtain ⟨ds, B, q, n, h1, _, _, ⟨p, many, _, rfl, _⟩, _⟩ := h
    exact h1.length
  · obtain ⟨ds, B, q, n, h1, h2, h3, ⟨p, many, rfl, rfl, m1, m2⟩, h5⟩ := h
    obtain ⟨hBp, a, b, c, hp, hb, hc⟩ := h2.pl.2 p rfl
    let X := bX P w K mg base ["_law_pool_here", "_law_many", "_law_digit", "_law_one", "_law_two"] "_law_take" (defScope (top 32)) f cdv A outer s H E
    have S : SOk X none (some p) (n + 1) := ⟨.inl rfl, h3, rfl, sc32.nd⟩
    have hr0 : ∀ ds, Rok none (some p) (some (p, ds)) := fun ds => .inr (.inr ⟨p, ds, rfl, rfl⟩)
    -- the end
    have fin : ∀ {rest : List Stmt} {e : Expr} {pos : Pos} {env : En} {a' b' c' : Int} {d : Dt} {Bm : Hp} {m : Nat} {nx : L2.St → Hp → Prop}, ED X C none e env (some (p, [.int a', .int b', .int c'])) d → (∃ r : Nat, d = .int (r : Int) ∧ (r : Int) < many) → (0 ≤ b' ∧ b' < 1000000007) → (0 ≤ c' ∧ c' ≤ ((n + 1 : Nat) : Int)) →
        SG X C none (some p) B H (n + 1) Bm m env (some (p, [.int a', .int b', .int c'])) (.Return (some e) pos :: rest) { nx := nx, rt := Q } := by
      intro rest e pos env a' b' c' d Bm m nx he hd hb' hc'
      refine sg_st (ps_ret wpE_pe) fun σ H a => sg_val (k := 0) S (hr0 _) he a.1 a fun v d' B2 H2 e1 de cf kp co em => ?_
      subst e1
      obtain ⟨g1, g2, vs', g3, g4⟩ := cf.cl p _ rfl
      have e3 : vs' = [.int a', .int b', .int c'] := DeAll.ints (ns := [a', b', c']) g4
      subst e3
      exact h5 v d' B2 H2 (fun p' many' e => by
        injection e with e1 e2
        injection e2 with e3 e4
        injection e3 with e5
        subst e5
        exact hd) de ⟨kp.nw, cf.ex, kp.eo, h3, fun r e => by
          cases e
          exact ⟨g2, a', b', c', g3, hb', hc'⟩⟩
    have hm0 : (0 : Int) < many := by omega
    have start : SG X C none (some p) B H (n + 1) B n ([some (.cell p), some (.int many), none, none, none]) (some (p, [.int a, .int b, .int c])) (defBody (top 32)) { nx := fun _ H' => Q .non H', rt := Q } := by
      refine sg_ifD S (hr0 _) (td_gt (ed_view 0 (ed_item (ed_var 0 rfl) ed_int rfl rfl) rfl) ed_int) (fun h => ?_) (fun h => sg_back ?_)
      · have ha := of_decide_eq_true h
        refine sg_setD S 2 (hr0 _) (ed_mod hm0 (ed_view 0 (ed_item (ed_var 0 rfl) ed_int rfl rfl) rfl) (ed_var 1 rfl)) ?_
        refine sg_setIx (k := 0) (j := 0) (jn := 0) S 0 (hr0 _) (ed_fdiv ⟨hm0, by omega⟩ (ed_view 0 (ed_item (ed_var 0 rfl) ed_int rfl rfl) rfl) (ed_var 1 rfl)) ed_int rfl (Nat.le_succ n) (fun d e => ?_)
        subst e
        refine fin (d := .int (a % many)) ?_ (nat_of (Int.emod_nonneg _ (by omega)) (Int.emod_lt_of_pos _ hm0)) hb ⟨hc.1, by have := hc.2; omega⟩
        exact ed_var 2 rfl
      · refine sg_setIx (k := 0) (j := 2) (jn := 2) S 0 (hr0 _) (ed_add (ed_view 0 (ed_item (ed_var 0 rfl) ed_int rfl rfl) rfl) ed_int) ed_int rfl (Nat.le_succ n) (fun d e => ?_)
        subst e
        have hL : (n : Int) ≤ 1000000 := Int.ofNat_le.mpr h2.pl.1
        have hc1 : 0 ≤ c + 1 := by have := hc.1; omega
        have hc2 : c + 1 ≤ 1000001 := by have := hc.2; omega
        have m1' : ∀ x y : Int, 0 ≤ x % y ∨ y = 0 := fun x y => by
          by_cases e : y = 0
          · exact .inr e
          · exact .inl (Int.emod_nonneg _ e)
        refine sg_setD S 3 (hr0 _) (ed_mod (by decide) (ed_add (ed_add (ed_mul (.inr ⟨by decide, by decide⟩) (ed_view 0 (ed_item (i := 1) (ed_var 0 rfl) ed_int rfl rfl) rfl) ed_int) (ed_mul (.inl ⟨by decide, by decide⟩) ed_int (ed_view 0 (ed_item (i := 2) (ed_var 0 rfl) ed_int rfl rfl) rfl))) ed_int) ed_int) ?_
        generalize hone : (b * 48271 + 104729 * (c + 1) + 101) % 2147483629 = one
        have o1 : 0 ≤ one := by rw [← hone]; exact Int.emod_nonneg _ (by decide)
        have o2 : one < 2147483629 := by rw [← hone]; exact Int.emod_lt_of_pos _ (by decide)
        refine sg_setD S 3 (hr0 _) (ed_mod (by decide) (ed_pow ⟨by decide, by decide, by omega⟩ (ed_var 3 rfl) ed_int) ed_int) ?_
        generalize hone2 : one ^ (5 : Int).toNat % 2147483587 = one2
        have p1 : 0 ≤ one2 := by rw [← hone2]; exact Int.emod_nonneg _ (by decide)
        have p2 : one2 < 2147483587 := by rw [← hone2]; exact Int.emod_lt_of_pos _ (by decide)
        have b1 : 0 ≤ b % 65537 := Int.emod_nonneg _ (by decide)
        have b2 : b % 65537 < 65537 := Int.emod_lt_of_pos _ (by decide)
        have q1 : 0 ≤ 69621 * (c + 1) := by omega
        have q2 : 69621 * (c + 1) ≤ 69621 * 1000001 := by omega
        have q3 : 0 ≤ 69621 * (c + 1) * (c + 1) := Int.mul_nonneg q1 hc1
        have q4 : 69621 * (c + 1) * (c + 1) ≤ 69621 * 1000001 * 1000001 := Int.mul_le_mul q2 hc2 hc1 (by decide)
        refine sg_setD S 4 (hr0 _) (ed_mod (by decide) (ed_pow ⟨by decide, by decide, ?_⟩ (ed_add (ed_add (ed_var 3 rfl) (ed_mul (.inl ⟨by omega, by omega⟩) (ed_mul (.inl ⟨by decide, by decide⟩) ed_int (ed_view 0 (ed_item (i := 2) (ed_var 0 rfl) ed_int rfl rfl) rfl)) (ed_view 0 (ed_item (i := 2) (ed_var 0 rfl) ed_int rfl rfl) rfl))) (ed_mod (by decide) (ed_view 0 (ed_item (i := 1) (ed_var 0 rfl) ed_int rfl rfl) rfl) ed_int)) ed_int) ed_int) ?_
        · omega
        · generalize (one2 + 69621 * (c + 1) * (c + 1) + b % 65537) ^ (3 : Int).toNat % 2147483563 = two
          refine fin (d := .int (two * 40692 % 2147483549 / 64 % many)) ?_ (nat_of (Int.emod_nonneg _ (by omega)) (Int.emod_lt_of_pos _ hm0)) hb ⟨hc1, ?_⟩
          · exact ed_mod hm0 (ed_fdiv ⟨by decide, by decide⟩ (ed_mod (by decide) (ed_mul (.inr ⟨by decide, by decide⟩) (ed_var 4 rfl) ed_int) ed_int) ed_int) (ed_var 1 rfl)
          · have := hc.2
            rw [Int.natCast_add]
            show c + 1 ≤ (n : Int) + 1
            omega
    refine ⟨wpB X (defBody (top 32)), PSs.nox wpB_pss, start _ H ⟨Nat.le_succ n, B, ⟨by
      unfold L2.start
      rw [h1.length]
      exact Sg.start (m := 3) h1, h2.ex, ⟨h2.pl.1, fun _ e => by cases e⟩, fun p' ds' e => ?_⟩, ⟨Nw.refl _ _, ExO.refl _ _⟩, fun p' ds' e => ?_, Ex.refl _⟩⟩
    · cases e
      exact ⟨fun z => (by cases z), hBp, _, hp, DeAll.of_ints [a, b, c]⟩
    · cases e
      exact .inl rfl
end
end Cf

/-! Fn13: great, number, term. -/
namespace Cf
open PySem PySem.Spec PyProof.Rows L2
section
variable {P : Program} {w : World} {K : PySem.W.Frag} {mg : PySem.Str → Option Value} {base : Heap} {C : Addr} {f : Addr} {fd : FuncData}
abbrev SpTk (K : PySem.W.Frag) (C : Addr) : Sp := SpQ K C 1 preTk postTk
/-- pool, many: a draw -/
theorem ei_take {X : Cx} {p : Addr} {k : Nat} {env : En} {cs : Cs} {a b : Expr} {pn pos : Pos} {lv : Nat} {Pm : Int → Prop} (h : HasF X.prog X.w X.K X.mg X.base lv "_law_take" ["_law_pool_here", "_law_many"] (SpTk X.K C)) (hr : Room lv X.A)
    (ha : ED X C (some p) a env cs (.cell p)) (hb : EI X C (some p) k b env cs Pm) (hm : ∀ m, Pm m → 1 ≤ m ∧ m ≤ 1000000) (hg : Gl X "_law_take" := by rfl)
    (he : starEach [a, b] X.env = (false, eval a X.env) :: starEach [b] X.env := by rfl) (he2 : starEach [b] X.env = (false, eval b X.env) :: starEach [] X.env := by rfl) (hpl : (backTo pos (starEach [b] X.env)).any (·.1) = false := by rfl) :
    EI X C (some p) (k + 1) (.Call (.Name "_law_take" pn) [a, b] [] pos) env cs (fun i => ∃ m, Pm m ∧ 0 ≤ i ∧ i < m) := by
  have hA : AM X C (some p) k [a, b] env cs (fun ds => ∃ m, ds = [.cell p, .int m] ∧ Pm m) := by
    have h0 := am_cons (k1 := 0) (k2 := k) ha (am_cons (k1 := k) (k2 := 0) hb ad_nil he2) he
    rw [Nat.zero_add] at h0
    refine AM.imp h0 fun ds ⟨d, ds', e1, e2, d2, ds2, e3, ⟨m, e4, pm⟩, e5⟩ => ⟨m, ?_, pm⟩
    subst e2 e4 e5
    rw [e1, e3]
  exact em_callF h hr hA (fun ds ⟨m, e, pm⟩ => ⟨p, m, rfl, e, (hm m pm).1, (hm m pm).2⟩) (fun ds d ⟨m, e, pm⟩ h => by
    obtain ⟨r, e1, e2⟩ := h p m e
    exact ⟨(r : Int), e1, m, pm, Int.natCast_nonneg _, e2⟩) hg (by decide) he hpl
theorem ei_takeC {X : Cx} {p : Addr} {env : En} {cs : Cs} {a b : Expr} {m : Int} {pn pos : Pos} {lv : Nat} (h : HasF X.prog X.w X.K X.mg X.base lv "_law_take" ["_law_pool_here", "_law_many"] (SpTk X.K C)) (hr : Room lv X.A)
    (ha : ED X C (some p) a env cs (.cell p)) (hb : ED X C (some p) b env cs (.int m)) (h1 : 1 ≤ m) (h2 : m ≤ 1000000) (hg : Gl X "_law_take" := by rfl)
    (he : starEach [a, b] X.env = (false, eval a X.env) :: starEach [b] X.env := by rfl) (he2 : starEach [b] X.env = (false, eval b X.env) :: starEach [] X.env := by rfl) (hpl : (backTo pos (starEach [b] X.env)).any (·.1) = false := by rfl) :
    EI X C (some p) 1 (.Call (.Name "_law_take" pn) [a, b] [] pos) env cs (fun i => 0 ≤ i ∧ i < m) :=
  EI.to (ei_take (k := 0) h hr ha (ei_of hb) (fun x e => e ▸ ⟨h1, h2⟩) hg he he2 hpl) fun i ⟨x, e, h⟩ => e ▸ h

/-! ### _law_great -/
def preGr : Option Addr → List Dt → Prop := fun q ds => ∃ p, q = some p ∧ ds = [.cell p]
def postGr : List Dt → Dt → Prop := fun _ d => ∃ i : Int, d = .int i ∧ 0 ≤ i ∧ i < 10 ^ 30
abbrev SpGr (K : PySem.W.Frag) (C : Addr) : Sp := SpQ K C 5 preGr postGr
theorem sc42 : FnScope ["_law_pool_here", "_law_found", "_law_turn"] ["_law_pool_here"] (defScope (top 42)) := ⟨rfl, rfl, rfl, by decide +kernel, rfl, by decide +kernel, by decide +kernel⟩
theorem ok_great (g : Bi mg) (F : FnP K "_law_great" 42 f fd) (Tk : HasF P w K mg base 1 "_law_take" ["_law_pool_here", "_law_many"] (SpTk K C)) : FnOk P w K mg base CX0 2 f fd ["_law_pool_here"] (SpGr K C) := by
  refine fnd_ok F sc42 (fun _ _ ⟨_, _, h⟩ => h ▸ rfl) fun cdv A outer s H E hr q ds n B0 H0 D hp hn S hR hN => ?_
  obtain ⟨p, rfl, rfl⟩ := hp
  refine sg_setD S 1 rok0 ed_int ?_
  refine sg_for (sl := [2]) S rok0 (fun j n' env' cs' => n' = n + j ∧ cs' = none ∧ ∃ (i : Int) (e2 : Option Dt), env' = [some (.cell p), some (.int i), e2] ∧ 0 ≤ i ∧ i < 10 ^ (6 * j)) (id_range1 g.range ed_int ⟨by decide, by decide⟩) ⟨rfl, rfl, 0, _, rfl, by decide, by decide⟩ (fun _ _ _ _ _ => rok0) (fun Bm j x hx n' env' cs' ⟨e1, e2, i, x2, e3, h1, h2⟩ => ?_) (fun n' env' cs' ⟨e1, e2, i, x2, e3, h1, h2⟩ => ?_)
  · subst e1 e2 e3
    have hj : j < 5 := (rngD_get hx).1
    refine ⟨[x], gd_name S.nd, ?_⟩
    refine sg_set (k := 1) S 1 rok0 (ei_add (k1 := 0) (k2 := 1) (ei_of (ed_mul (.inr ⟨by decide, by decide⟩) (ed_var 1 rfl) (ed_pow ⟨by decide, by decide, by decide⟩ ed_int ed_int))) (ei_takeC Tk hr (ed_var 0 rfl) (ed_pow ⟨by decide, by decide, by decide⟩ ed_int ed_int) (by decide) (by decide))) (by omega) (fun d ⟨v, e, x, y, e1, ⟨y0, y1⟩, e2⟩ => ?_)
    subst e e1 e2
    refine sg_nil fun σ H a => ⟨_, _, _, ⟨rfl, rfl, _, _, rfl, ?_, ?_⟩, a⟩
    · have : (0 : Int) ≤ i * 10 ^ (6 : Int).toNat := Int.mul_nonneg h1 (by decide)
      omega
    · have e6 : (10 : Int) ^ (6 * (j + 1)) = 10 ^ (6 * j) * 10 ^ 6 := by rw [Nat.mul_succ, Int.pow_add]
      rw [e6]
      have h3 : i + 1 ≤ (10 : Int) ^ (6 * j) := h2
      have h4 : (i + 1) * 10 ^ 6 ≤ (10 : Int) ^ (6 * j) * 10 ^ 6 := Int.mul_le_mul_of_nonneg_right h3 (by decide)
      have h5 : (10 : Int) ^ (6 : Int).toNat = 10 ^ 6 := rfl
      rw [h5] at y1 ⊢
      have : (i + 1) * 10 ^ 6 = i * 10 ^ 6 + 10 ^ 6 := by rw [Int.add_mul, Int.one_mul]
      omega
  · subst e1 e2 e3
    exact sg_retD S rok0 (ed_var 1 rfl) (hR.to ⟨i, rfl, h1, h2⟩)
theorem ei_great {X : Cx} {p : Addr} {env : En} {cs : Cs} {a : Expr} {pn pos : Pos} {lv : Nat} (h : HasF X.prog X.w X.K X.mg X.base lv "_law_great" ["_law_pool_here"] (SpGr X.K C)) (hr : Room lv X.A)
    (ha : ED X C (some p) a env cs (.cell p)) (hg : Gl X "_law_great" := by rfl)
    (he : starEach [a] X.env = (false, eval a X.env) :: starEach [] X.env := by rfl) (hpl : (backTo pos (starEach [] X.env)).any (·.1) = false := by rfl) :
    EI X C (some p) 5 (.Call (.Name "_law_great" pn) [a] [] pos) env cs (fun i => 0 ≤ i ∧ i < 10 ^ 30) :=
  em_callF (k := 0) (kf := 5) h hr (ad_cons ha ad_nil he) (fun _ e => e ▸ ⟨p, rfl, rfl⟩) (fun ds d e h => h) hg (by decide) he hpl

/-! ### _law_number -/
def preNu : Option Addr → List Dt → Prop := preGr
def Sm (i : Int) : Prop := i.natAbs ≤ 10 ^ 30
def postNu : List Dt → Dt → Prop := fun _ d => ∃ i : Int, d = .int i ∧ Sm i
abbrev SpNu (K : PySem.W.Frag) (C : Addr) : Sp := SpQ K C 8 preNu postNu
theorem sc43 : FnScope ["_law_pool_here", "_law_way"] ["_law_pool_here"] (defScope (top 43)) := ⟨rfl, rfl, rfl, by decide +kernel, rfl, by decide +kernel, by decide +kernel⟩
/-- [x, y][i], the list known to hold whole numbers of P -/
theorem ei_ix {X : Cx} {q : Option Addr} {k1 k2 : Nat} {env : En} {cs : Cs} {a b : Expr} {pos : Pos} {Pl : List Int → Prop} {Pi Pr : Int → Prop} (ha : EM X C q k1 a env cs (fun d => ∃ ns : List Int, d = .lst (ns.map Dt.int) ∧ Pl ns)) (hb : EI X C q k2 b env cs Pi) (h : ∀ ns i, Pl ns → Pi i → ∃ j : Nat, i = (j : Int) ∧ ∃ v, ns[j]? = some v ∧ Pr v) (hs : PlainIx b := by exact fun _ _ => rfl) :
    EI X C q (k1 + k2) (.Subscript a b pos) env cs Pr := em_ix ix_seq ha hb (fun d1 d2 ⟨ns, e1, p1⟩ ⟨i, e2, p2⟩ => by
  subst e1 e2
  obtain ⟨j, rfl, v, hv, pv⟩ := h ns i p1 p2
  exact fun n B H x y Q bs h1 h2 hf => rr_item (d := .int v) rfl (atI_nat (by rw [List.getElem?_map, hv]; rfl)) n B H x y Q bs h1 h2 fun v' d B2 H2 e => hf v' d B2 H2 ⟨v, e, pv⟩) hs
theorem ei_sign {X : Cx} {p : Addr} {env : En} {cs : Cs} {a : Expr} {p1 p2 p3 p4 p5 p6 pn pos : Pos} {j1 j2 j3} {lv : Nat} (h : HasF X.prog X.w X.K X.mg X.base lv "_law_take" ["_law_pool_here", "_law_many"] (SpTk X.K C)) (hr : Room lv X.A) (ha : ED X C (some p) a env cs (.cell p)) (hg : Gl X "_law_take" := by rfl)
    (he : starEach [a, .Constant (.int 2) j1 p1] X.env = (false, eval a X.env) :: starEach [.Constant (.int 2) j1 p1] X.env := by rfl) (he2 : starEach [.Constant (.int 2) j1 p1] X.env = (false, eval (.Constant (.int 2) j1 p1) X.env) :: starEach [] X.env := by rfl) (hpl : (backTo pos (starEach [.Constant (.int 2) j1 p1] X.env)).any (·.1) = false := by rfl)
    (he3 : starEach [.Constant (.int 1) j2 p2, .UnaryOp .USub (.Constant (.int 1) j3 p3) p4] X.env = (false, eval (.Constant (.int 1) j2 p2) X.env) :: starEach [.UnaryOp .USub (.Constant (.int 1) j3 p3) p4] X.env := by rfl) (he4 : starEach [.UnaryOp .USub (.Constant (.int 1) j3 p3) p4] X.env = (false, eval (.UnaryOp .USub (.Constant (.int 1) j3 p3) p4) X.env) :: starEach [] X.env := by rfl)
    (hs : PlainIx (.Call (.Name "_law_take" pn) [a, .Constant (.int 2) j1 p1] [] pos) := by exact fun _ _ => rfl) :
    EI X C (some p) 1 (.Subscript (.List [.Constant (.int 1) j2 p2, .UnaryOp .USub (.Constant (.int 1) j3 p3) p4] p5) (.Call (.Name "_law_take" pn) [a, .Constant (.int 2) j1 p1] [] pos) p6) env cs (fun i => i = 1 ∨ i = -1) :=
  ei_ix (k1 := 0) (k2 := 1) (Pl := fun ns => ns = [1, -1]) (EM.imp (ed_lst (ad_cons ed_int (ad_cons (ed_neg ed_int) ad_nil he4) he3) (by decide)) fun d e => ⟨[1, -1], e, rfl⟩) (ei_takeC h hr ha ed_int (by decide) (by decide) hg he he2 hpl) (fun ns i e ⟨h0, h1⟩ => by
    subst e
    have : i = 0 ∨ i = 1 := by omega
    rcases this with rfl | rfl
    · exact ⟨0, rfl, 1, rfl, .inl rfl⟩
    · exact ⟨1, rfl, -1, rfl, .inr rfl⟩) hs
theorem ok_number (g : Bi mg) (F : FnP K "_law_number" 43 f fd) (Tk : HasF P w K mg base 1 "_law_take" ["_law_pool_here", "_law_many"] (SpTk K C)) (Gr : HasF P w K mg base 2 "_law_great" ["_law_pool_here"] (SpGr K C)) : FnOk P w K mg base CX0 3 f fd ["_law_pool_here"] (SpNu K C) := by
  refine fnd_ok F sc43 (fun _ _ ⟨_, _, h⟩ => h ▸ rfl) fun cdv A outer s H E hr q ds n B0 H0 D hp hn S hR hN => ?_
  obtain ⟨p, rfl, rfl⟩ := hp
  have hr1 := hr.mono (j := 1) (by decide)
  refine sg_set (k := 1) S 1 rok0 (ei_takeC Tk hr1 (ed_var 0 rfl) ed_int (by decide) (by decide)) (by omega) (fun d ⟨v, e, v0, v1⟩ => ?_)
  subst e
  refine sg_ifD S rok0 (td_eqI (ed_var 1 rfl) ed_int) (fun h => sg_retD S rok0 ed_int (hR.to ⟨0, rfl, Nat.zero_le _⟩)) (fun h1 => sg_back ?_)
  refine sg_ifD S rok0 (td_eqI (ed_var 1 rfl) ed_int) (fun h => ?_) (fun h2 => sg_back ?_)
  · refine sg_ret (k := 6) S rok0 (ei_mul (k1 := 5) (k2 := 1) (ei_great Gr hr (ed_var 0 rfl)) (ei_sign Tk hr1 (ed_var 0 rfl)) (fun x y _ hy => .inr (by rcases hy with rfl | rfl <;> exact ⟨by decide, by decide⟩))) (by omega) (hR.imp fun d ⟨i, e, x, y, ⟨x0, x1⟩, hy, e2⟩ => ⟨i, e, ?_⟩)
    subst e2
    unfold Sm
    rcases hy with rfl | rfl <;> omega
  · have n1 := of_decide_eq_false h1
    have n2 := of_decide_eq_false h2
    refine sg_ret (k := 3) S rok0 (ei_mul (k1 := 2) (k2 := 1) (P1 := fun x => 0 ≤ x ∧ x < 1001) (ei_ix (k1 := 2) (k2 := 0) (Pl := fun ns => ∃ x y, ns = [x, y] ∧ (0 ≤ x ∧ x < 1001) ∧ (0 ≤ y ∧ y < 1001)) (EM.imp (em_lst (am_cons (k1 := 1) (k2 := 1) (ei_add (k1 := 0) (k2 := 1) (ei_of ed_int) (ei_takeC Tk hr1 (ed_var 0 rfl) ed_int (by decide) (by decide))) (am_cons (k1 := 1) (k2 := 0) (ei_takeC Tk hr1 (ed_var 0 rfl) ed_int (by decide) (by decide)) ad_nil)) ?_) ?_) (ei_of (ed_sub (ed_var 1 rfl) ed_int)) ?_) (ei_sign Tk hr1 (ed_var 0 rfl)) (fun x y _ hy => .inr (by rcases hy with rfl | rfl <;> exact ⟨by decide, by decide⟩))) (by omega) (hR.imp fun d ⟨i, e, x, y, ⟨x0, x1⟩, hy, e2⟩ => ⟨i, e, ?_⟩)
    · rintro ds ⟨d1, r, e1, _, d2, r2, e2, _, e3⟩
      subst e1 e2 e3
      exact Nat.le_of_ble_eq_true rfl
    · rintro d ⟨ds, e0, d1, r, e1, ⟨i, ei, x, y, ex, ⟨y0, y1⟩, e⟩, d2, r2, e2, ⟨j, ej, j0, j1⟩, e3⟩
      subst e0 e1 ei e2 ej e3
      exact ⟨[i, j], rfl, i, j, rfl, by omega, by omega⟩
    · rintro ns i ⟨x, y, e, hx, hy⟩ ei
      subst e ei
      have : v = 1 ∨ v = 2 := by omega
      rcases this with rfl | rfl
      · exact ⟨0, rfl, x, rfl, hx⟩
      · exact ⟨1, rfl, y, rfl, hy⟩
    · subst e2
      unfold Sm
      rcases hy with rfl | rfl <;> omega
theorem ei_number {X : Cx} {p : Addr} {env : En} {cs : Cs} {a : Expr} {pn pos : Pos} {lv : Nat} (h : HasF X.prog X.w X.K X.mg X.base lv "_law_number" ["_law_pool_here"] (SpNu X.K C)) (hr : Room lv X.A)
    (ha : ED X C (some p) a env cs (.cell p)) (hg : Gl X "_law_number" := by rfl)
    (he : starEach [a] X.env = (false, eval a X.env) :: starEach [] X.env := by rfl) (hpl : (backTo pos (starEach [] X.env)).any (·.1) = false := by rfl) :
    EI X C (some p) 8 (.Call (.Name "_law_number" pn) [a] [] pos) env cs Sm :=
  em_callF (k := 0) (kf := 8) h hr (ad_cons ha ad_nil he) (fun _ e => e ▸ ⟨p, rfl, rfl⟩) (fun ds d e h => h) hg (by decide) he hpl
end
end Cf

/-! Fn14: term, mild_sum. -/
namespace Cf
open PySem PySem.Spec PyProof.Rows L2
section
variable {X : Cx} {C : Addr} {q : Option Addr} {k : Nat} {env : En} {cs : Cs} {a b : Expr} {pos : Pos} {ds : List Dt} {d : Dt}
/-- ds[i], i not known -/
theorem em_pick (hi : itemsOf d = some ds) (ha : ED X C q a env cs d) (hb : EI X C q k b env cs (fun i => 0 ≤ i ∧ i < (ds.length : Int))) (hs : PlainIx b := by exact fun _ _ => rfl) : EM X C q k (.Subscript a b pos) env cs (fun x => x ∈ ds) := by
  have h := em_ix (k1 := 0) (k2 := k) (pos := pos) (P := fun x => x ∈ ds) ix_seq ha hb (fun d1 d2 e1 ⟨i, e2, h0, h1⟩ => by
    subst e1 e2
    obtain ⟨j, rfl⟩ : ∃ j : Nat, i = (j : Int) := ⟨i.toNat, (Int.toNat_of_nonneg h0).symm⟩
    have hl : j < ds.length := Int.ofNat_lt.mp h1
    intro n B H x y Q bs g1 g2 hf
    exact rr_item (d := ds[j]) hi (atI_nat (List.getElem?_eq_getElem hl)) n B H x y Q bs g1 g2 fun v' d B2 H2 e => hf v' d B2 H2 (e ▸ List.getElem_mem hl)) hs
  rw [Nat.zero_add] at h
  exact h
theorem am_d {es : List Expr} {PA1 : List Dt → Prop} (ha : ED X C q a env cs d) (hr : AM X C q k es env cs PA1) (hs : starEach (a :: es) X.env = (false, eval a X.env) :: starEach es X.env := by rfl) : AM X C q k (a :: es) env cs (fun ds => ∃ r, ds = d :: r ∧ PA1 r) := by
  have h := am_cons (k1 := 0) (k2 := k) ha hr hs
  rw [Nat.zero_add] at h
  exact AM.imp h fun ds ⟨d', r, e1, e2, p⟩ => ⟨r, by rw [e1, e2], p⟩
theorem am_1 {P1 : Dt → Prop} (ha : EM X C q k a env cs P1) (hs : starEach [a] X.env = (false, eval a X.env) :: starEach [] X.env := by rfl) : AM X C q k [a] env cs (fun ds => ∃ d, ds = [d] ∧ P1 d) := by
  have h := am_cons (k1 := k) (k2 := 0) ha ad_nil hs
  exact AM.imp h fun ds ⟨d', r, e1, p, e2⟩ => ⟨d', by rw [e1, e2], p⟩
end
def costT : Nat → Nat
  | 0 => 3
  | m + 1 => 3 + 2 * costT m
section
variable {P : Program} {w : World} {K : PySem.W.Frag} {mg : PySem.Str → Option Value} {base : Heap} {C : Addr} {f : Addr} {fd : FuncData}
def preTm (m : Nat) : Option Addr → List Dt → Prop := fun q ds => ∃ p ss, q = some p ∧ ds = [.cell p, .nms ss, .int ((m + 1 : Nat) : Int)] ∧ ss.length ≤ 3
def postTm (m : Nat) : List Dt → Dt → Prop := fun ds d => ∀ p ss, ds = [.cell p, .nms ss, .int ((m + 1 : Nat) : Int)] → ∃ t : Tm, d = tD t ∧ t.In ss ∧ t.deep ≤ m
abbrev SpTm (K : PySem.W.Frag) (C : Addr) (m : Nat) : Sp := SpQ K C (costT m) (preTm m) (postTm m)
theorem sc36 : FnScope ["_law_pool_here", "_law_sets", "_law_deep", "_law_way", "_law_some", "_law_one"] ["_law_pool_here", "_law_sets", "_law_deep"] (defScope (top 36)) := ⟨rfl, rfl, rfl, by decide +kernel, rfl, by decide +kernel, by decide +kernel⟩
theorem em_term {X : Cx} {p : Addr} {env : En} {cs : Cs} {a b c : Expr} {pn pos : Pos} {lv m : Nat} {ss : List PySem.Str} (h : HasF X.prog X.w X.K X.mg X.base lv "_law_term" ["_law_pool_here", "_law_sets", "_law_deep"] (SpTm X.K C m)) (hr : Room lv X.A)
    (ha : ED X C (some p) a env cs (.cell p)) (hb : ED X C (some p) b env cs (.nms ss)) (hc : ED X C (some p) c env cs (.int ((m + 1 : Nat) : Int))) (hs : ss.length ≤ 3) (hg : Gl X "_law_term" := by rfl)
    (he : starEach [a, b, c] X.env = (false, eval a X.env) :: starEach [b, c] X.env := by rfl) (he2 : starEach [b, c] X.env = (false, eval b X.env) :: starEach [c] X.env := by rfl) (he3 : starEach [c] X.env = (false, eval c X.env) :: starEach [] X.env := by rfl) (hpl : (backTo pos (starEach [b, c] X.env)).any (·.1) = false := by rfl) :
    EM X C (some p) (costT m) (.Call (.Name "_law_term" pn) [a, b, c] [] pos) env cs (fun d => ∃ t : Tm, d = tD t ∧ t.In ss ∧ t.deep ≤ m) := by
  have h0 := em_callF (k := 0) (kf := costT m) (P := fun d => ∃ t : Tm, d = tD t ∧ t.In ss ∧ t.deep ≤ m) (p := pn) (pos := pos) h hr (ad_cons ha (ad_cons hb (ad_cons hc ad_nil he3) he2) he) (fun _ e => e ▸ ⟨p, ss, rfl, rfl, hs⟩) (fun ds d e h => h p ss e) hg (by decide) he hpl
  rw [Nat.zero_add] at h0
  exact h0
theorem ok_term0 {m : Nat} (g : Bi mg) (F : FnP K "_law_term" 36 f fd) (Tk : HasF P w K mg base 1 "_law_take" ["_law_pool_here", "_law_many"] (SpTk K C))
    (IH : ∀ m', m = m' + 1 → HasF P w K mg base (2 + m') "_law_term" ["_law_pool_here", "_law_sets", "_law_deep"] (SpTm K C m')) : FnOk P w K mg base CX0 (2 + m) f fd ["_law_pool_here", "_law_sets", "_law_deep"] (SpTm K C m) := by
  have e4 : 2 + m = (1 + m) + 1 := by omega
  rw [e4]
  refine fnd_ok F sc36 (fun _ _ ⟨_, _, _, h, _⟩ => h ▸ rfl) fun cdv A outer s H E hr q ds n B0 H0 D hp hn S hR hN => ?_
  obtain ⟨p, ss, rfl, rfl, hs⟩ := hp
  have hr1 := hr.mono (j := 1) (by omega)
  have fin : ∀ d, (∃ t : Tm, d = tD t ∧ t.In ss ∧ t.deep ≤ m) → postTm m [.cell p, .nms ss, .int ((m + 1 : Nat) : Int)] d := fun d h p' ss' e => by
    injection e with e1 e2
    injection e2 with e3 e4
    injection e3 with e5
    subst e5
    exact h
  have c3 : 3 ≤ costT m := by cases m <;> simp only [costT] <;> omega
  refine sg_set (k := 1) S 3 rok0 (ei_takeC Tk hr1 (ed_var 0 rfl) ed_int (by decide) (by decide)) (by omega) (fun d ⟨v, e, v0, v1⟩ => ?_)
  subst e
  refine sg_ifD S rok0 (td_w (wd_or (td_lt (ed_var 2 rfl) ed_int) fun _ => wd_or1 (td_lt (ed_var 3 rfl) ed_int))) (fun h => ?_) (fun h => sg_back ?_)
  · refine sg_setD S 4 rok0 (ed_catL ?_ (ed_list g.list (ed_var 1 rfl) (show _ = some (ss.map Dt.str) from rfl)) (ed_lst (ad_cons (ed_tup (ad_cons ed_str ad_nil) (by decide)) (ad_cons (ed_tup (ad_cons ed_str ad_nil) (by decide)) ad_nil)) (by decide))) ?_
    · rw [List.length_map]
      show ss.length + 2 ≤ 1000
      omega
    · have inall : ∀ d, d ∈ ss.map Dt.str ++ [.tup [.str "all"], .tup [.str "none"]] → ∃ t : Tm, d = tD t ∧ t.In ss ∧ t.deep ≤ m := fun d hd => by
        rcases List.mem_append.mp hd with h | h
        · obtain ⟨x, hx, rfl⟩ := List.mem_map.mp h
          exact ⟨.nm x, rfl, hx, Nat.zero_le _⟩
        · rcases List.mem_cons.mp h with rfl | h
          · exact ⟨.all, rfl, trivial, Nat.zero_le _⟩
          · cases List.mem_singleton.mp h
            exact ⟨.none, rfl, trivial, Nat.zero_le _⟩
      by_cases hss : ss = []
      · subst hss
        refine sg_no S rok0 (td_w (wd_andF (td_gt (ed_len g.len (ed_var 1 rfl) rfl) ed_int))) ?_
        refine sg_ret (k := 1) S rok0 (em_pick rfl (ed_var 4 rfl) (ei_takeC Tk hr1 (ed_var 0 rfl) (ed_len g.len (ed_var 4 rfl) rfl) (by decide) (by decide))) (by omega) (hR.imp fun d hd => fin d (inall d hd))
      · have hp : 0 < ss.length := by
          cases ss with
          | nil => exact absurd rfl hss
          | cons a b => exact Nat.succ_pos _
        refine sg_if (k := 1) (PB := fun _ => True) S rok0 (tm_w ?_) (by omega) (fun _ => sg_setD S 4 rok0 (ed_list g.list (ed_var 1 rfl) (show _ = some (ss.map Dt.str) from rfl)) (sg_back ?_)) (fun _ => sg_back ?_)
        · refine wm_and (k1 := 0) (k2 := 1) (PB1 := fun b => b = true) (TM.to (td_gt (ed_len g.len (ed_var 1 rfl) (show _ = some (ss.map Dt.str) from rfl)) ed_int) ?_) (fun _ => wm_and1 (tm_cmp (k1 := 1) (k2 := 0) op_gt (nomark _) (ei_takeC Tk hr1 (ed_var 0 rfl) ed_int (by decide) (by decide)) (ei_of ed_int) ?_)) (fun _ => trivial)
          · rw [List.length_map]
            exact decide_eq_true (by omega)
          · rintro d1 d2 ⟨x, e1, _⟩ ⟨y, e2, _⟩
            subst e1 e2
            exact fun n B H u v Q bs h1 h2 hf => ⟨x, y, h1, h2, bs.fin hf ⟨_, rfl, trivial⟩ rfl⟩
        · refine sg_ret (k := 1) S rok0 (em_pick rfl (ed_var 4 rfl) (ei_takeC Tk hr1 (ed_var 0 rfl) (ed_len g.len (ed_var 4 rfl) rfl) (by rw [List.length_map]; omega) (by rw [List.length_map]; omega))) (by omega) (hR.imp fun d hd => fin d (inall d (List.mem_append_left _ hd)))
        · refine sg_ret (k := 1) S rok0 (em_pick rfl (ed_var 4 rfl) (ei_takeC Tk hr1 (ed_var 0 rfl) (ed_len g.len (ed_var 4 rfl) rfl) ?_ ?_)) (by omega) (hR.imp fun d hd => fin d (inall d hd))
          · rw [List.length_append, List.length_map]
            show (1 : Int) ≤ ((ss.length + 2 : Nat) : Int)
            omega
          · rw [List.length_append, List.length_map]
            show ((ss.length + 2 : Nat) : Int) ≤ 1000000
            omega
  · obtain ⟨h1, h2⟩ := Bool.or_eq_false_iff.mp h
    have g1 := of_decide_eq_false h1
    have g2 := of_decide_eq_false h2
    cases m with
    | zero => exact absurd (by decide) g1
    | succ m' =>
      have Tm' := IH m' rfl
      have hrT := hr.mono (j := 2 + m') (by omega)
      have ec : costT (m' + 1) = 3 + 2 * costT m' := rfl
      have hd1 : ((m' + 1 + 1 : Nat) : Int) - 1 = ((m' + 1 : Nat) : Int) := by omega
      refine sg_ifD S rok0 (td_eqI (ed_var 3 rfl) ed_int) (fun h => ?_) (fun h3 => sg_back ?_)
      · refine sg_ret (k := costT m') S rok0 (EM.imp (em_tup (am_d ed_str (am_1 (em_term Tm' hrT (ed_var 0 rfl) (ed_var 1 rfl) (ED.to (ed_sub (ed_var 2 rfl) ed_int) (by rw [hd1])) hs))) ?_) ?_) (by omega) hR
        · rintro ds ⟨r, e1, d, e2, _⟩
          subst e1 e2
          exact Nat.le_of_ble_eq_true rfl
        · rintro d ⟨ds, e0, r, e1, d1, e2, t, e3, h1, h2⟩
          subst e0 e1 e2 e3
          exact fin _ ⟨.not t, rfl, h1, Nat.succ_le_succ h2⟩
      · have n3 := of_decide_eq_false h3
        refine sg_set (k := costT m') S 5 rok0 (em_term Tm' hrT (ed_var 0 rfl) (ed_var 1 rfl) (ED.to (ed_sub (ed_var 2 rfl) ed_int) (by rw [hd1])) hs) (by omega) (fun d ⟨t, e, t1, t2⟩ => ?_)
        subst e
        have hw : ∃ wd : PySem.Str, (wd = "and" ∨ wd = "or" ∨ wd = "but") ∧ L2.atI [Dt.str "and", .str "or", .str "but"] (v % 3) = some (.str wd) := by
          have : v = 4 ∨ v = 5 ∨ v = 6 ∨ v = 7 ∨ v = 8 := by omega
          rcases this with rfl | rfl | rfl | rfl | rfl
          · exact ⟨_, .inr (.inl rfl), rfl⟩
          · exact ⟨_, .inr (.inr rfl), rfl⟩
          · exact ⟨_, .inl rfl, rfl⟩
          · exact ⟨_, .inr (.inl rfl), rfl⟩
          · exact ⟨_, .inr (.inr rfl), rfl⟩
        obtain ⟨wd, hwd, hat⟩ := hw
        refine sg_ret (k := costT m') S rok0 (EM.imp (em_tup (am_d (ed_item (ed_lst (ad_cons ed_str (ad_cons ed_str (ad_cons ed_str ad_nil))) (by decide)) (ed_mod (by decide) (ed_var 3 rfl) ed_int) rfl hat) (am_d (ed_var 5 rfl) (am_1 (em_term Tm' hrT (ed_var 0 rfl) (ed_var 1 rfl) (ED.to (ed_sub (ed_var 2 rfl) ed_int) (by rw [hd1])) hs)))) ?_) ?_) (by omega) hR
        · rintro ds ⟨r, e1, r2, e2, d, e3, _⟩
          subst e1 e2 e3
          exact Nat.le_of_ble_eq_true rfl
        · rintro d ⟨ds, e0, r, e1, r2, e2, d1, e3, t', e5, h1, h2⟩
          subst e0 e1 e2 e3 e5
          rcases hwd with rfl | rfl | rfl
          · exact fin _ ⟨.and t t', rfl, ⟨t1, h1⟩, Nat.succ_le_succ (Nat.max_le.mpr ⟨t2, h2⟩)⟩
          · exact fin _ ⟨.or t t', rfl, ⟨t1, h1⟩, Nat.succ_le_succ (Nat.max_le.mpr ⟨t2, h2⟩)⟩
          · exact fin _ ⟨.but t t', rfl, ⟨t1, h1⟩, Nat.succ_le_succ (Nat.max_le.mpr ⟨t2, h2⟩)⟩
theorem has_term (g : Bi mg) (F : FnP K "_law_term" 36 f fd) (mH : mg "_law_term" = some (.ref f)) (Tk : HasF P w K mg base 1 "_law_take" ["_law_pool_here", "_law_many"] (SpTk K C)) : ∀ m, HasF P w K mg base (2 + m) "_law_term" ["_law_pool_here", "_law_sets", "_law_deep"] (SpTm K C m)
  | 0 => ⟨f, fd, mH, F.kp, F.bindsN fun _ _ _ _ _ _ us hl => match us, hl with | [_, _, _], _ => rfl, ok_term0 g F Tk fun m' e => by omega⟩
  | m + 1 => ⟨f, fd, mH, F.kp, F.bindsN fun _ _ _ _ _ _ us hl => match us, hl with | [_, _, _], _ => rfl, ok_term0 g F Tk fun m' e => by
      cases e
      exact has_term g F mH Tk m⟩
end
end Cf

/-! Fn15: loops over a drawn range; mild_sum. -/
namespace Cf
open PySem PySem.Spec PyProof.Rows L2
/-- iter tells some data of PX, by at most k draws -/
def IM (X : Cx) (C : Addr) (q : Option Addr) (k : Nat) (tg iter : Expr) (env : En) (cs : Cs) (PX : List Dt → Prop) : Prop :=
  ∀ (n : Nat) (B : Hp) (σ : L2.St) (H : Hp), Cfg X.K C q n env cs B σ H → n + k ≤ LIM → ∀ R : It → Hp → Prop, (∀ xs J B1 H1, PX xs → ItOk X.K C q J B1 xs → Out q (n + k) B H B1 H1 → R J H1) → wpI X tg iter σ H R
section
variable {X : Cx} {C : Addr} {q r : Option Addr} {B0 H0 B H B2 H2 Bm : Hp} {N n k : Nat} {env : En} {cs : Cs} {rest : List Stmt} {D : Ends} {tg iter a : Expr} {pos p : Pos} {PX : List Dt → Prop} {Pi : Int → Prop}
theorem im_range (hm : X.mg "range" = none) (ha : EI X C q k a env cs Pi) (hj : ∀ i, Pi i → -(2 ^ 62) ≤ i ∧ i < 2 ^ 62) (hg : Gl X "range" := by rfl) (hs : starEach [a] X.env = [(false, eval a X.env)] := by rfl) : IM X C q k tg (.Call (.Name "range" p) [a] [] pos) env cs (fun xs => ∃ i, Pi i ∧ xs = rngD i.toNat) := fun n B σ H cf hn R hR =>
  wpI_of (pi_range1 hg hm (pa_cons wpE_pe pa_nil (by rw [hs]; rfl)) hs) (ha n B σ H cf hn _ fun v d' B1 H1 ⟨i, e1, p1⟩ f1 o1 => by
    subst e1
    rw [show v = .int i from f1]
    exact ⟨i, rfl, (hj i p1).1, (hj i p1).2, hR _ _ B1 H1 ⟨i, p1, rfl⟩ itok_range o1⟩)
/-- for tg in iter: body, what is walked not known -/
theorem sg_forM {body : List Stmt} {sl : List Nat} (S : SOk X q r N) (hr : Rok q r cs) (hn : n + k ≤ N) (Φ : List Dt → Nat → Nat → En → Cs → Prop) (hi : IM X C q k tg iter env cs PX) (h0 : ∀ xs, PX xs → Φ xs 0 (n + k) env cs)
    (hR : ∀ xs j n' env' cs', Φ xs j n' env' cs' → Rok q r cs')
    (hb : ∀ Bm xs, PX xs → ∀ j x, xs[j]? = some x → ∀ n' env' cs', Φ xs j n' env' cs' → ∃ ds, GD X C q tg sl x ds ∧
      SG X C q r B0 H0 N Bm n' (setE env' sl ds) cs' body { D with nx := fun σ H => ∃ n2 e2 c2, Φ xs (j + 1) n2 e2 c2 ∧ At X C q r B0 H0 N Bm n2 e2 c2 σ H, ct := fun σ H => ∃ n2 e2 c2, Φ xs (j + 1) n2 e2 c2 ∧ At X C q r B0 H0 N Bm n2 e2 c2 σ H, bk := wpB X rest D })
    (hd : ∀ xs, PX xs → ∀ n' env' cs', Φ xs xs.length n' env' cs' → SG X C q r B0 H0 N Bm n' env' cs' rest D) (hp : PassesOwn (model X.prog X.w) X.A X.env X.xe := by exact .never) (hs : ∀ x, foldedSetIterable iter X.env x = pure x := by intro _; rfl) :
    SG X C q r B0 H0 N Bm n env cs (.For tg iter body [] pos :: rest) D :=
  sg_st (ps_for hp S.calm wpI_pi wpG_pg wpB_pss hs) fun σ H ⟨h1, B, cf, kp, co, em⟩ => hi n B σ H cf (Nat.le_trans hn S.lim) _ fun xs J B1 H1 px jok o1 => by
    have kp1 := kp.out S (hr.there cf) o1
    refine ⟨fun i m σ H => m = xs.length - i ∧ i ≤ xs.length ∧ ∃ n' env' cs', Φ xs i n' env' cs' ∧ At X C q r B0 H0 N B1 n' env' cs' σ H, ⟨xs.length, rfl, Nat.zero_le _, n + k, env, cs, h0 xs px, hn, B1, cf.after o1, kp1, co, Ex.refl _⟩, ?_⟩
    rintro i m σ' H' ⟨rfl, hi', n', env', cs', hΦ, hn', B', cf', kp', co', em'⟩
    by_cases hlt : i < xs.length
    · have hx : xs[i]? = some xs[i] := List.getElem?_eq_getElem hlt
      refine .inr ⟨jok.go i _ B' H' hx em' cf'.ex, fun σ2 H2 => i + 1 ≤ xs.length ∧ ∃ n2 e2 c2, Φ xs (i + 1) n2 e2 c2 ∧ At X C q r B0 H0 N B1 n2 e2 c2 σ2 H2, fun σ2 H2 ⟨a1, a2⟩ => ⟨xs.length - (i + 1), by omega, rfl, a1, a2⟩, fun x H2 y => ?_⟩
      obtain ⟨B2, hde, o2⟩ := jok.yld i _ _ B' H' x H2 hx em' cf'.bs y
      obtain ⟨ds, g, h⟩ := hb B1 xs px i _ hx n' env' cs' hΦ
      refine g _ B2 σ' H2 x o2.bs hde _ fun ws B3 H3 hws o3 => ?_
      have o := o2.trans o3
      have e : (fun (σ2 : L2.St) (H2 : Hp) => i + 1 ≤ xs.length ∧ ∃ n2 e2 c2, Φ xs (i + 1) n2 e2 c2 ∧ At X C q r B0 H0 N B1 n2 e2 c2 σ2 H2) = fun σ2 H2 => ∃ n2 e2 c2, Φ xs (i + 1) n2 e2 c2 ∧ At X C q r B0 H0 N B1 n2 e2 c2 σ2 H2 := by
        funext σ2 H2
        exact propext ⟨fun z => z.2, fun z => ⟨hlt, z⟩⟩
      rw [e]
      exact h _ _ ⟨hn', B3, ⟨(cf'.sg.mono o.nw.ex).sets hws, o.ex, o.pl, (cf'.after o).cl⟩, kp'.out S ((hR xs i n' env' cs' hΦ).there cf') o, co', em'.trans o.nw.ex⟩
    · have e : i = xs.length := by omega
      subst e
      exact .inl ⟨jok.stop B' H' em' cf'.ex, hd xs px n' env' cs' hΦ σ' H' ⟨hn', B', cf', kp', co', (em.trans o1.nw.ex).trans em'⟩⟩
end
section
variable {P : Program} {w : World} {K : PySem.W.Frag} {mg : PySem.Str → Option Value} {base : Heap} {C : Addr} {f : Addr} {fd : FuncData}
def preMs : Option Addr → List Dt → Prop := fun q ds => ∃ p ss ns, q = some p ∧ ds = [.cell p, .tup [.nms ss, .nms ns]] ∧ ss.length ≤ 3 ∧ ns.length ≤ 2
def postMs : List Dt → Dt → Prop := fun ds d => ∀ p ss ns, ds = [.cell p, .tup [.nms ss, .nms ns]] → ∃ as : List Ad, d = .tup (as.map aD) ∧ as.length ≤ 6 ∧ (∀ a ∈ as, AdOk ss ns 3 a) ∧ ∀ a ∈ as, Sm a.c
abbrev SpMs (K : PySem.W.Frag) (C : Addr) : Sp := SpQ K C 400 preMs postMs
theorem sc49 : FnScope ["_law_pool_here", "_law_tongue_here", "_law_found", "_law_k", "_law_way"] ["_law_pool_here", "_law_tongue_here"] (defScope (top 49)) := ⟨rfl, rfl, rfl, by decide +kernel, rfl, by decide +kernel, by decide +kernel⟩
theorem ok_mild (g : Bi mg) (F : FnP K "_law_mild_sum" 49 f fd) (Tk : HasF P w K mg base 1 "_law_take" ["_law_pool_here", "_law_many"] (SpTk K C)) (Nu : HasF P w K mg base 3 "_law_number" ["_law_pool_here"] (SpNu K C)) (Tm' : HasF P w K mg base 5 "_law_term" ["_law_pool_here", "_law_sets", "_law_deep"] (SpTm K C 3)) : FnOk P w K mg base CX0 6 f fd ["_law_pool_here", "_law_tongue_here"] (SpMs K C) := by
  refine fnd_ok F sc49 (fun _ _ ⟨_, _, _, _, h, _⟩ => h ▸ rfl) fun cdv A outer s H E hr q ds n B0 H0 D hp hn S hR hN => ?_
  obtain ⟨p, ss, ns, rfl, rfl, hs, hn2⟩ := hp
  have hr1 := hr.mono (j := 1) (by decide)
  have hr3 := hr.mono (j := 3) (by decide)
  refine sg_newD (ds := []) S 2 rok0 ((en_lst (k := 0) ad_nil (fun ds e => e ▸ Nat.zero_le _)).imp fun ds e => e) (fun l => ?_)
  refine sg_forM (k := 1) (sl := [3]) S rok0 (by omega) (fun xs j n' env' cs' => n' = n + 1 + j * 60 ∧ (∃ as : List Ad, cs' = some (l, as.map aD) ∧ as.length ≤ j ∧ (∀ a ∈ as, AdOk ss ns 3 a) ∧ ∀ a ∈ as, Sm a.c) ∧ ∃ e3 e4, env' = [some (.cell p), some (.tup [.nms ss, .nms ns]), some (.cell l), e3, e4])
    (im_range g.range (ei_takeC Tk hr1 (ed_var 0 rfl) ed_int (by decide) (by decide)) (fun i ⟨h0, h1⟩ => ⟨by omega, by omega⟩)) (fun xs _ => ⟨by omega, ⟨[], rfl, Nat.zero_le _, fun a h => (by cases h), fun a h => (by cases h)⟩, _, _, rfl⟩) (fun _ _ _ _ _ _ => rok0) (fun Bm xs ⟨i, ⟨i0, i1⟩, hxs⟩ j x hx n' env' cs' ⟨e1, ⟨as, e2, a1, a2, a3⟩, x3, x4, e4⟩ => ?_) (fun xs ⟨i, ⟨i0, i1⟩, hxs⟩ n' env' cs' ⟨e1, ⟨as, e2, a1, a2, a3⟩, x3, x4, e4⟩ => ?_)
  · subst e1 e2 e4 hxs
    have hj : j < 6 := by have := (rngD_get hx).1; omega
    refine ⟨[x], gd_name S.nd, ?_⟩
    have add : ∀ (a : Ad), AdOk ss ns 3 a → Sm a.c → ∃ as2 : List Ad, some (l, as.map aD ++ [aD a]) = some (l, as2.map aD) ∧ as2.length ≤ j + 1 ∧ (∀ b ∈ as2, AdOk ss ns 3 b) ∧ ∀ b ∈ as2, Sm b.c := fun a k1 k2 => ⟨as ++ [a], by rw [List.map_append]; rfl, by rw [List.length_append]; exact Nat.succ_le_succ a1, fun b hb => by
      rcases List.mem_append.mp hb with h | h
      · exact a2 b h
      · cases List.mem_singleton.mp h; exact k1, fun b hb => by
      rcases List.mem_append.mp hb with h | h
      · exact a3 b h
      · cases List.mem_singleton.mp h; exact k2⟩
    have len : (as.map aD).length < 100000 := by rw [List.length_map]; omega
    refine sg_set (k := 1) S 4 rok0 (ei_takeC Tk hr1 (ed_var 0 rfl) ed_int (by decide) (by decide)) (by omega) (fun d ⟨v, e, v0, v1⟩ => ?_)
    subst e
    refine sg_ifD S rok0 (td_eqI (ed_var 4 rfl) ed_int) (fun h => ?_) (fun h => ?_)
    · refine sg_append (k := 8) S 2 rok0 (em_tup (am_d ed_str (am_1 (ei_number Nu hr3 (ed_var 0 rfl)))) (fun ds ⟨r, e1, d, e2, _⟩ => by subst e1 e2; exact Nat.le_of_ble_eq_true rfl)) (by omega) len (fun d ⟨ds, e0, r, e1, d1, e2, c, e3, hc⟩ => ?_)
      subst e0 e1 e2 e3
      exact sg_mono_n (sg_nil fun σ H a => wpB_of pss_nil ⟨_, _, _, ⟨rfl, add (.lot c) ⟨fun _ _ z => (by cases z), fun _ _ z => (by cases z)⟩ hc, _, _, rfl⟩, a⟩) (by omega) (by omega) S.lim
    · refine sg_ifD S rok0 (td_w (wd_and (td_eqI (ed_var 4 rfl) ed_int) fun _ => wd_and1 (td_gt (ed_len g.len (ed_item (ed_var 1 rfl) ed_int rfl rfl) (show _ = some (ns.map Dt.str) from rfl)) ed_int))) (fun h2 => ?_) (fun h2 => ?_)
      · have h3 := of_decide_eq_true (Bool.and_eq_true_iff.mp h2).2
        rw [List.length_map] at h3
        refine sg_append (k := 9) S 2 rok0 (em_tup (am_d ed_str (am_cons (k1 := 8) (k2 := 1) (ei_number Nu hr3 (ed_var 0 rfl)) (am_1 (em_pick (ds := ns.map Dt.str) rfl (ed_item (ed_var 1 rfl) ed_int rfl rfl) (ei_takeC Tk hr1 (ed_var 0 rfl) (ed_len g.len (ed_item (ed_var 1 rfl) ed_int rfl rfl) (show _ = some (ns.map Dt.str) from rfl)) ?_ ?_))))) (fun ds ⟨r, e1, d, r2, e2, _, d2, e3, _⟩ => by subst e1 e2 e3; exact Nat.le_of_ble_eq_true rfl)) (by omega) len (fun d ⟨ds, e0, r, e1, d1, r2, e2, ⟨c, e3, hc⟩, d2, e4, hd2⟩ => ?_)
        · rw [List.length_map]
          omega
        · rw [List.length_map]
          omega
        · subst e0 e1 e2 e3 e4
          obtain ⟨y, hy, rfl⟩ := List.mem_map.mp hd2
          exact sg_mono_n (sg_nil fun σ H a => wpB_of pss_nil (wpB_of pss_nil ⟨_, _, _, ⟨rfl, add (.num c y) ⟨fun _ _ z => (by cases z; exact hy), fun _ _ z => (by cases z)⟩ hc, _, _, rfl⟩, a⟩)) (by omega) (by omega) S.lim
      · refine sg_append (k := 8 + costT 3) S 2 rok0 (em_tup (am_d ed_str (am_cons (k1 := 8) (k2 := costT 3) (ei_number Nu hr3 (ed_var 0 rfl)) (am_1 (em_term (m := 3) Tm' hr (ed_var 0 rfl) (ed_item (ed_var 1 rfl) ed_int rfl rfl) (ED.to ed_int rfl) hs)))) (fun ds ⟨r, e1, d, r2, e2, _, d2, e3, _⟩ => by subst e1 e2 e3; exact Nat.le_of_ble_eq_true rfl)) ?_ len (fun d ⟨ds, e0, r, e1, d1, r2, e2, ⟨c, e3, hc⟩, d2, e4, t, e5, t1, t2⟩ => ?_)
        · show n + 1 + j * 60 + 1 + (8 + 45) ≤ n + 400
          omega
        · subst e0 e1 e2 e3 e4 e5
          refine sg_mono_n (sg_nil fun σ H a => wpB_of pss_nil (wpB_of pss_nil ⟨_, _, _, ⟨rfl, add (.size c t) ⟨fun _ _ z => (by cases z), fun _ _ z => (by cases z; exact ⟨t1, t2⟩)⟩ hc, _, _, rfl⟩, a⟩)) ?_ (by omega) S.lim
          show n + 1 + j * 60 + 1 + (8 + 45) ≤ n + 1 + (j + 1) * 60
          omega
  · subst e1 e2 e4 hxs
    exact sg_freeze 2 rfl rfl (sg_retD S rok0 (ed_tuple g.tuple (ed_var 2 rfl)) (hR.to fun p' ss' ns' e => by
      injection e with e1 e2
      injection e2 with e3
      injection e3 with e4
      injection e4 with e5 e6
      injection e5 with e5
      injection e6 with e6
      injection e6 with e6
      subst e5 e6
      rw [rngD_len] at a1
      exact ⟨as, rfl, by omega, a2, a3⟩))
end
end Cf

/-! Fn16: world. -/
namespace Cf
open PySem PySem.Spec PyProof.Rows L2
section
variable {X : Cx} {C : Addr} {q : Option Addr} {k0 k1 k2 M : Nat} {env : En} {cs : Cs} {elt tg iter : Expr} {ifs : List Expr} {scope : Scope} {own : List (PySem.Str × Nat)} {PX : List Dt → Prop} {sl : List Nat} {gs : List Dt → Nat → List Dt} {Pt : Nat → Bool → Prop} {Pe : Nat → Dt → Prop}
/-- what is walked is not known -/
theorem lr_lcM (hi : IM X C q k0 tg iter env cs PX) (hsl : ∀ i ∈ sl, i ∈ own.map (·.2)) (hM : ∀ xs, PX xs → xs.length ≤ M) (hM2 : M ≤ 100000)
    (hg : ∀ xs, PX xs → ∀ Y, Blk X scope Y → ∀ j x, xs[j]? = some x → GD Y C q tg sl x (gs xs j))
    (ht : ∀ xs, PX xs → ∀ Y, Blk X scope Y → ∀ j x, xs[j]? = some x → TS1 Y C q k1 ifs (setE (wipeE env (own.map (·.2))) sl (gs xs j)) cs (Pt j))
    (he : ∀ xs, PX xs → ∀ Y, Blk X scope Y → ∀ j x, xs[j]? = some x → Pt j true → EM Y C q k2 elt (setE (wipeE env (own.map (·.2))) sl (gs xs j)) cs (Pe j)) :
    ENt X C (LcR X scope elt tg iter ifs own) q (k0 + M * (k1 + k2)) env cs (fun ds => ∃ xs, PX xs ∧ Sel Pt Pe xs.length ds) := fun n B σ H cf hn Q hQ =>
  hi n B σ H cf (by omega) _ fun xs J B1 H1 px jok o1 => by
    have hle : xs.length * (k1 + k2) ≤ M * (k1 + k2) := Nat.mul_le_mul_right _ (hM xs px)
    exact lr_body hsl (Nat.le_trans (hM xs px) hM2) (hg xs px) (ht xs px) (he xs px) (cf.after o1) (by omega) jok Q fun p vs ds B2 H2 a1 a2 a3 a4 a5 a6 a7 => hQ p vs ds B2 H2 ⟨xs, px, a1⟩ a2 a3 (o1.none_of a4 a5) a5 a6 (o1.trans (a7.up (by omega) (by omega)))
end
theorem Sel.all {Pt : Nat → Bool → Prop} {Pe : Nat → Dt → Prop} {R : Dt → Prop} (h : ∀ i d, Pe i d → R d) {n : Nat} {ds : List Dt} (s : Sel Pt Pe n ds) : ∀ d ∈ ds, R d := by
  induction s with
  | nil => intro d hd; cases hd
  | skip _ _ ih => exact ih
  | take _ _ p ih =>
    intro d hd
    rcases List.mem_append.mp hd with h' | h'
    · exact ih d h'
    · cases List.mem_singleton.mp h'; exact h _ _ p
theorem Sel.len_eq {Pe : Nat → Dt → Prop} {n : Nat} {ds : List Dt} (s : Sel (fun _ b => b = true) Pe n ds) : ds.length = n := by
  induction s with
  | nil => rfl
  | skip _ p _ => cases p
  | take _ _ _ ih => rw [List.length_append, ih]; rfl
/-- whole numbers of R -/
theorem ints_of {R : Int → Prop} : ∀ {ds : List Dt}, (∀ d ∈ ds, ∃ i : Int, d = .int i ∧ R i) → ∃ ns : List Int, ds = ns.map Dt.int ∧ ∀ i ∈ ns, R i
  | [], _ => ⟨[], rfl, fun i h => by cases h⟩
  | d :: ds, h => by
    obtain ⟨i, e, hi⟩ := h d (List.mem_cons_self ..)
    obtain ⟨ns, e2, h2⟩ := ints_of fun d hd => h d (List.mem_cons_of_mem _ hd)
    subst e e2
    exact ⟨i :: ns, rfl, fun j hj => by
      rcases List.mem_cons.mp hj with rfl | hj
      · exact hi
      · exact h2 j hj⟩
section
variable {P : Program} {w : World} {K : PySem.W.Frag} {mg : PySem.Str → Option Value} {base : Heap} {C : Addr} {f : Addr} {fd : FuncData}
def preWd : Option Addr → List Dt → Prop := fun q ds => ∃ p ss ns top, q = some p ∧ ds = [.cell p, .tup [.nms ss, .nms ns], .int top] ∧ ss.length ≤ 3 ∧ ns.length ≤ 2 ∧ 0 ≤ top ∧ top ≤ 10 ^ 30
def postWd : List Dt → Dt → Prop := fun ds d => ∀ p ss ns top, ds = [.cell p, .tup [.nms ss, .nms ns], .int top] → ∃ cnt vals : List Int, d = .tup [.tup (cnt.map Dt.int), .tup (vals.map Dt.int)] ∧ cnt.length = 2 ^ ss.length ∧ vals.length = ns.length ∧ (∀ i ∈ cnt, 0 ≤ i ∧ i ≤ 8 * 10 ^ 30) ∧ (∀ i ∈ vals, 0 ≤ i ∧ i ≤ 10 ^ 30)
abbrev SpWd (K : PySem.W.Frag) (C : Addr) : Sp := SpQ K C 100 preWd postWd
theorem sc37 : FnScope ["_law_pool_here", "_law_tongue_here", "_law_top", "_law_many", "_law_name", "_law_left", "_law_counts", "_law_region", "_law_turn", "_law_some", "_law_at"] ["_law_pool_here", "_law_tongue_here", "_law_top"] (defScope (top 37)) := ⟨rfl, rfl, rfl, by decide +kernel, rfl, by decide +kernel, by decide +kernel⟩
theorem ok_world (g : Bi mg) (F : FnP K "_law_world" 37 f fd) (Tk : HasF P w K mg base 1 "_law_take" ["_law_pool_here", "_law_many"] (SpTk K C)) (Gr : HasF P w K mg base 2 "_law_great" ["_law_pool_here"] (SpGr K C)) : FnOk P w K mg base CX0 3 f fd ["_law_pool_here", "_law_tongue_here", "_law_top"] (SpWd K C) := by
  refine fnd_ok F sc37 (fun _ _ ⟨_, _, _, _, _, h, _⟩ => h ▸ rfl) fun cdv A outer s H E hr q ds n B0 H0 D hp hn S hR hN => ?_
  obtain ⟨p, ss, ns, tp, rfl, rfl, hs, hn2, t0, t1⟩ := hp
  have hr1 := hr.mono (j := 1) (by decide)
  have h8 : 2 ^ ss.length ≤ 8 := by
    have : 2 ^ ss.length ≤ 2 ^ 3 := Nat.pow_le_pow_right (by decide) hs
    omega
  have h1' : 1 ≤ 2 ^ ss.length := Nat.one_le_two_pow
  refine sg_setD S 3 rok0 ed_int ?_
  refine sg_for (sl := [4]) S rok0 (fun j n' env' cs' => n' = n ∧ cs' = none ∧ ∃ e4, env' = [some (.cell p), some (.tup [.nms ss, .nms ns]), some (.int tp), some (.int ((2 ^ j : Nat) : Int)), e4, none, none, none, none, none, none]) (id_nms (ed_item (ed_var 1 rfl) ed_int rfl rfl)) ⟨rfl, rfl, _, rfl⟩ (fun _ _ _ _ _ => rok0) (fun Bm j y hx n' env' cs' ⟨e1, e2, e3, e4⟩ => ?_) (fun n' env' cs' ⟨e1, e2, e3, e4⟩ => ?_)
  · subst e1 e2 e4
    refine ⟨[y], gd_name S.nd, ?_⟩
    refine sg_setD (d := .int ((2 ^ (j + 1) : Nat) : Int)) S 3 rok0 (ED.to (ed_mul (.inr ⟨by decide, by decide⟩) (ed_var 3 rfl) ed_int) ?_) (sg_nil fun σ H a => ⟨_, _, _, ⟨rfl, rfl, _, rfl⟩, a⟩)
    rw [Nat.pow_succ, Int.natCast_mul]
    rfl
  · subst e1 e2 e4
    rw [List.length_map]
    generalize hRR : 2 ^ ss.length = RR at *
    refine sg_set (k := 5) S 5 rok0 (ei_mod (k1 := 5) (k2 := 0) (ei_great Gr hr (ed_var 0 rfl)) (ei_of (ed_add (ed_var 2 rfl) ed_int)) (fun x y _ e => by rw [e]; omega)) (by omega) (fun d ⟨v, e, x, y, _, e1, e2⟩ => ?_)
    have l0 : 0 ≤ v := by rw [e2, e1]; exact Int.emod_nonneg _ (by omega)
    have l1 : v ≤ tp := by
      have : v < tp + 1 := by rw [e2, e1]; exact Int.emod_lt_of_pos _ (by omega)
      omega
    subst e
    clear e1 e2
    refine sg_lcNew (k := 0) S 6 rok0 (ps_lc (own := [("_law_region", 7)]) 6 S (blkOk_by (by kernel_rfl))) (lr_M (F := fun _ => .int 0) (G := fun d => [d]) (sl := [7]) (id_range1 (j := (RR : Int)) g.range (ed_var 3 rfl) ⟨by omega, by omega⟩) (by decide) (by rw [rngD_len, Int.toNat_natCast]; omega) (fun Y hY x hx => by obtain ⟨s', H', A', cl, fp, rfl⟩ := hY; exact gd_name S.nd) (fun Y hY x hx => ed_int)) (by omega) (fun l ds e => ?_)
    subst e
    rw [Int.toNat_natCast, zs_rng]
    refine sg_for (sl := [8]) S rok0 (fun j n2 env' cs' => n2 = n' + 5 + j * 7 ∧ (∃ cnt : List Int, cs' = some (l, cnt.map Dt.int) ∧ cnt.length = RR ∧ ∀ i ∈ cnt, 0 ≤ i ∧ i ≤ j * 10 ^ 30) ∧ ∃ (left : Int) (e4 e7 e8 e9 e10 : Option Dt), env' = [some (.cell p), some (.tup [.nms ss, .nms ns]), some (.int tp), some (.int (RR : Int)), e4, some (.int left), some (.cell l), e7, e8, e9, e10] ∧ 0 ≤ left ∧ left ≤ tp)
      (id_range1 g.range (ed_var 3 rfl) ⟨by omega, by omega⟩) ⟨rfl, ⟨zs RR, rfl, zs_len RR, fun i hi => by rw [List.eq_of_mem_replicate hi]; exact ⟨Int.le_refl _, by decide⟩⟩, v, _, _, _, _, _, rfl, l0, l1⟩ (fun _ _ _ _ _ => rok0) (fun Bm j x hx n2 env' cs' ⟨e1, ⟨cnt, e2, c1, c2⟩, left, x4, x7, x8, x9, x10, e4, f0, f1⟩ => ?_) (fun n2 env' cs' ⟨e1, ⟨cnt, e2, c1, c2⟩, left, x4, x7, x8, x9, x10, e4, f0, f1⟩ => ?_)
    · subst e1 e2 e4
      have hj : j < RR := by have := (rngD_get hx).1; rwa [Int.toNat_natCast] at this
      refine ⟨[x], gd_name S.nd, ?_⟩
      refine sg_set (k := 6) S 9 rok0 (ei_ix (k1 := 5) (k2 := 1) (Pr := fun i => 0 ≤ i ∧ i ≤ left) (Pl := fun ns => ns.length = 4 ∧ ∀ i ∈ ns, 0 ≤ i ∧ i ≤ left) (EM.imp (em_lst (am_d (ed_var 5 rfl) (am_cons (k1 := 5) (k2 := 0) (ei_mod (k1 := 5) (k2 := 0) (ei_great Gr hr (ed_var 0 rfl)) (ei_of (ed_add (ed_var 5 rfl) ed_int)) (fun x y _ e => by rw [e]; omega)) (ad_cons (ed_min2 S.calm g.min (ed_var 5 rfl) ed_int) (ad_cons ed_int ad_nil)))) ?_) ?_) (ei_takeC Tk hr1 (ed_var 0 rfl) ed_int (by decide) (by decide)) ?_) (by omega) (fun d ⟨sm, e, s0, s1⟩ => ?_)
      · rintro ds ⟨r, e1, d, r2, e2, _, e3⟩
        subst e1 e2 e3
        exact Nat.le_of_ble_eq_true rfl
      · rintro d ⟨ds, e0, r, e1, d2, r2, e2, ⟨i, e3, a, b, _, e4, e5⟩, e6⟩
        subst e0 e1 e2 e3 e6
        have i0 : 0 ≤ i := by rw [e5, e4]; exact Int.emod_nonneg _ (by omega)
        have i1 : i < left + 1 := by rw [e5, e4]; exact Int.emod_lt_of_pos _ (by omega)
        refine ⟨[left, i, if 1 < left then 1 else left, 0], ?_, rfl, fun z hz => ?_⟩
        · split <;> rfl
        · rcases List.mem_cons.mp hz with rfl | hz
          · exact ⟨f0, Int.le_refl _⟩
          · rcases List.mem_cons.mp hz with rfl | hz
            · exact ⟨i0, by omega⟩
            · rcases List.mem_cons.mp hz with rfl | hz
              · split <;> omega
              · cases List.mem_singleton.mp hz
                exact ⟨Int.le_refl _, f0⟩
      · rintro ns' i ⟨h4, hall⟩ ⟨i0, i1⟩
        have hlt : i.toNat < ns'.length := by omega
        exact ⟨i.toNat, (Int.toNat_of_nonneg i0).symm, ns'[i.toNat], List.getElem?_eq_getElem hlt, hall _ (List.getElem_mem hlt)⟩
      · subst e
        refine sg_set (k := 1) S 10 rok0 (ei_takeC Tk hr1 (ed_var 0 rfl) (ed_var 3 rfl) (by omega) (by omega)) (by omega) (fun d ⟨at', e, a0, a1⟩ => ?_)
        subst e
        obtain ⟨k, rfl⟩ : ∃ k : Nat, at' = (k : Int) := ⟨at'.toNat, (Int.toNat_of_nonneg a0).symm⟩
        have hk : k < cnt.length := by omega
        refine sg_setIx (k := 0) (jn := k) S 6 rok0 (ed_add (ed_view 6 (ed_item (ed_var 6 rfl) (ed_var 10 rfl) rfl (atI_nat (j := k) (v := Dt.int cnt[k]) (by rw [List.getElem?_map, List.getElem?_eq_getElem hk]; rfl))) rfl) (ed_var 9 rfl)) (ed_var 10 rfl) (ixN_nat (by rw [List.length_map]; exact hk)) (by omega) (fun d e => ?_)
        subst e
        refine sg_setD S 5 rok0 (ed_sub (ed_var 5 rfl) (ed_var 9 rfl)) (sg_mono_n (sg_nil fun σ H a => ⟨_, _, _, ⟨rfl, ⟨cnt.set k (cnt[k] + sm), by rw [List.map_set], by rw [List.length_set]; exact c1, fun i hi => ?_⟩, left - sm, _, _, _, _, _, rfl, by omega, by omega⟩, a⟩) (by omega) (by omega) S.lim)
        have hck := c2 _ (List.getElem_mem hk)
        have hjj : ((j + 1 : Nat) : Int) * 10 ^ 30 = (j : Int) * 10 ^ 30 + 10 ^ 30 := by rw [Int.natCast_add, Int.add_mul]; rfl
        rw [hjj]
        rcases List.mem_or_eq_of_mem_set hi with h | h
        · have := c2 i h
          exact ⟨this.1, by omega⟩
        · rw [h]
          exact ⟨by omega, by omega⟩
    · subst e1 e2 e4
      rw [rngD_len, Int.toNat_natCast] at c2 ⊢
      refine sg_freeze 6 rfl rfl (sg_ret (k := (ns.map Dt.str).length * (0 + 5)) S rok0 (em_tup (am_d (ed_tuple g.tuple (ed_var 6 rfl)) (am_1 (em_tuple g.tuple (PL := fun ds => ∃ vals : List Int, ds = vals.map Dt.int ∧ vals.length = ns.length ∧ ∀ i ∈ vals, 0 ≤ i ∧ i ≤ 10 ^ 30) (EM.imp ((lc_EN (own := [("_law_name", 4)]) (lr_lc (k1 := 0) (k2 := 5) (xs := ns.map Dt.str) (sl := [4]) (gs := fun j => [(ns.map Dt.str).getD j .non]) (Pt := fun _ b => b = true) (Pe := fun _ d => ∃ i : Int, d = .int i ∧ 0 ≤ i ∧ i ≤ 10 ^ 30) (id_nms (ed_item (ed_var 1 rfl) ed_int rfl rfl)) (by decide) ?_ (fun Y hY j x hx => ?_) (fun Y hY j x hx => ts_nil) (fun Y hY j x hx _ => ?_)) S.calm S.nd (blkOk_by (by kernel_rfl))).em) ?_)))) ?_) ?_ (hR.imp ?_))
      · rw [List.length_map]
        omega
      · obtain ⟨s', H', A', cl, fp, rfl⟩ := hY
        have e : (ns.map Dt.str).getD j .non = x := by rw [List.getD_eq_getElem?_getD, hx]; rfl
        rw [e]
        exact gd_name S.nd
      · obtain ⟨s', H', A', cl, fp, rfl⟩ := hY
        refine EM.imp (ei_mod (k1 := 5) (k2 := 0) (ei_great Gr hr (ed_var 0 rfl)) (ei_of (ed_add (ed_var 2 rfl) ed_int)) (fun x y _ e => by rw [e]; omega)) (fun d ⟨i, e, a, b, _, e4, e5⟩ => ⟨i, e, ?_, ?_⟩)
        · rw [e5, e4]
          exact Int.emod_nonneg _ (by omega)
        · have : i < tp + 1 := by rw [e5, e4]; exact Int.emod_lt_of_pos _ (by omega)
          omega
      · rintro d ⟨ds, e, sel⟩
        obtain ⟨vals, e2, h2⟩ := ints_of (R := fun i => 0 ≤ i ∧ i ≤ 10 ^ 30) (Sel.all (R := fun d => ∃ i : Int, d = .int i ∧ 0 ≤ i ∧ i ≤ 10 ^ 30) (fun i d h => h) sel)
        have hl := sel.len_eq
        subst e2
        rw [List.length_map, List.length_map] at hl
        exact ⟨_, e, vals, rfl, hl, h2⟩
      · rintro ds ⟨r, e1, d, e2, _⟩
        subst e1 e2
        exact Nat.le_of_ble_eq_true rfl
      · rw [List.length_map]
        omega
      · rintro d ⟨ds, e0, r, e1, d2, e2, ds2, e3, vals, e4, v1, v2⟩
        subst e0 e1 e2 e3 e4
        intro p' ss' ns' tp' e
        injection e with e1 e2
        injection e2 with e3 e4
        injection e3 with e5
        injection e5 with e6 e7
        injection e6 with e6
        injection e7 with e7
        injection e7 with e7
        subst e6 e7
        rw [hRR]
        exact ⟨cnt, vals, rfl, c1, v1, fun i hi => ⟨(c2 i hi).1, Int.le_trans (c2 i hi).2 (Int.mul_le_mul_of_nonneg_right (Int.ofNat_le.mpr h8) (by decide))⟩, v2⟩
end
end Cf

/-! Fn17: names. -/
namespace Cf
open PySem PySem.Spec PyProof.Rows L2

/-! ### texts as lists -/
theorem tlA (x y : PySem.Str) : (x ++ y).cps.toList = x.cps.toList ++ y.cps.toList := by
  show (x.cps ++ y.cps).toList = _
  exact Array.toList_append
theorem str_ext {x y : PySem.Str} (h : x.cps.toList = y.cps.toList) : x = y := by
  cases x
  cases y
  congr 1
  exact Array.toList_inj.mp h
theorem len_tl (x : PySem.Str) : x.length = x.cps.toList.length := by
  show x.cps.size = _
  rw [Array.length_toList]
/-- the k-th sign put in place -/
def varW (w : PySem.Str) (k c : Nat) : PySem.Str := cutS w none (some (k : Int)) ++ ⟨#[c]⟩ ++ cutS w (some ((k : Int) + 1)) none
theorem varW_tl {w : PySem.Str} {k c : Nat} (h : k < w.length) : (varW w k c).cps.toList = w.cps.toList.take k ++ [c] ++ w.cps.toList.drop (k + 1) := by
  unfold varW
  rw [tlA, tlA]
  have e1 : (cutS w none (some (k : Int))).cps.toList = w.cps.toList.take k := by
    unfold cutS
    rw [List.toList_toArray]
    show (w.cps.toList.drop 0).take (HT.sIx w.length w.length (some ((k : Nat) : Int)) - 0) = _
    rw [HT.sIx_nat, Nat.min_eq_left (Nat.le_of_lt h), List.drop_zero, Nat.sub_zero]
  have e2 : (cutS w (some ((k : Int) + 1)) none).cps.toList = w.cps.toList.drop (k + 1) := by
    unfold cutS
    rw [List.toList_toArray, show ((k : Int) + 1) = ((k + 1 : Nat) : Int) from rfl, HT.sIx_nat, Nat.min_eq_left h]
    show (w.cps.toList.drop (k + 1)).take (w.length - (k + 1)) = _
    rw [List.take_of_length_le (by rw [List.length_drop, ← len_tl]; exact Nat.le_refl _)]
  rw [e1, e2]
theorem varW_ok {w : PySem.Str} {k c : Nat} (ok : NmOk w) (h : k < w.length) (hc : c ∈ LETT.cps.toList) : NmOk (varW w k c) := by
  have e := varW_tl (c := c) h
  have hl : (varW w k c).length = w.length := by
    rw [len_tl, e, List.length_append, List.length_append, List.length_take, List.length_drop, ← len_tl]
    show min k w.length + 1 + _ = _
    omega
  refine ⟨hl ▸ ok.lo, hl ▸ ok.hi, fun x hx => ?_⟩
  rw [e] at hx
  rcases List.mem_append.mp hx with h1 | h1
  · rcases List.mem_append.mp h1 with h2 | h2
    · exact ok.ab x (List.mem_of_mem_take h2)
    · cases List.mem_singleton.mp h2; exact hc
  · exact ok.ab x (List.mem_of_mem_drop h1)
theorem varW_inj {w : PySem.Str} {k c d : Nat} (h : k < w.length) (e : varW w k c = varW w k d) : c = d := by
  have h1 := varW_tl (c := c) h
  rw [e, varW_tl (c := d) h] at h1
  have hl : (w.cps.toList.take k).length = k := by
    rw [List.length_take, ← len_tl]
    omega
  have h2 := congrArg (fun l => l[k]?) h1
  have at' : ∀ z : Nat, (w.cps.toList.take k ++ [z] ++ w.cps.toList.drop (k + 1))[k]? = some z := fun z => by
    rw [List.append_assoc, List.getElem?_append_right (by rw [hl]; exact Nat.le_refl _), hl, Nat.sub_self]
    rfl
  have h3 : some d = some c := (at' d).symm.trans (h2.trans (at' c))
  exact (Option.some.inj h3).symm
/-- a list without repeats, all of it in another -/
theorem nodup_le : ∀ {l m : List PySem.Str}, l.Nodup → (∀ x ∈ l, x ∈ m) → l.length ≤ m.length
  | [], _, _, _ => Nat.zero_le _
  | x :: l, m, hn, h => by
    obtain ⟨h1, h2⟩ := List.nodup_cons.mp hn
    have hm := h x (List.mem_cons_self ..)
    have := nodup_le (m := m.erase x) h2 fun y hy => (List.mem_erase_of_ne (fun e => h1 (by rw [← e]; exact hy))).mpr (h y (List.mem_cons_of_mem _ hy))
    rw [List.length_erase_of_mem hm] at this
    have hp := List.length_pos_of_mem hm
    rw [List.length_cons]
    omega
theorem lett_nodup : LETT.cps.toList.Nodup := by decide +kernel
theorem lett_len : LETT.cps.toList.length = 26 := by decide +kernel
/-- the candidates -/
def cands (w : PySem.Str) (k : Nat) : List PySem.Str := w :: LETT.cps.toList.map (varW w k)
theorem map_nodup {w : PySem.Str} {k : Nat} (h : k < w.length) : ∀ {l : List Nat}, l.Nodup → (l.map (varW w k)).Nodup
  | [], _ => List.nodup_nil
  | c :: l, hn => by
    obtain ⟨h1, h2⟩ := List.nodup_cons.mp hn
    rw [List.map_cons]
    refine List.nodup_cons.mpr ⟨fun hm => ?_, map_nodup h h2⟩
    obtain ⟨d, hd, e⟩ := List.mem_map.mp hm
    rw [varW_inj h e] at hd
    exact h1 hd
theorem some_new {w : PySem.Str} {k : Nat} (h : k < w.length) {ns : List PySem.Str} (hl : ns.length < 26) : ∃ x r, (cands w k).filter (fun x => !decide (x ∈ ns)) = x :: r := by
  cases e : (cands w k).filter (fun x => !decide (x ∈ ns)) with
  | cons x r => exact ⟨x, r, rfl⟩
  | nil =>
    exfalso
    have hall : ∀ x ∈ LETT.cps.toList.map (varW w k), x ∈ ns := fun x hx => by
      have := List.filter_eq_nil_iff.mp e x (List.mem_cons_of_mem _ hx)
      simpa using this
    have := nodup_le (map_nodup h lett_nodup) hall
    rw [List.length_map, lett_len] at this
    omega
theorem join_nil : ∀ ys : List PySem.Str, (PySem.Str.join "" ys).cps.toList = (ys.map fun y => y.cps.toList).flatten
  | [] => rfl
  | [x] => by
    show x.cps.toList = _
    simp
  | x :: y :: r => by
    show (x ++ ("" : PySem.Str) ++ PySem.Str.join "" (y :: r)).cps.toList = _
    rw [tlA, tlA, join_nil (y :: r)]
    show x.cps.toList ++ [] ++ _ = _
    rw [List.append_nil]
    rfl
/-- signs joined -/
theorem join_ok {ys : List PySem.Str} (h1 : 1 ≤ ys.length) (h2 : ys.length ≤ 8) (h : ∀ y ∈ ys, ∃ c ∈ LETT.cps.toList, y = ⟨#[c]⟩) : NmOk (PySem.Str.join "" ys) := by
  have hl : ∀ ys : List PySem.Str, (∀ y ∈ ys, ∃ c ∈ LETT.cps.toList, y = ⟨#[c]⟩) → (ys.map fun y => y.cps.toList).flatten.length = ys.length := fun ys => by
    induction ys with
    | nil => intro _; rfl
    | cons y ys ih =>
      intro h
      obtain ⟨c, _, e⟩ := h y (List.mem_cons_self ..)
      rw [List.map_cons, List.flatten_cons, List.length_append, ih fun z hz => h z (List.mem_cons_of_mem _ hz), e, List.length_cons, Nat.add_comm]
      rfl
  have e : (PySem.Str.join "" ys).length = ys.length := by rw [len_tl, join_nil, hl ys h]
  refine ⟨e ▸ h1, e ▸ h2, fun c hc => ?_⟩
  rw [join_nil] at hc
  obtain ⟨l, hl1, hl2⟩ := List.mem_flatten.mp hc
  obtain ⟨y, hy, rfl⟩ := List.mem_map.mp hl1
  obtain ⟨d, hd, rfl⟩ := h y hy
  cases List.mem_singleton.mp hl2
  exact hd
end Cf

/-! Fn18: the law's names. -/
namespace Cf
open PySem PySem.Spec PyProof.Rows L2
section
variable {X : Cx} {C : Addr} {q : Option Addr} {k : Nat} {env : En} {cs : Cs} {a b : Expr} {pos : Pos} {s : PySem.Str}
/-- s[i], i not known -/
theorem em_pickS (hz : s.length ≤ 1000) (ha : ED X C q a env cs (.str s)) (hb : EI X C q k b env cs (fun i => 0 ≤ i ∧ i < (s.length : Int))) (hs : PlainIx b := by exact fun _ _ => rfl) : EM X C q k (.Subscript a b pos) env cs (fun x => ∃ c ∈ s.cps.toList, x = .str ⟨#[c]⟩) := by
  have h := em_ix (k1 := 0) (k2 := k) (pos := pos) (P := fun x => ∃ c ∈ s.cps.toList, x = .str ⟨#[c]⟩) ix_seq ha hb (fun d1 d2 e1 ⟨i, e2, h0, h1⟩ => by
    subst e1 e2
    obtain ⟨j, rfl⟩ : ∃ j : Nat, i = (j : Int) := ⟨i.toNat, (Int.toNat_of_nonneg h0).symm⟩
    have hl : j < s.cps.toList.length := by rw [← len_tl]; exact Int.ofNat_lt.mp h1
    intro n B H x y Q bs g1 g2 hf
    exact rr_itemS hz (atI_nat (List.getElem?_eq_getElem hl)) n B H x y Q bs g1 g2 fun v' d B2 H2 e => hf v' d B2 H2 ⟨_, List.getElem_mem hl, e⟩) hs
  rw [Nat.zero_add] at h
  exact h
end
theorem cut_len {s : PySem.Str} (l u : Option Int) : (cutS s l u).length ≤ s.length := by
  rw [len_tl, len_tl]
  unfold cutS
  rw [List.toList_toArray, List.length_take, List.length_drop]
  exact Nat.le_trans (Nat.min_le_right _ _) (Nat.sub_le _ _)
theorem len_cat (x y : PySem.Str) : (x ++ y).length = x.length + y.length := by
  rw [len_tl, len_tl, len_tl, tlA, List.length_append]
theorem strs_of {R : PySem.Str → Prop} : ∀ {ds : List Dt}, (∀ d ∈ ds, ∃ i : PySem.Str, d = .str i ∧ R i) → ∃ ns : List PySem.Str, ds = ns.map Dt.str ∧ ∀ i ∈ ns, R i
  | [], _ => ⟨[], rfl, fun i h => by cases h⟩
  | d :: ds, h => by
    obtain ⟨i, e, hi⟩ := h d (List.mem_cons_self ..)
    obtain ⟨ns, e2, h2⟩ := strs_of fun d hd => h d (List.mem_cons_of_mem _ hd)
    subst e e2
    exact ⟨i :: ns, rfl, fun j hj => by
      rcases List.mem_cons.mp hj with rfl | hj
      · exact hi
      · exact h2 j hj⟩
def varD (w : PySem.Str) (k : Nat) : Dt → Dt
  | .str x => .str (cutS w none (some (k : Int)) ++ x ++ cutS w (some ((k : Int) + 1)) none)
  | _ => .non
def notInD (ns : List PySem.Str) : Dt → Bool
  | .str x => !decide (x ∈ ns)
  | _ => false
section
variable {P : Program} {w : World} {K : PySem.W.Frag} {mg : PySem.Str → Option Value} {base : Heap} {C : Addr} {f : Addr} {fd : FuncData}
def preNm : Option Addr → List Dt → Prop := fun q ds => ∃ p M, q = some p ∧ ds = [.cell p, .int ((M : Nat) : Int)] ∧ M ≤ 5
def postNm : List Dt → Dt → Prop := fun ds d => ∀ p M, ds = [.cell p, .int ((M : Nat) : Int)] → ∃ ns : List PySem.Str, d = .lst (ns.map Dt.str) ∧ ns.length = M ∧ ns.Nodup ∧ ∀ s ∈ ns, NmOk s
abbrev SpNm (K : PySem.W.Frag) (C : Addr) : Sp := SpQ K C 60 preNm postNm
theorem sc34 : FnScope ["_law_pool_here", "_law_many", "_law_letters", "_law_found", "_law_k", "_law_word", "_law_at", "_law_some", "_law_turn", "_law_letter", "_law_one"] ["_law_pool_here", "_law_many"] (defScope (top 34)) := ⟨rfl, rfl, rfl, by decide +kernel, rfl, by decide +kernel, by decide +kernel⟩
theorem ok_lnames (g : Bi mg) (F : FnP K "_law_names" 34 f fd) (Tk : HasF P w K mg base 1 "_law_take" ["_law_pool_here", "_law_many"] (SpTk K C)) : FnOk P w K mg base CX0 2 f fd ["_law_pool_here", "_law_many"] (SpNm K C) := by
  refine fnd_ok F sc34 (fun _ _ ⟨_, _, _, h, _⟩ => h ▸ rfl) fun cdv A outer s H E hr q ds n B0 H0 D hp hn S hR hN => ?_
  obtain ⟨p, M, rfl, rfl, hM⟩ := hp
  refine sg_set (k := 1) S 2 rok0 (em_pick (ds := [.str LETT, .str "ab"]) rfl (ed_lst (ad_cons ed_str (ad_cons ed_str ad_nil)) (by decide)) (ei_takeC Tk hr (ed_var 0 rfl) ed_int (by decide) (by decide))) (by omega) (fun d hd => ?_)
  obtain ⟨L, rfl, hL1, hL2, hL3⟩ : ∃ L : PySem.Str, d = .str L ∧ 1 ≤ L.length ∧ L.length ≤ 26 ∧ ∀ c ∈ L.cps.toList, c ∈ LETT.cps.toList := by
    rcases List.mem_cons.mp hd with rfl | hd
    · exact ⟨LETT, rfl, by decide +kernel, by decide +kernel, fun c h => h⟩
    · cases List.mem_singleton.mp hd
      exact ⟨"ab", rfl, by decide +kernel, by decide +kernel, by decide +kernel⟩
  refine sg_newD (ds := []) S 3 rok0 ((en_lst (k := 0) ad_nil (fun ds e => e ▸ Nat.zero_le _)).imp fun ds e => e) (fun l => ?_)
  refine sg_for (sl := [4]) S rok0 (fun j n' env' cs' => n' = n + 1 + j * 11 ∧ (∃ ns : List PySem.Str, cs' = some (l, ns.map Dt.str) ∧ ns.length = j ∧ ns.Nodup ∧ ∀ s ∈ ns, NmOk s) ∧ ∃ e4 e5 e6 e7, env' = [some (.cell p), some (.int (M : Int)), some (.str L), some (.cell l), e4, e5, e6, e7, none, none, none])
    (id_range1 g.range (ed_var 1 rfl) ⟨by omega, by omega⟩) ⟨rfl, ⟨[], rfl, rfl, List.nodup_nil, fun s h => by cases h⟩, _, _, _, _, rfl⟩ (fun _ _ _ _ _ => rok0) (fun Bm j x hx n' env' cs' ⟨e1, ⟨ns, e2, l1, l2, l3⟩, x4, x5, x6, x7, e4⟩ => ?_) (fun n' env' cs' ⟨e1, ⟨ns, e2, l1, l2, l3⟩, x4, x5, x6, x7, e4⟩ => ?_)
  · subst e1 e2 e4
    have hj : j < M := by have := (rngD_get hx).1; rwa [Int.toNat_natCast] at this
    refine ⟨[x], gd_name S.nd, ?_⟩
    refine sg_set (k := 1 + 8 * (0 + 1)) S 5 rok0 (em_join (PY := fun ys => (1 ≤ ys.length ∧ ys.length ≤ 8) ∧ ∀ y ∈ ys, ∃ c ∈ LETT.cps.toList, y = ⟨#[c]⟩) ed_str (EM.imp ((lc_EN (own := [("_law_turn", 8)]) (lr_lcM (k0 := 1) (M := 8) (k1 := 0) (k2 := 1) (PX := fun xs => ∃ i : Int, (∃ x y : Int, x = 1 ∧ (0 ≤ y ∧ y < 8) ∧ i = x + y) ∧ xs = rngD i.toNat) (sl := [8]) (gs := fun xs j => [xs.getD j .non]) (Pt := fun _ b => b = true) (Pe := fun _ d => ∃ y : PySem.Str, d = .str y ∧ ∃ c ∈ LETT.cps.toList, y = ⟨#[c]⟩)
        (im_range g.range (ei_add (k1 := 0) (k2 := 1) (ei_of ed_int) (ei_takeC Tk hr (ed_var 0 rfl) ed_int (by decide) (by decide))) (fun i ⟨x, y, h1, h2, h3⟩ => ⟨by omega, by omega⟩)) (by decide) ?_ (by decide) (fun xs _ Y hY j x hx => ?_) (fun xs _ Y hY j x hx => ts_nil) (fun xs _ Y hY j x hx _ => ?_)) S.calm S.nd (blkOk_by (by kernel_rfl))).em) ?_) ?_) (by omega) (fun d ⟨ys, e, hys⟩ => ?_)
    · rintro xs ⟨i, ⟨a, b, h1, h2, h3⟩, e⟩
      subst e
      rw [rngD_len]
      omega
    · obtain ⟨s', H', A', cl, fp, rfl⟩ := hY
      have e : xs.getD j .non = x := by rw [List.getD_eq_getElem?_getD, hx]; rfl
      rw [e]
      exact gd_name S.nd
    · obtain ⟨s', H', A', cl, fp, rfl⟩ := hY
      refine EM.imp (em_pickS (by omega) (ed_var 2 rfl) (ei_takeC Tk hr (ed_var 0 rfl) (ed_lenS g.len (ed_var 2 rfl) (by omega)) (by omega) (by omega))) (fun d ⟨c, hc, e⟩ => ⟨_, e, c, hL3 c hc, rfl⟩)
    · rintro d ⟨ds, e, xs, ⟨i, ⟨a, b, h1, h2, h3⟩, e2⟩, sel⟩
      obtain ⟨ys, e3, hall⟩ := strs_of (R := fun y => ∃ c ∈ LETT.cps.toList, y = ⟨#[c]⟩) (Sel.all (R := fun d => ∃ y : PySem.Str, d = .str y ∧ ∃ c ∈ LETT.cps.toList, y = ⟨#[c]⟩) (fun i d h => h) sel)
      have hl := sel.len_eq
      subst e2 e3
      rw [List.length_map, rngD_len] at hl
      exact ⟨ys, e, ⟨by omega, by omega⟩, hall⟩
    · rintro ys ⟨⟨h1, h2⟩, h3⟩
      have e0 : ("" : PySem.Str).length = 0 := rfl
      have hsum : ∀ zs : List PySem.Str, (∀ y ∈ zs, ∃ c ∈ LETT.cps.toList, y = ⟨#[c]⟩) → (zs.map (·.length)).sum = zs.length := fun zs => by
        induction zs with
        | nil => intro _; rfl
        | cons z zs ih =>
          intro h
          obtain ⟨c, _, e⟩ := h z (List.mem_cons_self ..)
          rw [List.map_cons, List.sum_cons, ih fun y hy => h y (List.mem_cons_of_mem _ hy), e, List.length_cons, Nat.add_comm]
          rfl
      rw [hsum ys h3, e0, Nat.mul_zero]
      omega
    · obtain ⟨⟨h1, h2⟩, h3⟩ := hys
      have wok : NmOk (Txt.join "" ys) := by
        have : Txt.join "" ys = PySem.Str.join "" ys := PySem.StrLaws.glued_eq_join _ _
        rw [this]
        exact join_ok h1 h2 h3
      generalize Txt.join "" ys = wd at *
      subst e
      have w1 := wok.lo
      have w8 := wok.hi
      refine sg_set (k := 1) S 6 rok0 (ei_takeC Tk hr (ed_var 0 rfl) (ed_lenS g.len (ed_var 5 rfl) (by omega)) (by omega) (by omega)) (by omega) (fun d ⟨at', e, a0, a1⟩ => ?_)
      subst e
      obtain ⟨k, rfl⟩ : ∃ k : Nat, at' = (k : Int) := ⟨at'.toNat, (Int.toNat_of_nonneg a0).symm⟩
      have hk : k < wd.length := Int.ofNat_lt.mp a1
      have lS : (sgnD LETT).length = 26 := by decide +kernel
      refine sg_setD (d := .lst ((cands wd k).map Dt.str)) S 7 rok0 (ED.to (ed_catL ?_ (ed_lst (ad_cons (ed_var 5 rfl) ad_nil) (Nat.le_of_ble_eq_true rfl)) (ed_lcM (F := varD wd k) (G := fun d => [d]) (sl := [9]) (own := [("_law_letter", 9)]) S.calm S.nd (blkOk_by (by kernel_rfl)) (id_str (s := LETT) ed_str) (by decide) (by rw [lS]; decide) (fun Y hY x hx => ?_) (fun Y hY x hx => ?_))) ?_) ?_
      · rw [List.length_map, lS]
        exact Nat.le_of_ble_eq_true rfl
      · obtain ⟨s', H', A', cl, fp, rfl⟩ := hY
        exact gd_name S.nd
      · obtain ⟨s', H', A', cl, fp, rfl⟩ := hY
        unfold sgnD at hx
        obtain ⟨c, _, rfl⟩ := List.mem_map.mp hx
        refine ed_catS ?_ (ed_catS ?_ (ed_sliceS (by omega) (ed_var 5 rfl) .none (.some (ed_var 6 rfl))) (ed_var 9 rfl)) (ed_sliceS (by omega) (ed_var 5 rfl) (.some (ed_add (ed_var 6 rfl) ed_int)) .none)
        · have h := cut_len (s := wd) none (some (k : Int))
          have h2 := cut_len (s := wd) (some ((k : Int) + 1)) none
          rw [len_cat]
          have : (PySem.Str.length ⟨#[c]⟩) = 1 := rfl
          omega
        · have h := cut_len (s := wd) none (some (k : Int))
          have : (PySem.Str.length ⟨#[c]⟩) = 1 := rfl
          omega
      · unfold cands sgnD
        rw [List.map_cons, List.map_map, List.map_map]
        rfl
      · obtain ⟨y, r, hy⟩ := some_new hk (ns := ns) (by omega)
        have hfl : ((((cands wd k).map Dt.str).filter (notInD ns)).map id) = .str y :: r.map Dt.str := by
          rw [List.map_id, List.filter_map]
          show ((cands wd k).filter (fun x => !decide (x ∈ ns))).map Dt.str = _
          rw [hy]
          rfl
        have hyin : y ∈ (cands wd k).filter (fun x => !decide (x ∈ ns)) := by rw [hy]; exact List.mem_cons_self ..
        obtain ⟨hy1, hy2⟩ := List.mem_filter.mp hyin
        have hyn : y ∉ ns := by simpa using hy2
        have hyok : NmOk y := by
          rcases List.mem_cons.mp hy1 with rfl | h
          · exact wok
          · obtain ⟨c, hc, rfl⟩ := List.mem_map.mp h
            exact varW_ok wok hk hc
        refine sg_lc (k := 0) S 7 rok0 (ps_lc (own := [("_law_one", 10)]) 7 S (blkOk_by (by kernel_rfl))) (lr_F (T := notInD ns) (F := id) (G := fun d => [d]) (sl := [10]) (id_list (ed_var 7 rfl)) (by decide) ?_ (fun Y hY x hx => ?_) (fun Y hY x hx => ?_) (fun Y hY x hx hT => ?_)) (by omega) (fun ds e => ?_)
        · unfold cands
          rw [List.length_map, List.length_cons, List.length_map, lett_len]
          decide
        · obtain ⟨s', H', A', cl, fp, rfl⟩ := hY
          exact gd_name S.nd
        · obtain ⟨s', H', A', cl, fp, rfl⟩ := hY
          obtain ⟨z, _, rfl⟩ := List.mem_map.mp hx
          exact ts_one (tm_view 3 (td_ninS (ed_var 10 rfl) (ed_var 3 rfl) rfl))
        · obtain ⟨s', H', A', cl, fp, rfl⟩ := hY
          exact ed_var 10 rfl
        · rw [hfl] at e
          subst e
          refine sg_append (k := 0) S 3 rok0 (ed_item (ed_var 7 rfl) ed_int rfl (atI_nat (j := 0) rfl)) (by omega) (by rw [List.length_map]; omega) (fun d e => sg_mono_n (sg_nil fun σ H a => ⟨_, _, _, ⟨rfl, ⟨ns ++ [y], rfl, by rw [List.length_append, l1]; rfl, ?_, ?_⟩, _, _, _, _, rfl⟩, a.to ?_⟩) (by omega) (by omega) S.lim)
          · refine List.nodup_append.mpr ⟨l2, List.nodup_cons.mpr (And.intro (fun h => nomatch h) List.nodup_nil), fun a ha b hb => ?_⟩
            cases List.mem_singleton.mp hb
            exact fun e => hyn (e ▸ ha)
          · intro z hz
            rcases List.mem_append.mp hz with h | h
            · exact l3 z h
            · cases List.mem_singleton.mp h; exact hyok
          · subst e
            rw [List.map_append]
            rfl
  · subst e1 e2 e4
    refine sg_freeze 3 rfl rfl (sg_retD S rok0 (ed_var 3 rfl) (hR.to fun p' M' e => ?_))
    injection e with e1 e2
    injection e2 with e3
    injection e3 with e4
    obtain rfl := Int.ofNat.inj e4
    rw [rngD_len, Int.toNat_natCast] at l1
    exact ⟨ns, rfl, l1, l2, l3⟩
end
end Cf

/-! Fn19: the tongue. -/
namespace Cf
open PySem PySem.Spec PyProof.Rows L2
abbrev leS (a b : PySem.Str) : Prop := a.cps.toList ≤ b.cps.toList
theorem rising_pw : ∀ (l : List PySem.Str) (p : PySem.Str), risingS p l = true → (p :: l).Pairwise leS
  | [], p, _ => List.pairwise_cons.mpr ⟨fun _ h => (nomatch h), .nil⟩
  | x :: r, p, h => by
    unfold risingS at h
    rw [Bool.and_eq_true] at h
    obtain ⟨h1, h2⟩ := h
    have ih := rising_pw r x h2
    have hpx : leS p x := by
      rw [ltCps_eq] at h1
      have : ¬ x.cps.toList < p.cps.toList := by simpa using h1
      exact List.not_lt.mp this
    refine List.pairwise_cons.mpr ⟨fun y hy => ?_, ih⟩
    rcases List.mem_cons.mp hy with rfl | hy
    · exact hpx
    · exact List.le_trans hpx ((List.pairwise_cons.mp ih).1 y hy)
theorem sorted_up {l : List PySem.Str} (h : sortedS l = true) (hn : l.Nodup) : l.Pairwise (fun a b => a.cps.toList < b.cps.toList) := by
  have h1 : l.Pairwise leS := by
    cases l with
    | nil => exact .nil
    | cons x r => exact rising_pw r x h
  have := h1.and hn
  refine this.imp fun {a b} ⟨h2, h3⟩ => ?_
  rcases List.le_iff_lt_or_eq.mp h2 with h | h
  · exact h
  · exact absurd (str_ext h) h3
section
variable {P : Program} {w : World} {K : PySem.W.Frag} {mg : PySem.Str → Option Value} {base : Heap} {C : Addr} {f : Addr} {fd : FuncData}
def preTg : Option Addr → List Dt → Prop := fun q ds => ∃ p, q = some p ∧ ds = [.cell p, .int 3, .int 2]
def postTg : List Dt → Dt → Prop := fun ds d => ∃ ss ns, d = .tup [.nms ss, .nms ns] ∧ TlOk ss ns
abbrev SpTg (K : PySem.W.Frag) (C : Addr) : Sp := SpQ K C 70 preTg postTg
theorem sc35 : FnScope ["_law_pool_here", "_law_many", "_law_numbers", "_law_size_here", "_law_names_here"] ["_law_pool_here", "_law_many", "_law_numbers"] (defScope (top 35)) := ⟨rfl, rfl, rfl, by decide +kernel, rfl, by decide +kernel, by decide +kernel⟩
theorem nms_of {xs ys : List PySem.Str} (hp : ys.Perm xs) (hs : sortedS ys = true) (hn : xs.Nodup) (ok : ∀ s ∈ xs, NmOk s) : NmsOk ys :=
  ⟨fun s h => ok s (hp.mem_iff.mp h), sorted_up hs (hp.nodup_iff.mpr hn)⟩
theorem ok_tongue (g : Bi mg) (F : FnP K "_law_tongue" 35 f fd) (Tk : HasF P w K mg base 1 "_law_take" ["_law_pool_here", "_law_many"] (SpTk K C)) (Na : HasF P w K mg base 2 "_law_names" ["_law_pool_here", "_law_many"] (SpNm K C)) :
    FnOk P w K mg base CX0 3 f fd ["_law_pool_here", "_law_many", "_law_numbers"] (SpTg K C) := by
  refine fnd_ok F sc35 (fun _ _ ⟨_, _, h⟩ => h ▸ rfl) fun cdv A outer s H E hr q ds n B0 H0 D hp hn S hR hN => ?_
  obtain ⟨p, rfl, rfl⟩ := hp
  have hr1 := hr.mono (j := 1) (by decide)
  refine sg_set (k := 1) S 3 rok0 (ei_takeC Tk hr1 (ed_var 0 rfl) (ed_add (ed_var 1 rfl) ed_int) (by decide) (by decide)) (by omega) (fun d ⟨z, e, z0, z1⟩ => ?_)
  subst e
  obtain ⟨a, rfl⟩ : ∃ a : Nat, z = (a : Int) := ⟨z.toNat, (Int.toNat_of_nonneg z0).symm⟩
  have ha : a ≤ 3 := by omega
  refine sg_set (k := 1 + 60) S 4 rok0 (em_callF (k := 1) (PA1 := fun ds => ∃ M : Nat, ds = [.cell p, .int (M : Int)] ∧ a ≤ M ∧ M ≤ a + 2) (P := fun d => ∃ ns : List PySem.Str, d = .lst (ns.map Dt.str) ∧ a ≤ ns.length ∧ ns.length ≤ a + 2 ∧ ns.Nodup ∧ ∀ s ∈ ns, NmOk s) Na hr (AM.imp (am_d (ed_var 0 rfl) (am_1 (ei_add (k1 := 0) (k2 := 1) (ei_of (ed_var 3 rfl)) (ei_takeC Tk hr1 (ed_var 0 rfl) (ed_add (ed_var 2 rfl) ed_int) (by decide) (by decide))))) ?_) ?_ ?_) (by omega) (fun d ⟨ns, e, l1, l2, nd, ok⟩ => ?_)
  · rintro ds ⟨r, e1, d, e2, i, e3, x, y, e4, ⟨y0, y1⟩, e5⟩
    subst e1 e2 e3 e4 e5
    refine ⟨a + y.toNat, ?_, by omega, by omega⟩
    rw [Int.natCast_add, Int.toNat_of_nonneg y0]
  · rintro ds ⟨M, e, m1, m2⟩
    exact ⟨p, M, rfl, e, by omega⟩
  · rintro ds d ⟨M, e, m1, m2⟩ h
    obtain ⟨ns, h1, h2, h3, h4⟩ := h p M e
    exact ⟨ns, h1, by omega, by omega, h3, h4⟩
  · subst e
    have e1 : cutG (ns.map Dt.str) none (some (a : Int)) = (ns.take a).map Dt.str := by rw [cut_to, List.map_take]
    have e2 : cutG (ns.map Dt.str) (some (a : Int)) none = (ns.drop a).map Dt.str := by rw [cut_from, List.map_drop]
    refine sg_ret (k := 0) S rok0 (em_tup (am_cons (k1 := 0) (k2 := 0) (em_tupleN g.tuple (em_sortedS (ns := ns.take a) g.sorted ?_ (ED.to (ed_sliceL (ed_var 4 rfl) .none (.some (ed_var 3 rfl))) (congrArg Dt.lst e1)))) (am_1 (em_tupleN g.tuple (em_sortedS (ns := ns.drop a) g.sorted ?_ (ED.to (ed_sliceL (ed_var 4 rfl) (.some (ed_var 3 rfl)) .none) (congrArg Dt.lst e2)))))) ?_) (by omega) (hR.imp ?_)
    · rw [List.length_take]; omega
    · rw [List.length_drop]; omega
    · rintro ds ⟨d, r, h1, _, d2, h2, _⟩
      subst h1 h2
      exact Nat.le_of_ble_eq_true rfl
    · rintro d ⟨ds, e0, d1, r, h1, ⟨xs, h2, p1, s1⟩, d2, h3, ys, h4, p2, s2⟩
      subst e0 h1 h2 h3 h4
      have hnd := nd
      rw [← List.take_append_drop a ns] at hnd
      obtain ⟨n1, n2, n3⟩ := List.nodup_append.mp hnd
      refine ⟨xs, ys, rfl, nms_of p1 s1 n1 (fun s h => ok s (List.mem_of_mem_take h)), nms_of p2 s2 n2 (fun s h => ok s (List.mem_of_mem_drop h)), ?_, ?_, fun x hx hx2 => ?_⟩
      · rw [p1.length_eq, List.length_take]; omega
      · rw [p2.length_eq, List.length_drop]; omega
      · exact n3 x (p1.mem_iff.mp hx2) x (p2.mem_iff.mp hx) rfl
end
end Cf

/-! Fn20: the pool, the folded script. -/
namespace Cf
open PySem PySem.Spec PyProof.Rows L2

/-! ### a slice with a step, of whole numbers -/
theorem ints_pick {its : List Value} {ns : List Int} (h : Vals (ns.map V.int) its) : ∀ idx : List Nat, ∃ ms : List Int, Vals (ms.map V.int) (idx.filterMap (its.toArray[·]?))
  | [] => ⟨[], .nil⟩
  | i :: idx => by
    obtain ⟨ms, hm⟩ := ints_pick h idx
    rw [List.filterMap_cons]
    cases e : its.toArray[i]? with
    | none => exact ⟨ms, hm⟩
    | some u =>
      have e2 : its[i]? = some u := by rw [← e]; simp
      have hl : i < ns.length := by
        have h1 := h.length
        have h2 := (List.getElem?_eq_some_iff.mp e2).1
        rw [List.length_map] at h1
        omega
      obtain ⟨u', f1, f2⟩ := h.get (i := i) (x := .int ns[i]) (by rw [List.getElem?_map, List.getElem?_eq_getElem hl]; rfl)
      rw [e2] at f1
      cases f1
      exact ⟨ns[i] :: ms, .cons f2 hm⟩
def SlR3 (X : Cx) (r : V → Int → Int → Int → Hp → VK → Prop) : Prop :=
  ∀ (pins : List (Addr × Obj)) (s : Shared) (σ : L2.St) (H : Hp) (x : V) (v vl vu vs : Value) (lo hi st : Int) (sl : Addr) (Q : VK), Inv X pins σ H s → RelV x v → s.heap.IsSliceOf sl vl vu vs → IsPart vl (some lo) → IsPart vu (some hi) → IsPart vs (some st) → r x lo hi st H Q →
    ∃ T id, typeLookup (.type T) "__getitem__" = pure (some (.builtin id)) ∧ s.TypeIs v T ∧ wpAny (model X.prog X.w) X.A (getItem v (.ref sl)) (EP X pins σ Q) X.xe s
def tSl3 (r : V → Int → Int → Int → Hp → VK → Prop) (te tl th ts : TE) : TE := fun σ H Q => te σ H fun x H1 => tl σ H1 fun l H2 => th σ H2 fun u H3 => ts σ H3 fun t H4 => ∃ i j k, l = .int i ∧ u = .int j ∧ t = .int k ∧ r x i j k H4 Q
theorem pe_slice3 {X : Cx} {e lo hi st : Expr} {te tl th ts : TE} {pos p2 : Pos} {r : V → Int → Int → Int → Hp → VK → Prop} (hr : SlR3 X r) (he : PE X e te) (hl : PE X lo tl) (hu : PE X hi th) (hs : PE X st ts) : PE X (.Subscript e (.Slice (some lo) (some hi) (some st) p2) pos) (tSl3 r te tl th ts) := by
  refine ⟨fun pins s σ H Q I h => ?_⟩
  refine Subscript_ (thn (he.run pins s σ H _ I h) fun v s1 ⟨x, H1, I1, r1, q1⟩ => ?_)
  refine wpAny_Slice ?_
  rw [evalPart_some]
  refine thn (hl.run pins s1 σ H1 _ I1 q1) fun vl s2 ⟨l, H2, I2, pl, q2⟩ => ?_
  rw [evalPart_some]
  refine thn (hu.run pins s2 σ H2 _ I2 q2) fun vu s3 ⟨u, H3, I3, pu, q3⟩ => ?_
  rw [evalPart_some]
  refine thn (hs.run pins s3 σ H3 _ I3 q3) fun vs s4 ⟨t, H4, I4, pt, q4⟩ => ?_
  obtain ⟨i, j, k, e1, e2, e3, q5⟩ := q4
  subst e1 e2 e3
  obtain ⟨t1, rfl⟩ := pl
  obtain ⟨t2, rfl⟩ := pu
  obtain ⟨t3, rfl⟩ := pt
  have I5 : Inv X pins σ H4 { s4 with heap := s4.heap.push { cls := .type "slice", data := .fields #[.int i t1, .int j t2, .int k t3] } } := I4.kept (t' := s4.toks) fun b ob q => Heap.get?_push_of_some _ q
  obtain ⟨T, id, hT, ht, hg⟩ := hr pins { s4 with heap := s4.heap.push { cls := .type "slice", data := .fields #[.int i t1, .int j t2, .int k t3] } } σ H4 x v (.int i t1) (.int j t2) (.int k t3) i j k s4.heap.objs.size Q I5 r1 (Heap.IsSliceOf.new ..) (.int i t1) (.int j t2) (.int k t3) q5
  show wpAny (model X.prog X.w) X.A (subscriptTail e (.Slice (some lo) (some hi) (some st) p2) v (.ref s4.heap.objs.size)) (EP X pins σ Q) X.xe { s4 with heap := s4.heap.push { cls := .type "slice", data := .fields #[.int i t1, .int j t2, .int k t3] } }
  exact tail_any (ops := [v, .ref s4.heap.objs.size]) ht hT hg (by with_unfolding_all rfl)
def rSl3 (K : PySem.W.Frag) : V → Int → Int → Int → Hp → VK → Prop := fun x _ _ st H Q => st ≠ 0 ∧ ∃ (a : Addr) (ns : List Int), x = .ref a ∧ SqL K H a (ns.map V.int) ∧ ∀ (p : Addr) (ms : List Int), H p = none → Q (.ref p) (upd H p (.lst (ms.map V.int)))
theorem sl3_ints {X : Cx} : SlR3 X (rSl3 X.K) := by
  intro pins s σ H x v vl vu vs lo hi st sl Q I rx hs pl pu ps h
  obtain ⟨h0, a, ns, rfl, hx, q⟩ := h
  cases rx
  obtain ⟨its, r, ht, hz⟩ := I.list hx
  have hlen := r.length
  have hit : its.toArray.size ≤ sizeLine := by
    have : its.toArray.size = its.length := by simp
    rw [this]
    omega
  refine ⟨"list", _, slot_list_getitem.lookup, ht.isList.typeIs, ?_⟩
  refine wpAny_getItem_list_slice ht.isList hs pl pu ps (fun e => h0 (Option.some.inj e)) ?_ hit
  have hsz := slicePick_size_le its.toArray (some lo) (some hi) (some st)
  unfold slicePick at hsz ⊢
  obtain ⟨ms, hm⟩ := ints_pick r (sliceRange (sliceBounds (some lo) (some hi) (some st) its.toArray.size).1 (sliceBounds (some lo) (some hi) (some st) its.toArray.size).2.1 (sliceBounds (some lo) (some hi) (some st) its.toArray.size).2.2)
  refine ⟨.ref s.heap.objs.size, _, I.laid (t' := s.toks) (o := .lst (ms.map V.int)) (fun b ob q => Heap.get?_push_of_some _ q) (Nat.le_refl _) ?_, rfl, q _ ms (I.hok.fresh (Nat.le_refl _))⟩
  have hml := hm.length
  rw [List.size_toArray] at hsz
  exact ⟨by omega, _, 0, hm, Heap.get?_push_size _ rfl⟩
section
variable {X : Cx} {C : Addr} {q : Option Addr} {k : Nat} {env : En} {cs : Cs} {a b c e : Expr} {pos p2 p : Pos} {ns : List Int} {l u t : Int}
theorem em_sliceStep (ha : ED X C q a env cs (.scr ns)) (hl : ED X C q b env cs (.int l)) (hu : ED X C q c env cs (.int u)) (hs : ED X C q e env cs (.int t)) (h0 : t ≠ 0) :
    EM X C q 0 (.Subscript a (.Slice (some b) (some c) (some e) p2) pos) env cs (fun d => ∃ ms : List Int, d = .lst (ms.map Dt.int)) := fun n B σ H cf hn Q hQ =>
  wpE_of (pe_slice3 sl3_ints wpE_pe wpE_pe wpE_pe wpE_pe) (ha n B σ H cf hn _ fun v d1 B1 H1 e1 de1 o1 => hl n B1 σ H1 (cf.after o1) hn _ fun v2 d2 B2 H2 e2 de2 o2 => hu n B2 σ H2 ((cf.after o1).after o2) hn _ fun v3 d3 B3 H3 e3 de3 o3 =>
    hs n B3 σ H3 (((cf.after o1).after o2).after o3) hn _ fun v4 d4 B4 H4 e4 de4 o4 => by
      subst e1 e2 e3 e4
      obtain ⟨r, e5, s5⟩ := De.mono (o2.nw.ex.trans (o3.nw.ex.trans o4.nw.ex)) _ v de1
      have oo := ((o1.trans o2).trans o3).trans o4
      exact ⟨_, _, _, de2, de3, de4, h0, r, ns, e5, oo.ex.l s5, fun pp ms hp => hQ _ (.lst (ms.map Dt.int)) (upd B4 pp (.lst (ms.map V.int))) _ ⟨ms, rfl⟩ (de_newL (oo.ex.none hp) (DeAll.of_ints ms)) (oo.trans (oo.bs.newB hp))⟩)
/-- the sum of whole numbers that are not told -/
theorem em_sumM (hc : X.calm = true) (hm : X.mg "sum" = none) (ha : EM X C q k e env cs (fun d => ∃ ms : List Int, d = .lst (ms.map Dt.int))) (hg : Gl X "sum" := by rfl) (he : starEach [e] X.env = (false, eval e X.env) :: starEach [] X.env := by rfl) :
    EM X C q k (.Call (.Name "sum" p) [e] [] pos) env cs (fun d => ∃ i : Int, d = .int i) :=
  em_callB (cr_sum hc) hm (by decide +kernel) (am_1 ha he) (fun ds ⟨d, h1, ms, h2⟩ => by
    subst h1 h2
    exact fun n B H xs Q b h hf => cc_sum n B H xs Q b h (fun v d B2 H2 e => hf v d B2 H2 ⟨_, e⟩)) hg (by decide) (by decide) he rfl
end
section
variable {P : Program} {w : World} {K : PySem.W.Frag} {mg : PySem.Str → Option Value} {base : Heap} {C : Addr} {f : Addr} {fd : FuncData}
def preFo : Option Addr → List Dt → Prop := fun _ ds => ∃ ns : List Int, ds = [.scr ns, .int 4]
def postFo : List Dt → Dt → Prop := fun _ d => ∃ ms : List Int, d = .lst (ms.map Dt.int) ∧ ms.length ≤ 4
abbrev SpFo (K : PySem.W.Frag) (C : Addr) : Sp := SpQ K C 0 preFo postFo
theorem sc33 : FnScope ["_law_script", "_law_top", "_law_k"] ["_law_script", "_law_top"] (defScope (top 33)) := ⟨rfl, rfl, rfl, by decide +kernel, rfl, by decide +kernel, by decide +kernel⟩
theorem ok_folded (g : Bi mg) (F : FnP K "_law_folded" 33 f fd) : FnOk P w K mg base CX0 1 f fd ["_law_script", "_law_top"] (SpFo K C) := by
  refine fnd_ok F sc33 (fun _ _ ⟨_, h⟩ => h ▸ rfl) fun cdv A outer s H E hr q ds n B0 H0 D hp hn S hR hN => ?_
  obtain ⟨ns, rfl⟩ := hp
  refine sg_ret (k := 0) S rok0 ((lc_EN (own := [("_law_k", 2)]) (lr_lcM (k0 := 0) (M := 4) (k1 := 0) (k2 := 0) (PX := fun xs => ∃ i : Int, (1 ≤ i ∧ i ≤ 4) ∧ xs = rngD i.toNat) (sl := [2]) (gs := fun xs j => [xs.getD j .non]) (Pt := fun _ b => b = true) (Pe := fun j d => ∃ i : Int, d = .int i)
        (im_range g.range (EI.to (ei_of (ed_max2 S.calm g.max ed_int (ed_min2 S.calm g.min (ed_var 1 rfl) (ed_len g.len (ed_var 0 rfl) rfl)))) (fun i e => ?_)) ?_) (by decide) ?_ (by decide) (fun xs _ Y hY j x hx => ?_) (fun xs _ Y hY j x hx => ts_nil) (fun xs px Y hY j x hx _ => ?_)) S.calm S.nd (blkOk_by (by kernel_rfl))).em) (by omega) (hR.imp ?_)
  · subst e
    split <;> split <;> omega
  · intro i h
    omega
  · rintro xs ⟨i, h, e⟩
    subst e
    rw [rngD_len]
    omega
  · obtain ⟨s', H', A', cl, fp, rfl⟩ := hY
    have e : xs.getD j .non = x := by rw [List.getD_eq_getElem?_getD, hx]; rfl
    rw [e]
    exact gd_name S.nd
  · obtain ⟨s', H', A', cl, fp, rfl⟩ := hY
    obtain ⟨i, h, e⟩ := px
    subst e
    have e : (rngD i.toNat).getD j .non = x := by rw [List.getD_eq_getElem?_getD, hx]; rfl
    rw [e, (rngD_get hx).2]
    exact em_sumM S.calm g.sum (em_sliceStep (ed_var 0 rfl) (ed_var 2 rfl) ed_int (ed_var 1 rfl) (by decide))
  · rintro d ⟨ds, e, xs, ⟨i, h, e2⟩, sel⟩
    obtain ⟨ms, e3, _⟩ := ints_of (R := fun _ => True) (Sel.all (R := fun d => ∃ i : Int, d = .int i ∧ True) (fun i d ⟨z, h⟩ => ⟨z, h, trivial⟩) sel)
    have hl := sel.len_eq
    subst e2 e3
    rw [List.length_map, rngD_len] at hl
    exact ⟨ms, e, by omega⟩
/-! ### a new list given back -/
def RtN (X : Cx) (C : Addr) (q r : Option Addr) (B0 H0 : Hp) (N : Nat) (PL : List Dt → Prop) (D : Ends) : Prop := ∀ p vs ds n B H, PL ds → H p = some (.lst vs) → B p = none → H0 p = none → q ≠ some p → DeAll X.K C B ds vs → n ≤ N → Ex B H → Kp r B0 H0 B H → Pq q n B H → D.rt (.ref p) H
theorem sg_retN {X : Cx} {q r : Option Addr} {B0 H0 Bm : Hp} {N n k : Nat} {env : En} {cs : Cs} {rest : List Stmt} {D : Ends} {e : Expr} {pos : Pos} {PL : List Dt → Prop} (S : SOk X q r N) (hr : Rok q r cs) (he : EN X C q k e env cs PL) (hn : n + k ≤ N) (hD : RtN X C q r B0 H0 N PL D) :
    SG X C q r B0 H0 N Bm n env cs (.Return (some e) pos :: rest) D :=
  sg_st (ps_ret wpE_pe) fun σ H ⟨h1, B, cf, kp, co, em⟩ => he n B σ H cf (Nat.le_trans hn S.lim) _ fun p vs ds B2 H2 p1 e1 e2 e3 e4 e5 o =>
    hD p vs ds _ B2 H2 p1 e1 e2 (by
      cases z : H0 p with
      | none => rfl
      | some u => exact absurd e3 (kp.kept (hr.there cf) p (by rw [z]; exact fun y => by cases y))) e4 e5 hn o.ex (kp.out S (hr.there cf) o) o.pl
def SpNw (K : PySem.W.Frag) (C : Addr) (k : Nat) (pre : Option Addr → List Dt → Prop) (PL : List Dt → Prop) : Sp := fun vs H Q _ =>
  ∃ ds B q n, DeAll K C B ds vs ∧ Bs q n B H ∧ n + k ≤ LIM ∧ pre q ds ∧ ∀ p vs' ds' B2 H2, PL ds' → H2 p = some (.lst vs') → B2 p = none → H p = none → q ≠ some p → DeAll K C B2 ds' vs' → Out q (n + k) B H B2 H2 → Q (.ref p) H2
theorem fnd_okN {x qual : PySem.Str} {params : Arguments} {body : List Stmt} {scope : Scope} {dvs : List V} {kws : List (PySem.Str × V)} {N ps : List PySem.Str} {lv kk : Nat} {pre : Option Addr → List Dt → Prop} {PL : List Dt → Prop}
    (F : FunD K x qual params body scope dvs kws f fd) (S : FnScope N ps scope) (hl : ∀ q ds, pre q ds → ds.length = ps.length)
    (hb : ∀ (cdv : Value) (A : Around) (outer : List Env) (s : Shared) (H : Hp) (E : XK), Room lv (A.deeper (envOfC qual scope s.heap.objs.size f cdv)) → ∀ (q : Option Addr) (ds : List Dt) (n : Nat) (B0 H0 : Hp) (D : Ends), pre q ds → n + kk ≤ LIM → SOk (bX P w K mg base N qual scope f cdv A outer s H E) q q (n + kk) →
      RtN (bX P w K mg base N qual scope f cdv A outer s H E) C q q B0 H0 (n + kk) PL D → 
      SG (bX P w K mg base N qual scope f cdv A outer s H E) C q q B0 H0 (n + kk) B0 n (ds.map some ++ List.replicate (N.length - ps.length) none) none body D) :
    FnOk P w K mg base CX0 (lv + 1) f fd ps (SpNw K C kk pre PL) := by
  refine F.ok S (fun vs H Q E h => ?_) fun cdv A outer s H vs Q E hr h => ?_
  · obtain ⟨ds, B, q, n, h1, _, _, h2, _⟩ := h
    exact h1.length.trans (hl q ds h2)
  · obtain ⟨ds, B, q, n, h1, h2, h3, h4, h5⟩ := h
    have hlen := hl q ds h4
    refine ⟨wpB (bX P w K mg base N qual scope f cdv A outer s H E) body, PSs.nox wpB_pss, hb cdv A outer s H E hr q ds n B H _ h4 h3 ⟨.inr rfl, h3, rfl, S.nd⟩ ?_ _ H ⟨Nat.le_add_right _ _, B, ⟨?_, h2.ex, h2.pl, fun _ _ z => (by cases z)⟩, ⟨Nw.refl _ _, ExO.refl _ _⟩, fun _ _ z => (by cases z), Ex.refl _⟩⟩
    · exact fun p vs' ds' m B2 H2 p1 e1 e2 e3 e4 e5 hm ex kp pl => h5 p vs' ds' B2 H2 p1 e1 e2 e3 e4 e5 ⟨kp.nw, ex, kp.eo, pl.up hm h3⟩
    · unfold L2.start
      rw [h1.length, hlen]
      exact Sg.start h1
def prePo : Option Addr → List Dt → Prop := fun _ ds => ∃ (ns : List Int) (k : Nat), ds = [.lst (ns.map Dt.int), .int (k : Int)] ∧ k < ns.length ∧ ns.length ≤ 4
def poolL : List Dt → Prop := fun ds => ∃ a b c : Int, ds = [.int a, .int b, .int c] ∧ (0 ≤ b ∧ b < 1000000007) ∧ (0 ≤ c ∧ c ≤ 32000)
abbrev SpPo (K : PySem.W.Frag) (C : Addr) : Sp := SpNw K C 0 prePo poolL
theorem sc31 : FnScope ["_law_script", "_law_k", "_law_cell"] ["_law_script", "_law_k"] (defScope (top 31)) := ⟨rfl, rfl, rfl, by decide +kernel, rfl, by decide +kernel, by decide +kernel⟩
theorem ok_pool (g : Bi mg) (F : FnP K "_law_pool" 31 f fd) : FnOk P w K mg base CX0 1 f fd ["_law_script", "_law_k"] (SpPo K C) := by
  refine fnd_okN F sc31 (fun _ _ ⟨_, _, h, _⟩ => h ▸ rfl) fun cdv A outer s H E hr q ds n B0 H0 D hp hn S hR => ?_
  obtain ⟨ns, k, rfl, hk, hl⟩ := hp
  refine sg_setD S 2 rok0 ed_int (sg_T S rok0 (td_lt (ed_var 1 rfl) (ed_len g.len (ed_var 0 rfl) rfl)) (sg_setD (d := .int ns[k]) S 2 rok0 (ed_item (ed_var 0 rfl) (ed_var 1 rfl) rfl (atI_nat (by rw [List.getElem?_map, List.getElem?_eq_getElem hk]; rfl))) (sg_back ?_)) ?_)
  · refine sg_retN S rok0 ((en_lst (k := 0) (ad_cons (ed_max2 S.calm g.max ed_int (ed_sub (ed_var 2 rfl) (ed_pow ?_ ed_int ed_int))) (ad_cons (ed_mod ?_ (ed_var 2 rfl) ed_int) (ad_cons (ed_add (ed_mul ?_ ed_int (ed_var 1 rfl)) ed_int) ad_nil))) (fun ds e => e ▸ Nat.le_of_ble_eq_true rfl)).imp fun ds e => ?_) (by omega) hR
    · exact ⟨by decide, by decide, by decide⟩
    · decide
    · exact .inl ⟨by decide, by decide⟩
    · refine ⟨_, _, _, e, ⟨Int.emod_nonneg _ (by decide), Int.emod_lt_of_pos _ (by decide)⟩, by omega, by omega⟩
  · rw [List.length_map]
    exact decide_eq_true (by omega)
end
end Cf

/-! Fn21: a talk made. -/
namespace Cf
open PySem PySem.Spec PyProof.Rows L2
def SpInit (K : PySem.W.Frag) (C : Addr) : Sp := fun vs H Q _ => ∃ ss ns tp x a b dx B q n, vs = [.ref x, .ref a, .ref b, .int tp] ∧ NmsAt B a ss ∧ NmsAt B b ns ∧ TlOk ss ns ∧ 1 ≤ tp ∧ H x = some (.ins C dx []) ∧ B x = none ∧ Bs q n B H ∧ n ≤ LIM ∧
  ∀ B1 H1 a' b', Nw B H B1 → ExO q H H1 → Ex B1 H1 → Pq q n B1 H1 → B1 x = none → NmsAt B1 a' ss → NmsAt B1 b' ns → Q .non (upd H1 x (.ins C dx (tlkFs a' b' tp)))
theorem upd_upd {H : Hp} {x : Addr} {o o' : HO} : upd (upd H x o) x o' = upd H x o' := by
  funext y
  by_cases e : y = x
  · subst e; rw [upd_same, upd_same]
  · rw [upd_ne e, upd_ne e, upd_ne e]
section
variable {P : Program} {w : World} {K : PySem.W.Frag} {mg : PySem.Str → Option Value} {base : Heap} {C : Addr} {f : Addr} {fd : FuncData} {v1 v2 : V}
abbrev FnI (K : PySem.W.Frag) (v1 v2 : V) (f : Addr) (fd : FuncData) : Prop := FunD K "__init__" "Talk.__init__" (defArgs (met 0)) (defBody (met 0)) (defScope (met 0)) [v1, v2] [("most", .int 12)] f fd
theorem scM0 : FnScope ["self", "sets", "numbers", "most", "name"] ["self", "sets", "numbers", "most"] (defScope (met 0)) := ⟨rfl, rfl, rfl, by decide +kernel, rfl, by decide +kernel, by decide +kernel⟩
abbrev SpAre (K : PySem.W.Frag) (C : Addr) : Sp := SpQ K C 0 preNames (fun _ d => d = .bl true)
theorem any_none {ss ns : List PySem.Str} (h : ∀ x ∈ ns, x ∉ ss) : (ns.map fun x => decide (x ∈ ss)).any id = false := by
  rw [List.any_eq_false]
  intro b hb
  obtain ⟨x, hx, rfl⟩ := List.mem_map.mp hb
  have := h x hx
  simpa using this
theorem ok_init (g : Bi mg) (tk : TlK K C) (m3 : ∃ t, mg "MOST_SETS" = some (.int 3 t)) (m2 : ∃ t, mg "MOST_NUMBERS" = some (.int 2 t)) (F : FnI K v1 v2 f fd) (An : HasF P w K mg base 2 "are_names" ["thing", "many"] (SpAre K C)) (W : HasW P w K mg base C 1) :
    FnOk P w K mg base CX0 3 f fd ["self", "sets", "numbers", "most"] (SpInit K C) := by
  refine F.ok scM0 (fun vs H Q E h => ?_) fun cdv A outer s H vs Q E hr h => ?_
  · obtain ⟨_, _, _, _, _, _, _, _, _, _, h, _⟩ := h
    rw [h]; rfl
  · obtain ⟨ss, ns, tp, x, a, b, dx, B, q, n, rfl, na, nb, ok, tp1, hx, hBx, bs, hn, hQ⟩ := h
    have hr1 := hr.mono (j := 1) (by decide)
    have S : SOk (bX P w K mg base ["self", "sets", "numbers", "most", "name"] "Talk.__init__" (defScope (met 0)) f cdv A outer s H E) q q (n + 0) := ⟨.inr rfl, hn, rfl, scM0.nd⟩
    refine ⟨wpB (bX P w K mg base ["self", "sets", "numbers", "most", "name"] "Talk.__init__" (defScope (met 0)) f cdv A outer s H E) (defBody (met 0)), PSs.nox wpB_pss, ?_⟩
    have main : SG (bX P w K mg base ["self", "sets", "numbers", "most", "name"] "Talk.__init__" (defScope (met 0)) f cdv A outer s H E) C q q B H (n + 0) B n [some (.cell x), some (.nms ss), some (.nms ns), some (.int tp), none] none (defBody (met 0)) { nx := fun _ H' => Q .non H', rt := Q } := by
      refine sg_no S rok0 (td_w (wd_orF (td_not (td_val (i1 := true) (ED.to (ed_callF (g := fun _ => .bl true) An hr (ad_cons (ed_var 1 rfl) (ad_cons (ed_globI m3) ad_nil)) ⟨ss, 3, rfl, ok.s, by have := ok.hs; omega, by have := ok.hs; omega⟩) rfl)))
        (wd_or1 (td_not (td_val (i1 := true) (ED.to (ed_callF (g := fun _ => .bl true) An hr (ad_cons (ed_var 2 rfl) (ad_cons (ed_globI m2) ad_nil)) ⟨ns, 2, rfl, ok.n, by have := ok.hn; omega, by have := ok.hn; omega⟩) rfl)))))) ?_
      refine sg_no S rok0 (td_w (wd_orF (i := false) (td_val (i1 := (ns.map fun x => decide (x ∈ ss)).any id) (ed_any (ns := ns.map fun x => decide (x ∈ ss)) S.calm g.any (ED.to (ed_lcM (F := fun d => match d with | .str x => .bl (decide (x ∈ ss)) | _ => .non) (G := fun d => [d]) (sl := [4]) (own := [("name", 4)]) S.calm S.nd (blkOk_by (by kernel_rfl)) (id_nms (ed_var 2 rfl)) (by decide) ?_ (fun Y hY c hc => ?_) (fun Y hY c hc => ?_)) ?_)))
        (wd_or1 (td_not (td_val (i1 := true) (ED.to (ed_whole1 W hr1 (ed_var 3 rfl) ed_int) ?_)))) (any_none ok.dj))) ?_
      · rw [List.length_map]
        have := ok.hn
        omega
      · obtain ⟨s', H', A', cl, fp, rfl⟩ := hY
        exact gd_name S.nd
      · obtain ⟨s', H', A', cl, fp, rfl⟩ := hY
        obtain ⟨z, _, rfl⟩ := List.mem_map.mp hc
        exact ed_inS (ed_var 4 rfl) (ed_var 1 rfl) rfl
      · rw [List.map_map, List.map_map]
        rfl
      · rw [decide_eq_true tp1]
        rfl
      · intro σ H1 ⟨h1, B1, cf, kp, co, em⟩
        obtain ⟨u0, s0, d0⟩ := cf.sg.get (i := 0) rfl
        obtain ⟨u1, s1, d1⟩ := cf.sg.get (i := 1) rfl
        obtain ⟨u2, s2, d2⟩ := cf.sg.get (i := 2) rfl
        obtain ⟨u3, s3, d3⟩ := cf.sg.get (i := 3) rfl
        have hx1 : H1 x = some (.ins C dx []) := kp.eo x _ (fun e => by
          obtain ⟨_, _, _, _, e2, _⟩ := bs.pl.2 x e
          rw [hx] at e2
          cases e2) hx
        obtain ⟨a', e1, f1⟩ := d1
        obtain ⟨b', e2, f2⟩ := d2
        have e0 : u0 = V.ref x := d0
        have e3 : u3 = V.int tp := d3
        subst e0 e1 e2 e3
        refine wpB_of (pss_cons (ps_fld (pe_var (i := 0) rfl (by first | exact Or.inl rfl | exact Or.inr (Or.inl rfl) | exact Or.inr (Or.inr rfl))) (pe_var (i := 1) rfl (by first | exact Or.inl rfl | exact Or.inr (Or.inl rfl) | exact Or.inr (Or.inr rfl))) rfl) (pss_cons (ps_fld (pe_var (i := 0) rfl (by first | exact Or.inl rfl | exact Or.inr (Or.inl rfl) | exact Or.inr (Or.inr rfl))) (pe_var (i := 2) rfl (by first | exact Or.inl rfl | exact Or.inr (Or.inl rfl) | exact Or.inr (Or.inr rfl))) rfl) (pss_one (ps_fld (pe_var (i := 0) rfl (by first | exact Or.inl rfl | exact Or.inr (Or.inl rfl) | exact Or.inr (Or.inr rfl))) (pe_var (i := 3) rfl (by first | exact Or.inl rfl | exact Or.inr (Or.inl rfl) | exact Or.inr (Or.inr rfl))) rfl)))) ?_
        refine ⟨_, s1, _, s0, x, C, dx, [], rfl, hx1, tk.cls, tk.ss, Nat.le_of_ble_eq_true rfl, ?_⟩
        refine ⟨_, s2, _, s0, x, C, dx, _, rfl, upd_same, tk.cls, tk.ns, Nat.le_of_ble_eq_true rfl, ?_⟩
        refine ⟨_, s3, _, s0, x, C, dx, _, rfl, upd_same, tk.cls, tk.tp, Nat.le_of_ble_eq_true rfl, ?_⟩
        show Q .non (upd (upd (upd H1 x _) x _) x _)
        rw [upd_upd, upd_upd]
        exact hQ B1 H1 a' b' kp.nw kp.eo cf.ex cf.pl (kp.nw.new x (by rw [hx]; exact fun z => by cases z) hBx) f1 f2
    refine main _ H ⟨Nat.le_refl _, B, ⟨?_, bs.ex, bs.pl, fun _ _ z => (by cases z)⟩, ⟨Nw.refl _ _, ExO.refl _ _⟩, fun _ _ z => (by cases z), Ex.refl _⟩
    exact Sg.start (ds := [.cell x, .nms ss, .nms ns, .int tp]) (m := 1) ⟨_, _, rfl, rfl, _, _, rfl, ⟨a, rfl, na⟩, _, _, rfl, ⟨b, rfl, nb⟩, _, _, rfl, rfl, rfl⟩
theorem kbI (F : FnI K v1 v2 f fd) : ∃ its : List Value, KBn K fd ["self", "sets", "numbers", "most"] 3 ["most"] (fun us ws => us ++ ws) (fun vs zs => vs ++ zs) := by
  obtain ⟨its, h⟩ := F.kbindsD (ps := ["self", "sets", "numbers", "most"]) 3 ["most"] (fun us its ws => us ++ ws) (fun z => nomatch z) (fun h1 _ h2 => h1.append h2) (fun T kV doc pm an cdv ct us its ws h1 h2 h3 => match us, its, ws, h1, h2, h3 with | [_, _, _], [_, _], [_], _, _, _ => ⟨_, rfl, rfl⟩)
  exact ⟨its, h⟩
def HasI (P : Program) (w : World) (K : PySem.W.Frag) (mg : PySem.Str → Option Value) (base : Heap) (C : Addr) (lv : Nat) : Prop := mg "Talk" = some (.ref C) ∧ ∃ v1 v2 f fd, Mk K C f ∧ FnI K v1 v2 f fd ∧ FnOk P w K mg base CX0 lv f fd ["self", "sets", "numbers", "most"] (SpInit K C)
end
section
variable {X : Cx} {C : Addr} {q : Option Addr} {env : En} {cs : Cs} {a b c : Expr} {p pos k1 : Pos} {lv : Nat} {ss ns : List PySem.Str} {tp : Int}
theorem ed_talk (h : HasI X.prog X.w X.K X.mg X.base C lv) (hr : Room (lv + 1) X.A) (ha : ED X C q a env cs (.nms ss)) (hb : ED X C q b env cs (.nms ns)) (hc : ED X C q c env cs (.int tp)) (ok : TlOk ss ns) (htp : 1 ≤ tp) (hg : Gl X "Talk" := by rfl)
    (hall : (backToKw pos (keywordEach [⟨some "most", c, k1⟩] X.env)).all (·.1.isSome) = true := by rfl) (hks : (backToKw pos (keywordEach [⟨some "most", c, k1⟩] X.env)).filterMap (·.1) = (["most"] : List PySem.Str) := by rfl)
    (hs : starEach [a, b] X.env = (false, eval a X.env) :: starEach [b] X.env := by rfl) (hs2 : starEach [b] X.env = (false, eval b X.env) :: starEach [] X.env := by rfl) (hpl : ((backTo pos (starEach [a, b] X.env)).any (·.1) || (backToKw pos (keywordEach [⟨some "most", c, k1⟩] X.env)).any (·.1.isNone)) = false := by rfl) :
    ED X C q (.Call (.Name "Talk" p) [a, b] [⟨some "most", c, k1⟩] pos) env cs (.tlk ss ns tp) := fun n B σ H cf hn Q hQ => by
  obtain ⟨hm, v1, v2, f, fd, M, F, OK⟩ := h
  obtain ⟨its, kb⟩ := kbI F
  refine wpE_of (pe_makeN M OK hr hg hm kb (pass0 (X := X)) wpA_pa wpK_pk hall hks (by decide) hs hpl) ((ad_cons ha (ad_cons hb ad_nil hs2) hs) n B σ H cf hn _ fun vs ds B1 H1 e1 d1 o1 => (kd_cons hc kd_nil) n B1 σ H1 (cf.after o1) hn _ fun zs B2 H2 d2 o2 => ?_)
  subst e1
  obtain ⟨u, v, rfl, ⟨pa, rfl, na⟩, ⟨pb, rfl, nb⟩⟩ := d1.two
  obtain ⟨z, rfl, hz⟩ := d2.one
  have hz' : z = V.int tp := hz
  subst hz'
  refine ⟨rfl, rfl, fun x dx hx hdx hne => ?_⟩
  have o := o1.trans o2
  have bs := o.bs
  have hqx : q ≠ some x := fun e => by
    obtain ⟨_, _, _, _, e2, _⟩ := bs.pl.2 x e
    rw [hx] at e2; cases e2
  have hqd : q ≠ some dx := fun e => by
    obtain ⟨_, _, _, _, e2, _⟩ := bs.pl.2 dx e
    rw [hdx] at e2; cases e2
  have hBx := bs.none hx
  have hBd := bs.none hdx
  have exS : Ex H2 (upd (upd H2 dx (.own x)) x (.ins C dx [])) := (Ex.new hdx).trans (Ex.new (by rw [upd_ne (Ne.symm hne)]; exact hx))
  refine ⟨ss, ns, tp, x, pa, pb, dx, B2, q, n, rfl, na.mono o2.nw.ex, nb.mono o2.nw.ex, ok, htp, upd_same, hBx, (bs.same exS).bs, hn, fun B3 H3 a' b' nw eo ex pl hB3 fa fb => ⟨rfl, ?_⟩⟩
  refine hQ _ (.tlk ss ns tp) (upd B3 x (.ins C dx (tlkFs a' b' tp))) _ rfl ⟨x, rfl, dx, a', b', upd_same, fa.mono (Ex.new hB3), fb.mono (Ex.new hB3)⟩ (o.trans ⟨⟨nw.ex.trans (Ex.new hB3), fun y hy hB => ?_⟩, fun y oo e => ?_, fun y oo h1 h2 => ?_, hn, fun y e => ?_⟩)
  · have hyx : y ≠ x := fun e => by rw [e] at hy; exact hy hx
    rw [upd_ne hyx]
    refine nw.new y (fun e => ?_) hB
    cases z : H2 y with
    | none => exact hy z
    | some oo => rw [exS y oo z] at e; cases e
  · by_cases z : y = x
    · subst z; rw [upd_same] at e ⊢; exact e
    · rw [upd_ne z] at e ⊢; exact ex y oo e
  · have hyx : y ≠ x := fun e => by rw [e, hx] at h2; cases h2
    rw [upd_ne hyx]
    exact eo y oo h1 (exS y oo h2)
  · obtain ⟨g1, g2⟩ := pl.2 y e
    have hyx : y ≠ x := fun z => hqx (z ▸ e)
    refine ⟨by rw [upd_ne hyx]; exact g1, ?_⟩
    obtain ⟨i, j, k, g3, g4⟩ := g2
    exact ⟨i, j, k, by rw [upd_ne hyx]; exact g3, g4⟩
end
end Cf

/-! Cf14: dict(zip(names, whole numbers)), of lists and tuples. -/
namespace Cf
open PySem PySem.Spec PyProof.Rows L2
section
variable {prog : Program} {w : World} {A : Around} {E : Value → Shared → Prop} {s : Shared}
theorem itX {h h' : Heap} {it z : Addr} {c : Sc} {k : Nat} (a : IsIt h it c k) (e : Heap.ExtBut z h h') (n : it ≠ z) : IsIt h' it c k := Sc.itAt a fun o q => e _ o n q
theorem sqX {h h' : Heap} {z : Addr} {c : Sc} {us : Array Value} (a : IsS h c us) (e : Heap.ExtBut z h h') (n : c.ad ≠ z) : IsS h' c us := by
  cases c with
  | l x => exact Heap.IsList.extBut a e n
  | t x => exact Heap.IsTuple.at a fun o q => e _ o n q
theorem sqA {h h' : Heap} {c : Sc} {us : Array Value} (a : IsS h c us) (e : ∀ o, h.get? c.ad = some o → h'.get? c.ad = some o) : IsS h' c us := by
  cases c with
  | l x => exact Heap.IsList.at a e
  | t x => exact Heap.IsTuple.at a e
theorem sqOb {h : Heap} {c : Sc} {us : Array Value} (a : IsS h c us) : ∃ o, h.get? c.ad = some o := by
  cases c with
  | l x => obtain ⟨o, h, _⟩ := a; exact ⟨o, h⟩
  | t x => obtain ⟨o, h, _⟩ := a; exact ⟨o, h⟩
theorem nxI {it : Addr} {c : Sc} {i : Nat} {us : Array Value} {x : Value} {Q : Value → Shared → Prop} (hit : IsIt s.heap it c i) (hl : IsS s.heap c us) (hx : us[i]? = some x)
    (hQ : ∀ h', IsIt h' it c (i + 1) → Heap.SameBut it s.heap h' → Q x { s with heap := h' }) : wpAny (model prog w) A (Builtin.SmallTypes.nextOf (.ref it)) Q E s := by
  cases c with
  | l a => exact wpAny_nextOf_list_item hit hl hx hQ
  | t a => exact wpAny_nextOf_tuple_item hit hl hx hQ
theorem nxE {it : Addr} {c : Sc} {i : Nat} {us : Array Value} {Q : Value → Shared → Prop} (hh : A.handled = none) (hit : IsIt s.heap it c i) (hl : IsS s.heap c us) (hx : us[i]? = none)
    (hE : ∀ h' e, Heap.ExtBut it s.heap h' → (∃ o, h'.get? e = some o ∧ o.cls = .type "StopIteration") → E (.ref e) { s with heap := h' }) : wpAny (model prog w) A (Builtin.SmallTypes.nextOf (.ref it)) Q E s := by
  cases c with
  | l a => exact wpAny_nextOf_list_end hh hit hl hx hE
  | t a => exact wpAny_nextOf_tuple_end hh hit hl hx hE
/-- a zip's next, its tuple its own: item -/
theorem zs_item {z TI TO i1 i2 : Addr} {c1 c2 : Sc} {k1 k2 : Nat} {xs ys : Array Value} {x y a b : Value} {Q : Value → Shared → Prop} (D : ZipApart z TI TO i1 i2 c1.ad c2.ad)
    (hz : IsZip s.heap z TI TO .none) (hTI : IsPair s.heap TI (.ref i1) (.ref i2)) (hTO : IsPair s.heap TO a b)
    (h1 : IsIt s.heap i1 c1 k1) (h2 : IsIt s.heap i2 c2 k2) (hl1 : IsS s.heap c1 xs) (hl2 : IsS s.heap c2 ys) (hx : xs[k1]? = some x) (hy : ys[k2]? = some y)
    (hQ : ∀ h', IsZip h' z TI TO (rawInt s.heap.objs.size) → IsPair h' TO x y → IsIt h' i1 c1 (k1 + 1) → IsIt h' i2 c2 (k2 + 1) → IsPair h' s.heap.objs.size x y → h'.objs.size = s.heap.objs.size + 1 →
      (∀ c o, c ≠ z → c ≠ TO → c ≠ i1 → c ≠ i2 → s.heap.get? c = some o → h'.get? c = some o) → Q (.ref s.heap.objs.size) { s with heap := h' }) :
    wpAny (model prog w) A (Builtin.«zip.__next__» ⟨[.ref z], []⟩) (fun fin s' => ∃ v, fin = .done (.ret v) ∧ Q v s') E s := by
  show wpAny _ _ (field (.ref z) 2 >>= _) _ _ _
  refine wpAny_bind (wpAny_field hz rfl (x := .bool false) rfl ?_)
  show wpAny _ _ (field (.ref z) 3 >>= _) _ _ _
  refine wpAny_bind (wpAny_field hz rfl (x := .ref TI) rfl ?_)
  refine wpAny_bind (wpAny_seqItems hTI rfl ?_)
  show wpAny _ _ (Builtin.SmallTypes.ownedTupleIsFree (.ref z) >>= _) _ _ _
  refine wpAny_bind ?_
  unfold Builtin.SmallTypes.ownedTupleIsFree
  refine wpAny_bind (wpAny_field hz rfl (x := .none) rfl (wpAny_pure ?_))
  simp only [if_true]
  refine wpAny_bind (wpAny_rule ?_)
  refine wpAny_bind (wpAny_field hz rfl (x := .ref TO) rfl ?_)
  refine wpAny_bind (wpAny_setField_rec hz (by simp) fun g1 hz1 u1 => ?_)
  replace hz1 : IsZip g1 z TI TO .ellipsis := hz1
  refine wpAny_bind ?_
  simp only [List.zipIdx_cons, List.zipIdx_nil, List.forIn_cons, List.forIn_nil]
  refine wpAny_bind (wpAny_bind (wpAny_onRaise ?_))
  show wpAny _ _ (Builtin.SmallTypes.nextOf (.ref i1) >>= _) _ _ _
  refine wpAny_bind (nxI (itX h1 u1.extBut D.i1z) (sqX hl1 u1.extBut D.l1z) hx fun g2 p1 u2 => wpAny_pure ?_)
  have t2 : IsPair g2 TO a b := u2.extBut _ _ D.TOi1 (u1.extBut _ _ D.TOz hTO)
  refine wpAny_bind (wpAny_seqItems t2 rfl ?_)
  refine wpAny_bind (wpAny_updateSeq_pair t2 fun g3 t3 u3 => ?_)
  replace t3 : IsPair g3 TO x b := t3
  refine wpAny_bind (wpAny_letGo (wpAny_pure ?_))
  refine wpAny_bind (wpAny_bind (wpAny_onRaise ?_))
  show wpAny _ _ (Builtin.SmallTypes.nextOf (.ref i2) >>= _) _ _ _
  refine wpAny_bind (nxI (itX (itX (itX h2 u1.extBut D.i2z) u2.extBut D.i12.symm) u3.extBut D.TOi2.symm) (sqX (sqX (sqX hl2 u1.extBut D.l2z) u2.extBut D.l2i1) u3.extBut D.l2TO) hy fun g4 p2 u4 => wpAny_pure ?_)
  have t4 : IsPair g4 TO x b := u4.extBut _ _ D.TOi2 t3
  refine wpAny_bind (wpAny_seqItems t4 rfl ?_)
  refine wpAny_bind (wpAny_updateSeq_pair t4 fun g5 t5 u5 => ?_)
  replace t5 : IsPair g5 TO x y := t5
  refine wpAny_bind (wpAny_letGo (wpAny_pure (wpAny_pure ?_)))
  refine wpAny_bind (wpAny_seqItems t5 rfl ?_)
  refine wpAny_bind (wpAny_newTuple ?_)
  have hsz : g5.objs.size = s.heap.objs.size := by rw [u5.1, u4.1, u3.1, u2.1, u1.1]
  have z5 : IsZip g5 z TI TO .ellipsis := u5.extBut _ _ D.TOz.symm (u4.extBut _ _ D.i2z.symm (u3.extBut _ _ D.TOz.symm (u2.extBut _ _ D.i1z.symm hz1)))
  have k5 : ∀ c o, c ≠ z → c ≠ TO → c ≠ i1 → c ≠ i2 → s.heap.get? c = some o → g5.get? c = some o := fun c o e1 e2 e3 e4 e =>
    u5.extBut _ _ e2 (u4.extBut _ _ e4 (u3.extBut _ _ e2 (u2.extBut _ _ e3 (u1.extBut _ _ e1 e))))
  have j1 : IsIt g5 i1 c1 (k1 + 1) := itX (itX (itX p1 u3.extBut D.TOi1.symm) u4.extBut D.i12) u5.extBut D.TOi1.symm
  have j2 : IsIt g5 i2 c2 (k2 + 1) := itX p2 u5.extBut D.TOi2.symm
  have hzlt : z < g5.objs.size := Heap.lt_size z5
  show wpAny _ _ (Builtin.SmallTypes.ownedTupleHandOut (.ref z) (.ref g5.objs.size) >>= _) _ _ _
  refine wpAny_bind ?_
  unfold Builtin.SmallTypes.ownedTupleHandOut
  have z6 : IsZip (g5.push { cls := .type "tuple", data := .seq #[x, y] }) z TI TO .ellipsis := Heap.get?_push_of_some _ z5
  refine wpAny_bind (wpAny_setField_rec z6 (by simp) fun g7 z7 u7 => ?_)
  replace z7 : IsZip g7 z TI TO (rawInt g5.objs.size) := z7
  refine wpAny_setField_rec z7 (by simp) fun g8 z8 u8 => ?_
  replace z8 : IsZip g8 z TI TO (rawInt g5.objs.size) := z8
  have up : ∀ c o, c ≠ z → g5.get? c = some o → g8.get? c = some o := fun c o e1 e => u8.extBut _ _ e1 (u7.extBut _ _ e1 (Heap.get?_push_of_some _ e))
  have t8 : IsPair g8 g5.objs.size x y := u8.extBut _ _ (Nat.ne_of_gt hzlt) (u7.extBut _ _ (Nat.ne_of_gt hzlt) (Heap.get?_push_size _ rfl))
  have s8 : g8.objs.size = g5.objs.size + 1 := by rw [u8.1, u7.1, Heap.size_push]
  rw [hsz] at z8 t8 s8
  refine wpAny_pure ⟨_, rfl, ?_⟩
  show Q (.ref g5.objs.size) _
  rw [hsz]
  exact hQ g8 z8 (up _ _ D.TOz t5) (Sc.itAt j1 fun o e => up _ o D.i1z e) (Sc.itAt j2 fun o e => up _ o D.i2z e) t8 s8 fun c o e1 e2 e3 e4 e => up c o e1 (k5 c o e1 e2 e3 e4 e)
/-- the end -/
theorem zs_end {z TI TO i1 i2 : Addr} {c1 c2 : Sc} {k1 k2 : Nat} {xs ys : Array Value} {a b : Value} {Q : PySem.Fin → Shared → Prop} (hh : A.handled = none) (D : ZipApart z TI TO i1 i2 c1.ad c2.ad)
    (hz : IsZip s.heap z TI TO .none) (hTI : IsPair s.heap TI (.ref i1) (.ref i2)) (hTO : IsPair s.heap TO a b)
    (h1 : IsIt s.heap i1 c1 k1) (h2 : IsIt s.heap i2 c2 k2) (hl1 : IsS s.heap c1 xs) (hl2 : IsS s.heap c2 ys) (hend : xs[k1]? = none ∨ ys[k2]? = none)
    (hE : ∀ h' e, (∀ c o, c ≠ z → c ≠ TO → c ≠ i1 → c ≠ i2 → s.heap.get? c = some o → h'.get? c = some o) → (∃ o, h'.get? e = some o ∧ o.cls = .type "StopIteration") → E (.ref e) { s with heap := h' }) :
    wpAny (model prog w) A (Builtin.«zip.__next__» ⟨[.ref z], []⟩) Q E s := by
  show wpAny _ _ (field (.ref z) 2 >>= _) _ _ _
  refine wpAny_bind (wpAny_field hz rfl (x := .bool false) rfl ?_)
  show wpAny _ _ (field (.ref z) 3 >>= _) _ _ _
  refine wpAny_bind (wpAny_field hz rfl (x := .ref TI) rfl ?_)
  refine wpAny_bind (wpAny_seqItems hTI rfl ?_)
  show wpAny _ _ (Builtin.SmallTypes.ownedTupleIsFree (.ref z) >>= _) _ _ _
  refine wpAny_bind ?_
  unfold Builtin.SmallTypes.ownedTupleIsFree
  refine wpAny_bind (wpAny_field hz rfl (x := .none) rfl (wpAny_pure ?_))
  simp only [if_true]
  refine wpAny_bind (wpAny_rule ?_)
  refine wpAny_bind (wpAny_field hz rfl (x := .ref TO) rfl ?_)
  refine wpAny_bind (wpAny_setField_rec hz (by simp) fun g1 hz1 u1 => ?_)
  replace hz1 : IsZip g1 z TI TO .ellipsis := hz1
  refine wpAny_bind ?_
  simp only [List.zipIdx_cons, List.zipIdx_nil, List.forIn_cons, List.forIn_nil]
  refine wpAny_bind (wpAny_bind (wpAny_onRaise ?_))
  show wpAny _ _ (Builtin.SmallTypes.nextOf (.ref i1) >>= _) _ _ _
  cases hx : xs[k1]? with
  | none =>
    refine wpAny_bind (nxE hh (itX h1 u1.extBut D.i1z) (sqX hl1 u1.extBut D.l1z) hx fun g2 e u2 he => ?_)
    obtain ⟨oe, hoe, hce⟩ := he
    have z2 : IsZip g2 z TI TO .ellipsis := u2 _ _ D.i1z.symm hz1
    have hez : e ≠ z := fun x => by subst x; rw [z2] at hoe; cases hoe; simp at hce
    refine wpAny_setField_rec z2 (by simp) fun g3 _ u3 => hE g3 e (fun c o e1 _ e3 _ x => u3.extBut _ _ e1 (u2 _ _ e3 (u1.extBut _ _ e1 x))) ⟨oe, u3.extBut _ _ hez hoe, hce⟩
  | some x =>
    have hy : ys[k2]? = none := by rcases hend with h | h; rw [hx] at h; cases h; exact h
    refine wpAny_bind (nxI (itX h1 u1.extBut D.i1z) (sqX hl1 u1.extBut D.l1z) hx fun g2 p1 u2 => wpAny_pure ?_)
    have t2 : IsPair g2 TO a b := u2.extBut _ _ D.TOi1 (u1.extBut _ _ D.TOz hTO)
    refine wpAny_bind (wpAny_seqItems t2 rfl ?_)
    refine wpAny_bind (wpAny_updateSeq_pair t2 fun g3 t3 u3 => ?_)
    refine wpAny_bind (wpAny_letGo (wpAny_pure ?_))
    refine wpAny_bind (wpAny_bind (wpAny_onRaise ?_))
    show wpAny _ _ (Builtin.SmallTypes.nextOf (.ref i2) >>= _) _ _ _
    refine wpAny_bind (nxE hh (itX (itX (itX h2 u1.extBut D.i2z) u2.extBut D.i12.symm) u3.extBut D.TOi2.symm) (sqX (sqX (sqX hl2 u1.extBut D.l2z) u2.extBut D.l2i1) u3.extBut D.l2TO) hy fun g4 e u4 he => ?_)
    obtain ⟨oe, hoe, hce⟩ := he
    have z4 : IsZip g4 z TI TO .ellipsis := u4 _ _ D.i2z.symm (u3.extBut _ _ D.TOz.symm (u2.extBut _ _ D.i1z.symm hz1))
    have hez : e ≠ z := fun x => by subst x; rw [z4] at hoe; cases hoe; simp at hce
    refine wpAny_setField_rec z4 (by simp) fun g5 _ u5 => hE g5 e (fun c o e1 e2 e3 e4 x => u5.extBut _ _ e1 (u4 _ _ e4 (u3.extBut _ _ e2 (u2.extBut _ _ e3 (u1.extBut _ _ e1 x))))) ⟨oe, u5.extBut _ _ hez hoe, hce⟩
/-- the tuple given out before is still there: item -/
theorem zh_item {z TI TO T i1 i2 : Addr} {c1 c2 : Sc} {f : Bool} {oT : Obj} {k1 k2 : Nat} {xs ys : Array Value} {x y : Value} {Q : Value → Shared → Prop} (D : ZipApart z TI TO i1 i2 c1.ad c2.ad)
    (hz : IsZipHeld s.heap z TI TO T f) (hT : s.heap.get? T = some oT) (hTI : IsPair s.heap TI (.ref i1) (.ref i2))
    (h1 : IsIt s.heap i1 c1 k1) (h2 : IsIt s.heap i2 c2 k2) (hl1 : IsS s.heap c1 xs) (hl2 : IsS s.heap c2 ys) (hx : xs[k1]? = some x) (hy : ys[k2]? = some y)
    (hQ : ∀ h', IsZipHeld h' z TI TO T true → IsIt h' i1 c1 (k1 + 1) → IsIt h' i2 c2 (k2 + 1) → IsPair h' s.heap.objs.size x y → h'.objs.size = s.heap.objs.size + 1 →
      (∀ c o, c ≠ z → c ≠ i1 → c ≠ i2 → s.heap.get? c = some o → h'.get? c = some o) → Q (.ref s.heap.objs.size) { s with heap := h' }) :
    wpAny (model prog w) A (Builtin.«zip.__next__» ⟨[.ref z], []⟩) (fun fin s' => ∃ v, fin = .done (.ret v) ∧ Q v s') E s := by
  show wpAny _ _ (field (.ref z) 2 >>= _) _ _ _
  refine wpAny_bind (wpAny_field hz rfl (x := .bool false) rfl ?_)
  show wpAny _ _ (field (.ref z) 3 >>= _) _ _ _
  refine wpAny_bind (wpAny_field hz rfl (x := .ref TI) rfl ?_)
  refine wpAny_bind (wpAny_seqItems hTI rfl ?_)
  show wpAny _ _ (Builtin.SmallTypes.ownedTupleIsFree (.ref z) >>= _) _ _ _
  refine wpAny_bind (wpAny_tupleHeld_zip hz hT fun g1 z1 u1 => ?_)
  simp only [Bool.false_eq_true, if_false]
  refine wpAny_bind ?_
  rw [← Array.forIn_toList]
  simp only [List.forIn_cons, List.forIn_nil]
  refine wpAny_bind (wpAny_bind (wpAny_holding ?_))
  show wpAny _ _ (Builtin.SmallTypes.nextOf (.ref i1) >>= _) _ _ _
  refine wpAny_bind (nxI (s := { s with heap := g1 }) (itX h1 u1.extBut D.i1z) (sqX hl1 u1.extBut D.l1z) hx fun g2 p1 u2 => wpAny_pure ?_)
  refine wpAny_pure ?_
  refine wpAny_bind (wpAny_bind (wpAny_holding ?_))
  show wpAny _ _ (Builtin.SmallTypes.nextOf (.ref i2) >>= _) _ _ _
  refine wpAny_bind (nxI (s := { s with heap := g2 }) (itX (itX h2 u1.extBut D.i2z) u2.extBut D.i12.symm) (sqX (sqX hl2 u1.extBut D.l2z) u2.extBut D.l2i1) hy fun g3 p2 u3 => wpAny_pure ?_)
  refine wpAny_pure (wpAny_pure ?_)
  show wpAny _ _ (newTuple [x, y] >>= _) _ _ _
  refine wpAny_bind (wpAny_newTuple ?_)
  have hsz : g3.objs.size = s.heap.objs.size := by rw [u3.1, u2.1, u1.1]
  have z3 : IsZipHeld g3 z TI TO T true := u3.extBut _ _ D.i2z.symm (u2.extBut _ _ D.i1z.symm z1)
  have k3 : ∀ c o, c ≠ z → c ≠ i1 → c ≠ i2 → s.heap.get? c = some o → g3.get? c = some o := fun c o e1 e2 e3 e => u3.extBut _ _ e3 (u2.extBut _ _ e2 (u1.extBut _ _ e1 e))
  have j1 : IsIt g3 i1 c1 (k1 + 1) := itX p1 u3.extBut D.i12
  refine wpAny_pure ⟨_, rfl, ?_⟩
  show Q (.ref g3.objs.size) _
  have hp : IsPair (g3.push { cls := .type "tuple", data := .seq #[x, y] }) g3.objs.size x y := Heap.get?_push_size _ rfl
  have z4 : (g3.push { cls := .type "tuple", data := .seq #[x, y] }).objs.size = g3.objs.size + 1 := Heap.size_push ..
  rw [hsz] at hp z4 ⊢
  exact hQ _ (Heap.get?_push_of_some _ z3) (Sc.itAt j1 fun o e => Heap.get?_push_of_some _ e) (Sc.itAt p2 fun o e => Heap.get?_push_of_some _ e) hp z4 fun c o e1 e2 e3 e => Heap.get?_push_of_some _ (k3 c o e1 e2 e3 e)
theorem zh_end {z TI TO T i1 i2 : Addr} {c1 c2 : Sc} {f : Bool} {oT : Obj} {k1 k2 : Nat} {xs ys : Array Value} {Q : PySem.Fin → Shared → Prop} (hh : A.handled = none) (D : ZipApart z TI TO i1 i2 c1.ad c2.ad)
    (hz : IsZipHeld s.heap z TI TO T f) (hT : s.heap.get? T = some oT) (hTI : IsPair s.heap TI (.ref i1) (.ref i2))
    (h1 : IsIt s.heap i1 c1 k1) (h2 : IsIt s.heap i2 c2 k2) (hl1 : IsS s.heap c1 xs) (hl2 : IsS s.heap c2 ys) (hend : xs[k1]? = none ∨ ys[k2]? = none)
    (hE : ∀ h' e, (∀ c o, c ≠ z → c ≠ i1 → c ≠ i2 → s.heap.get? c = some o → h'.get? c = some o) → (∃ o, h'.get? e = some o ∧ o.cls = .type "StopIteration") → E (.ref e) { s with heap := h' }) :
    wpAny (model prog w) A (Builtin.«zip.__next__» ⟨[.ref z], []⟩) Q E s := by
  show wpAny _ _ (field (.ref z) 2 >>= _) _ _ _
  refine wpAny_bind (wpAny_field hz rfl (x := .bool false) rfl ?_)
  show wpAny _ _ (field (.ref z) 3 >>= _) _ _ _
  refine wpAny_bind (wpAny_field hz rfl (x := .ref TI) rfl ?_)
  refine wpAny_bind (wpAny_seqItems hTI rfl ?_)
  show wpAny _ _ (Builtin.SmallTypes.ownedTupleIsFree (.ref z) >>= _) _ _ _
  refine wpAny_bind (wpAny_tupleHeld_zip hz hT fun g1 z1 u1 => ?_)
  simp only [Bool.false_eq_true, if_false]
  refine wpAny_bind ?_
  rw [← Array.forIn_toList]
  simp only [List.forIn_cons, List.forIn_nil]
  refine wpAny_bind (wpAny_bind (wpAny_holding ?_))
  show wpAny _ _ (Builtin.SmallTypes.nextOf (.ref i1) >>= _) _ _ _
  cases hx : xs[k1]? with
  | none =>
    refine wpAny_bind (nxE (s := { s with heap := g1 }) hh (itX h1 u1.extBut D.i1z) (sqX hl1 u1.extBut D.l1z) hx fun g2 e u2 he => ?_)
    exact hE g2 e (fun c o e1 e2 _ x => u2 _ _ e2 (u1.extBut _ _ e1 x)) he
  | some x =>
    have hy : ys[k2]? = none := by rcases hend with h | h; rw [hx] at h; cases h; exact h
    refine wpAny_bind (nxI (s := { s with heap := g1 }) (itX h1 u1.extBut D.i1z) (sqX hl1 u1.extBut D.l1z) hx fun g2 p1 u2 => wpAny_pure ?_)
    refine wpAny_pure ?_
    refine wpAny_bind (wpAny_bind (wpAny_holding ?_))
    show wpAny _ _ (Builtin.SmallTypes.nextOf (.ref i2) >>= _) _ _ _
    refine wpAny_bind (nxE (s := { s with heap := g2 }) hh (itX (itX h2 u1.extBut D.i2z) u2.extBut D.i12.symm) (sqX (sqX hl2 u1.extBut D.l2z) u2.extBut D.l2i1) hy fun g3 e u3 he => ?_)
    exact hE g3 e (fun c o e1 e2 e3 x => u3 _ _ e3 (u2.extBut _ _ e2 (u1.extBut _ _ e1 x))) he
theorem nx_item {z TI TO i1 i2 : Addr} {c1 c2 : Sc} {k1 k2 : Nat} {xs ys : Array Value} {x y a b : Value} {Q : Option Value → Shared → Prop} (D : ZipApart z TI TO i1 i2 c1.ad c2.ad)
    (hz : IsZip s.heap z TI TO .none) (hTI : IsPair s.heap TI (.ref i1) (.ref i2)) (hTO : IsPair s.heap TO a b)
    (h1 : IsIt s.heap i1 c1 k1) (h2 : IsIt s.heap i2 c2 k2) (hl1 : IsS s.heap c1 xs) (hl2 : IsS s.heap c2 ys) (hx : xs[k1]? = some x) (hy : ys[k2]? = some y)
    (hQ : ∀ h', IsZip h' z TI TO (rawInt s.heap.objs.size) → IsPair h' TO x y → IsIt h' i1 c1 (k1 + 1) → IsIt h' i2 c2 (k2 + 1) → IsPair h' s.heap.objs.size x y → h'.objs.size = s.heap.objs.size + 1 →
      (∀ c o, c ≠ z → c ≠ TO → c ≠ i1 → c ≠ i2 → s.heap.get? c = some o → h'.get? c = some o) → Q (some (.ref s.heap.objs.size)) { s with heap := h' }) : wpAny (model prog w) A (pyNext (.ref z)) Q E s := by
  have hT : s.TypeIs (.ref z) "zip" := ⟨_, hz, rfl⟩
  unfold pyNext
  exact wpAny_bind (wpAny_attempt (wpAny_callSpecial?_slot (name := PySem.Str.ofString "__next__") hT F.slot_zip_next
    (wpAny_call_entry F.slot_zip_next hT F.entry_zip_next
      (zs_item D hz hTI hTO h1 h2 hl1 hl2 hx hy fun h' a1 a2 a3 a4 a5 a6 a7 => wpAny_pure (hQ h' a1 a2 a3 a4 a5 a6 a7)) (F.args_zip_next_1 _))))
theorem nx_end {z TI TO i1 i2 : Addr} {c1 c2 : Sc} {k1 k2 : Nat} {xs ys : Array Value} {a b : Value} {Q : Option Value → Shared → Prop} (hh : A.handled = none) (D : ZipApart z TI TO i1 i2 c1.ad c2.ad)
    (hz : IsZip s.heap z TI TO .none) (hTI : IsPair s.heap TI (.ref i1) (.ref i2)) (hTO : IsPair s.heap TO a b)
    (h1 : IsIt s.heap i1 c1 k1) (h2 : IsIt s.heap i2 c2 k2) (hl1 : IsS s.heap c1 xs) (hl2 : IsS s.heap c2 ys) (hend : xs[k1]? = none ∨ ys[k2]? = none)
    (hQ : ∀ h', (∀ c o, c ≠ z → c ≠ TO → c ≠ i1 → c ≠ i2 → s.heap.get? c = some o → h'.get? c = some o) → Q none { s with heap := h' }) : wpAny (model prog w) A (pyNext (.ref z)) Q E s := by
  have hT : s.TypeIs (.ref z) "zip" := ⟨_, hz, rfl⟩
  unfold pyNext
  refine wpAny_bind (wpAny_attempt (wpAny_callSpecial?_slot (name := PySem.Str.ofString "__next__") hT F.slot_zip_next
    (wpAny_call_entry F.slot_zip_next hT F.entry_zip_next (zs_end hh D hz hTI hTO h1 h2 hl1 hl2 hend fun h' e hk he => ?_) (F.args_zip_next_1 _))))
  obtain ⟨o, ho, hc⟩ := he
  refine wpAny_bind (wpAny_isInstance (T := "StopIteration") (b := true) ⟨o, ho, hc⟩ isSubtype_stop ?_)
  exact wpAny_pure (hQ _ hk)
theorem nh_item {z TI TO T i1 i2 : Addr} {c1 c2 : Sc} {f : Bool} {oT : Obj} {k1 k2 : Nat} {xs ys : Array Value} {x y : Value} {Q : Option Value → Shared → Prop} (D : ZipApart z TI TO i1 i2 c1.ad c2.ad)
    (hz : IsZipHeld s.heap z TI TO T f) (hT : s.heap.get? T = some oT) (hTI : IsPair s.heap TI (.ref i1) (.ref i2))
    (h1 : IsIt s.heap i1 c1 k1) (h2 : IsIt s.heap i2 c2 k2) (hl1 : IsS s.heap c1 xs) (hl2 : IsS s.heap c2 ys) (hx : xs[k1]? = some x) (hy : ys[k2]? = some y)
    (hQ : ∀ h', IsZipHeld h' z TI TO T true → IsIt h' i1 c1 (k1 + 1) → IsIt h' i2 c2 (k2 + 1) → IsPair h' s.heap.objs.size x y → h'.objs.size = s.heap.objs.size + 1 →
      (∀ c o, c ≠ z → c ≠ i1 → c ≠ i2 → s.heap.get? c = some o → h'.get? c = some o) → Q (some (.ref s.heap.objs.size)) { s with heap := h' }) : wpAny (model prog w) A (pyNext (.ref z)) Q E s := by
  have hTy : s.TypeIs (.ref z) "zip" := ⟨_, hz, rfl⟩
  unfold pyNext
  exact wpAny_bind (wpAny_attempt (wpAny_callSpecial?_slot (name := PySem.Str.ofString "__next__") hTy F.slot_zip_next
    (wpAny_call_entry F.slot_zip_next hTy F.entry_zip_next
      (zh_item D hz hT hTI h1 h2 hl1 hl2 hx hy fun h' a1 a3 a4 a5 a6 a7 => wpAny_pure (hQ h' a1 a3 a4 a5 a6 a7)) (F.args_zip_next_1 _))))
theorem nh_end {z TI TO T i1 i2 : Addr} {c1 c2 : Sc} {f : Bool} {oT : Obj} {k1 k2 : Nat} {xs ys : Array Value} {Q : Option Value → Shared → Prop} (hh : A.handled = none) (D : ZipApart z TI TO i1 i2 c1.ad c2.ad)
    (hz : IsZipHeld s.heap z TI TO T f) (hT : s.heap.get? T = some oT) (hTI : IsPair s.heap TI (.ref i1) (.ref i2))
    (h1 : IsIt s.heap i1 c1 k1) (h2 : IsIt s.heap i2 c2 k2) (hl1 : IsS s.heap c1 xs) (hl2 : IsS s.heap c2 ys) (hend : xs[k1]? = none ∨ ys[k2]? = none)
    (hQ : ∀ h', (∀ c o, c ≠ z → c ≠ i1 → c ≠ i2 → s.heap.get? c = some o → h'.get? c = some o) → Q none { s with heap := h' }) : wpAny (model prog w) A (pyNext (.ref z)) Q E s := by
  have hTy : s.TypeIs (.ref z) "zip" := ⟨_, hz, rfl⟩
  unfold pyNext
  refine wpAny_bind (wpAny_attempt (wpAny_callSpecial?_slot (name := PySem.Str.ofString "__next__") hTy F.slot_zip_next
    (wpAny_call_entry F.slot_zip_next hTy F.entry_zip_next (zh_end hh D hz hT hTI h1 h2 hl1 hl2 hend fun h' e hk he => ?_) (F.args_zip_next_1 _))))
  obtain ⟨o, ho, hc⟩ := he
  refine wpAny_bind (wpAny_isInstance (T := "StopIteration") (b := true) ⟨o, ho, hc⟩ isSubtype_stop ?_)
  exact wpAny_pure (hQ _ hk)
end
theorem zipArg {prog : Program} {w : World} (z TI TO i1 i2 : Addr) (c1 c2 : Sc) (D : ZipApart z TI TO i1 i2 c1.ad c2.ad) (xs ys : Array Value) :
    PairArg prog w "zip" z [z, TI, TO, i1, i2, c1.ad, c2.ad] [z, TO, i1, i2] (min xs.size ys.size) (fun i k v => xs[i]? = some k ∧ ys[i]? = some v)
      (fun h => IsZip h z TI TO .none ∧ IsPair h TI (.ref i1) (.ref i2) ∧ (∃ a b, IsPair h TO a b) ∧ IsIt h i1 c1 0 ∧ IsIt h i2 c2 0 ∧ IsS h c1 xs ∧ IsS h c2 ys) where
  type := fun s ok => ⟨_, ok.1, rfl⟩
  notDict := by decide
  keep := fun h h' ok hk => by
    obtain ⟨hz, hTI, ⟨a, b, hTO⟩, h1, h2, hl1, hl2⟩ := ok
    exact ⟨hk _ _ hz, hk _ _ hTI, ⟨a, b, hk _ _ hTO⟩, Sc.itAt h1 fun o e => hk _ o e, Sc.itAt h2 fun o e => hk _ o e, sqA hl1 fun o e => hk _ o e, sqA hl2 fun o e => hk _ o e⟩
  there := fun h ok b hb => by
    obtain ⟨hz, hTI, ⟨a, c, hTO⟩, h1, h2, hl1, hl2⟩ := ok
    obtain ⟨o1, e1, _⟩ := Sc.itOb h1
    obtain ⟨o2, e2, _⟩ := Sc.itOb h2
    obtain ⟨o3, e3⟩ := sqOb hl1
    obtain ⟨o4, e4⟩ := sqOb hl2
    simp only [List.mem_cons, List.not_mem_nil, or_false] at hb
    rcases hb with rfl | rfl | rfl | rfl | rfl | rfl | rfl
    all_goals first | exact ⟨_, hz⟩ | exact ⟨_, hTI⟩ | exact ⟨_, hTO⟩ | exact ⟨_, e1⟩ | exact ⟨_, e2⟩ | exact ⟨_, e3⟩ | exact ⟨_, e4⟩
  sub := fun b hb => by simp at hb ⊢; rcases hb with rfl | rfl | rfl | rfl <;> simp
  noKeys := fun A s Q E hA ok h => getAttrOr_miss_zip ok.1 rfl rfl rfl zip_no_keys (by decide +kernel) hA h
  iter := fun A s d Q E hA ok hd hdf h => by
    obtain ⟨hz, hTI, ⟨a, b, hTO⟩, h1, h2, hl1, hl2⟩ := ok
    simp only [List.mem_cons, List.not_mem_nil, or_false, not_or] at hdf
    obtain ⟨dz, dTI, dTO, di1, di2, dl1, dl2⟩ := hdf
    refine wpAny_pyIter_zip hz (h z [z, TO, i1, i2] (fun i h => IsPair h TI (.ref i1) (.ref i2) ∧ IsIt h i1 c1 i ∧ IsIt h i2 c2 i ∧ IsS h c1 xs ∧ IsS h c2 ys ∧
      ((IsZip h z TI TO .none ∧ ∃ a b, IsPair h TO a b) ∨ ∃ T f oT, IsZipHeld h z TI TO T f ∧ h.get? T = some oT ∧ T ≠ z ∧ T ≠ i1 ∧ T ≠ i2 ∧ T ≠ d)) s.heap s.toks ?_
      ⟨hTI, h1, h2, hl1, hl2, .inl ⟨hz, a, b, hTO⟩⟩ (fun _ _ e => e) fun b hb => .inl hb)
    exact {
      off := fun hm => by
        simp only [List.mem_cons, List.not_mem_nil, or_false] at hm
        rcases hm with e | e | e | e
        · exact dz e
        · exact dTO e
        · exact di1 e
        · exact di2 e
      frame := fun i g1 g2 st hk => by
        obtain ⟨hTI, h1, h2, hl1, hl2, hz⟩ := st
        refine ⟨hk _ _ (Ne.symm dTI) hTI, Sc.itAt h1 fun o e => hk _ o (Ne.symm di1) e, Sc.itAt h2 fun o e => hk _ o (Ne.symm di2) e, sqA hl1 fun o e => hk _ o (Ne.symm dl1) e, sqA hl2 fun o e => hk _ o (Ne.symm dl2) e, ?_⟩
        rcases hz with ⟨hz, a, b, hTO⟩ | ⟨T, f, oT, hz, hT, r1, r2, r3, r4⟩
        · exact .inl ⟨hk _ _ (Ne.symm dz) hz, a, b, hk _ _ (Ne.symm dTO) hTO⟩
        · exact .inr ⟨T, f, oT, hk _ _ (Ne.symm dz) hz, hk _ _ r4 hT, r1, r2, r3, r4⟩
      item := fun i s1 Q1 E1 hi st hds hQ => by
        obtain ⟨hTI, h1, h2, hl1, hl2, hz⟩ := st
        have ex := Array.getElem?_eq_getElem (Nat.lt_of_lt_of_le hi (Nat.min_le_left ..))
        have ey := Array.getElem?_eq_getElem (Nat.lt_of_lt_of_le hi (Nat.min_le_right ..))
        have lt : ∀ {c o}, s1.heap.get? c = some o → s1.heap.objs.size ≠ c := fun e => Nat.ne_of_gt (Heap.lt_size e)
        have n1 : s1.heap.objs.size ≠ i1 := let ⟨_, e, _⟩ := Sc.itOb h1; lt e
        have n2 : s1.heap.objs.size ≠ i2 := let ⟨_, e, _⟩ := Sc.itOb h2; lt e
        rcases hz with ⟨hz, a, b, hTO⟩ | ⟨T, f, oT, hz, hT, r1, r2, r3, r4⟩
        · refine nx_item D hz hTI hTO h1 h2 hl1 hl2 ex ey fun h' a1 a2 a3 a4 a5 a6 hk => ?_
          exact hQ s1.heap.objs.size _ _ h' s1.toks ⟨ex, ey⟩ (.inl ⟨_, a5, rfl, _, rfl⟩)
            ⟨hk _ _ D.TIz D.TITO D.TIi1 D.TIi2 hTI, a3, a4, sqA hl1 fun o e => hk _ o D.l1z D.l1TO D.l1i1 D.l1i2 e, sqA hl2 fun o e => hk _ o D.l2z D.l2TO D.l2i1 D.l2i2 e,
              .inr ⟨s1.heap.objs.size, false, _, a1, a5, lt hz, n1, n2, Nat.ne_of_gt hds⟩⟩
            fun c o hc e => hk c o (fun x => hc (by simp [x])) (fun x => hc (by simp [x])) (fun x => hc (by simp [x])) (fun x => hc (by simp [x])) e
        · refine nh_item D hz hT hTI h1 h2 hl1 hl2 ex ey fun h' a1 a3 a4 a5 a6 hk => ?_
          exact hQ s1.heap.objs.size _ _ h' s1.toks ⟨ex, ey⟩ (.inl ⟨_, a5, rfl, _, rfl⟩)
            ⟨hk _ _ D.TIz D.TIi1 D.TIi2 hTI, a3, a4, sqA hl1 fun o e => hk _ o D.l1z D.l1i1 D.l1i2 e, sqA hl2 fun o e => hk _ o D.l2z D.l2i1 D.l2i2 e,
              .inr ⟨T, true, oT, a1, hk _ _ r1 r2 r3 hT, r1, r2, r3, r4⟩⟩
            fun c o hc e => hk c o (fun x => hc (by simp [x])) (fun x => hc (by simp [x])) (fun x => hc (by simp [x])) e
      done := fun s1 Q1 E1 st hQ => by
        obtain ⟨hTI, h1, h2, hl1, hl2, hz⟩ := st
        have hend : xs[min xs.size ys.size]? = none ∨ ys[min xs.size ys.size]? = none := by
          rcases Nat.le_total xs.size ys.size with h | h
          · exact .inl (Array.getElem?_eq_none (by rw [Nat.min_eq_left h]; exact Nat.le_refl _))
          · exact .inr (Array.getElem?_eq_none (by rw [Nat.min_eq_right h]; exact Nat.le_refl _))
        rcases hz with ⟨hz, a, b, hTO⟩ | ⟨T, f, oT, hz, hT, r1, r2, r3, r4⟩
        · exact nx_end hA D hz hTI hTO h1 h2 hl1 hl2 hend fun h' hk => hQ h' s1.toks fun c o hc e => hk c o (fun x => hc (by simp [x])) (fun x => hc (by simp [x])) (fun x => hc (by simp [x])) (fun x => hc (by simp [x])) e
        · exact nh_end hA D hz hT hTI h1 h2 hl1 hl2 hend fun h' hk => hQ h' s1.toks fun c o hc e => hk c o (fun x => hc (by simp [x])) (fun x => hc (by simp [x])) (fun x => hc (by simp [x])) e }
end Cf

/-! Cf15: dict(zip(names, whole numbers)) as data. -/
namespace Cf
open PySem PySem.Spec PyProof.Rows L2
def dz (ks : List PySem.Str) (is : List Int) : List (Key × V) := (ks.zip is).map fun q => (Sum.inr q.1, V.int q.2)
def tDZ (K : PySem.W.Frag) (ta : TA) : TE := fun σ H Q => ta σ H fun vs H1 => ∃ (c1 c2 : Sc) (ks : List PySem.Str) (is : List Int), vs = [.ref c1.ad, .ref c2.ad] ∧ SqX K H1 c1 (ks.map V.str) ∧ SqX K H1 c2 (is.map V.int) ∧ ks.length = is.length ∧ ks.Nodup ∧ ks.length ≤ 1000 ∧
  ∀ p, H1 p = none → Q (.ref p) (upd H1 p (.dK (dz ks is)))
theorem apart {N a b : Nat} (ha : a < N) (hb : b < N) : ZipApart (N + 4) (N + 2) (N + 3) N (N + 1) a b := by
  constructor <;> (intro e; first | (have e' : N + 2 = N + 4 := e; omega) | (have e' : N + 3 = N + 4 := e; omega) | (have e' : N = N + 4 := e; omega) | (have e' : N + 1 = N + 4 := e; omega) | (have e' : N + 2 = N + 3 := e; omega) | (have e' : N + 2 = N := e; omega) | (have e' : N + 2 = N + 1 := e; omega) | (have e' : N + 3 = N := e; omega) | (have e' : N + 3 = N + 1 := e; omega) | (have e' : N = N + 1 := e; omega) | (have e' : a = N + 4 := e; omega) | (have e' : a = N + 3 := e; omega) | (have e' : a = N := e; omega) | (have e' : a = N + 1 := e; omega) | (have e' : b = N + 4 := e; omega) | (have e' : b = N + 3 := e; omega) | (have e' : b = N := e; omega) | (have e' : b = N + 1 := e; omega))
theorem pairs_zip {P : Program} {w : World} : ∀ {ks : List PySem.Str} {is : List Int} {us vs : List Value}, Vals (ks.map V.str) us → Vals (is.map V.int) vs →
    KV (dz ks is) ((ks.zip vs).map fun q => ((Sum.inr q.1 : Key), q.2)) ∧ ∀ (i : Nat) (k v : Value), us[i]? = some k → vs[i]? = some v → ∃ x : Key, ((ks.zip vs).map fun q => ((Sum.inr q.1 : Key), q.2))[i]? = some (x, v) ∧ (mixKind P w).is x k = true
  | [], is, us, vs, h1, h2 => by
    rw [List.map_nil] at h1
    cases h1
    exact ⟨.nil, fun i k v h => by simp at h⟩
  | k :: ks, [], us, vs, h1, h2 => by
    rw [List.map_nil] at h2
    cases h2
    exact ⟨.nil, fun i k v _ h => by simp at h⟩
  | k :: ks, j :: is, us, vs, h1, h2 => by
    rw [List.map_cons] at h1 h2
    cases h1 with
    | cons r1 t1 =>
      cases h2 with
      | cons r2 t2 =>
        obtain ⟨a, b⟩ := pairs_zip (P := P) (w := w) t1 t2
        refine ⟨.cons ⟨rfl, r2⟩ a, fun i k' v e1 e2 => ?_⟩
        cases i with
        | zero =>
          cases (show some _ = some k' from e1)
          cases (show some _ = some v from e2)
          exact ⟨_, rfl, kV_is (k := Sum.inr k) r1⟩
        | succ i => exact b i k' v e1 e2
theorem pe_dictzip {X : Cx} {a b : Expr} {ta : TA} {p p2 pos pos2 : Pos} (hc : X.calm = true) (hg : Gl X "dict") (hm : X.mg "dict" = none) (hg2 : Gl X "zip") (hm2 : X.mg "zip" = none) (ha : PA X [a, b] ta)
    (hs : starEach [a, b] X.env = (false, eval a X.env) :: starEach [b] X.env := by rfl) (hpl : (backTo pos2 (starEach [b] X.env)).any (·.1) = false := by rfl)
    (hs2 : starEach [.Call (.Name "zip" p2) [a, b] [] pos2] X.env = (false, eval (.Call (.Name "zip" p2) [a, b] [] pos2) X.env) :: starEach [] X.env := by rfl) (hpl2 : (backTo pos (starEach [] X.env)).any (·.1) = false := by rfl) :
    PE X (.Call (.Name "dict" p) [.Call (.Name "zip" p2) [a, b] [] pos2] [] pos) (tDZ X.K ta) := by
  refine ⟨fun pins s σ H Q I h => ?_⟩
  refine Call_ (ld_blt I hg hm PyProof.Rows.boot_dict (PyProof.Rows.callWith_type1 ?_ hs2 hpl2))
  rw [hs2]
  show wpAny _ _ (spliced ((false, eval (.Call (.Name "zip" p2) [a, b] [] pos2) X.env) :: backTo pos (starEach [] X.env))) _ _ s
  refine Calls.spliced_cons ?_
  refine Call_ (ld_blt I hg2 hm2 PyProof.Rows.boot_zip (PyProof.Rows.callWith_type1 (thn (ha.run pos2 pins s σ H _ I h) fun us s1 ⟨vs, H1, I1, r1, q1⟩ => ?_) hs hpl))
  obtain ⟨c1, c2, ks, is, ex, hqx, hqy, hl, hnd, hz, q⟩ := q1
  subst ex
  cases r1 with
  | cons r rr =>
    cases rr with
    | cons r' rr =>
      cases rr
      cases r
      cases r'
      obtain ⟨its, rv, p1, l1⟩ := Sc.seq I1 hqx
      obtain ⟨its2, rv2, p2, l2⟩ := Sc.seq I1 hqy
      refine zip_begins2 (c1.begins its.toArray) (c2.begins its2.toArray) p1 p2 fun h' hz' hTI hTO g1 g2 hsz hk => ?_
      refine Calls.spliced_nil ?_
      have I2 : Inv X pins σ H1 { s1 with heap := h' } := I1.kept (t' := s1.toks) hk
      have k1 := rv.length
      have k2 := rv2.length
      rw [List.length_map] at k1 k2
      obtain ⟨kv, hp⟩ := pairs_zip (P := X.prog) (w := X.w) rv rv2
      refine PySem.call_dict_pairs (knd := mixKind X.prog X.w) (kvs := (ks.zip its2).map fun q => ((Sum.inr q.1 : Key), q.2)) (zipArg (s1.heap.objs.size + 4) (s1.heap.objs.size + 2) (s1.heap.objs.size + 3) s1.heap.objs.size (s1.heap.objs.size + 1) c1 c2 (apart l1 l2) its.toArray its2.toArray) (I2.ok.hd hc)
        ⟨hz', hTI, ⟨_, _, hTO⟩, Sc.it0 g1, Sc.it0 g2, sqA p1 fun o e => hk _ o e, sqA p2 fun o e => hk _ o e⟩ ⟨?_, fun i k v ⟨e1, e2⟩ => ?_⟩ ?_ fun h2 tk hd hkk => ?_
      · rw [List.length_map, List.length_zip, List.size_toArray, List.size_toArray]
        omega
      · exact hp i k v (by rw [← e1]; simp) (by rw [← e2]; simp)
      · rw [List.size_toArray, List.size_toArray]
        have : (1000 : Nat) < sizeLine := by decide
        omega
      · have e : merged [] ((ks.zip its2).map fun q => ((Sum.inr q.1 : Key), q.2)) = (ks.zip its2).map fun q => ((Sum.inr q.1 : Key), q.2) := by
          refine (merged_append_of_fresh [] _ ?_).trans (List.nil_append _)
          rw [List.nil_append, List.map_map]
          have : (ks.zip its2).map ((·.1) ∘ fun q => ((Sum.inr q.1 : Key), q.2)) = ks.map Sum.inr := by
            rw [show ((·.1) ∘ fun (q : PySem.Str × Value) => ((Sum.inr q.1 : Key), q.2)) = Sum.inr ∘ Prod.fst from rfl, ← List.map_map, List.map_fst_zip (by omega)]
          rw [this]
          exact List.Pairwise.map Sum.inr (fun x y hne e => hne (Sum.inr.inj e)) hnd
        rw [e] at hd
        have hfr : H1 h'.objs.size = none := I2.hok.fresh (Nat.le_refl _)
        have hmd : (h'.objs.size == sysModules) = false := beq_eq_false_iff_ne.mpr (Nat.ne_of_gt I2.big)
        refine ⟨.ref h'.objs.size, _, I2.turnedNew (t' := tk) (ch := [s1.heap.objs.size + 4, s1.heap.objs.size + 3, s1.heap.objs.size, s1.heap.objs.size + 1]) (T := h'.objs.size) (ob := .dK (dz ks is)) hkk (fun c hcm => ?_) (Nat.le_refl _) (show ObjOk X.prog X.w _ _ _ (.dK (dz ks is)) from ⟨?_, hmd, _, kv, hd⟩), rfl, q _ hfr⟩
        · have hle : s1.heap.objs.size ≤ c := by
            have z : c = s1.heap.objs.size + 4 ∨ c = s1.heap.objs.size + 3 ∨ c = s1.heap.objs.size ∨ c = s1.heap.objs.size + 1 := by simpa using hcm
            rcases z with z | z | z | z
            · rw [z]; exact Nat.le_add_right _ _
            · rw [z]; exact Nat.le_add_right _ _
            · rw [z]; exact Nat.le_refl _
            · rw [z]; exact Nat.le_add_right _ _
          exact I1.fpOk hle (I1.hok.fresh hle)
        · unfold dz
          rw [List.length_map, List.length_zip]
          have : (1000 : Nat) < sizeLine := by decide
          omega
section
variable {X : Cx} {C : Addr} {q : Option Addr} {env : En} {cs : Cs} {a b : Expr} {p p2 pos pos2 : Pos} {ns : List PySem.Str} {vals : List Int}
theorem ed_dictzip (hc : X.calm = true) (hm : X.mg "dict" = none) (hm2 : X.mg "zip" = none) (ha : ED X C q a env cs (.nms ns)) (hb : ED X C q b env cs (.tup (vals.map Dt.int))) (hl : ns.length = vals.length) (hnd : ns.Nodup) (hz : ns.length ≤ 1000) (hg : Gl X "dict" := by rfl) (hg2 : Gl X "zip" := by rfl)
    (hs : starEach [a, b] X.env = (false, eval a X.env) :: starEach [b] X.env := by rfl) (hs' : starEach [b] X.env = (false, eval b X.env) :: starEach [] X.env := by rfl) (hpl : (backTo pos2 (starEach [b] X.env)).any (·.1) = false := by rfl)
    (hs2 : starEach [.Call (.Name "zip" p2) [a, b] [] pos2] X.env = (false, eval (.Call (.Name "zip" p2) [a, b] [] pos2) X.env) :: starEach [] X.env := by rfl) (hpl2 : (backTo pos (starEach [] X.env)).any (·.1) = false := by rfl) :
    ED X C q (.Call (.Name "dict" p) [.Call (.Name "zip" p2) [a, b] [] pos2] [] pos) env cs (.dic (ns.zip vals)) := fun n B σ H cf hn Q hQ =>
  wpE_of (pe_dictzip hc hg hm hg2 hm2 wpA_pa hs hpl hs2 hpl2) ((ad_cons ha (ad_cons hb ad_nil hs') hs) n B σ H cf hn _ fun vs ds B1 H1 e1 d1 o1 => by
    subst e1
    obtain ⟨u, v, rfl, ⟨pa, rfl, na⟩, ⟨pb, xs, rfl, s1, d3⟩⟩ := d1.two
    obtain rfl := d3.ints
    exact ⟨.t pa, .t pb, ns, vals, rfl, o1.ex.t na.seqT, o1.ex.t s1, hl, hnd, hz, fun r hr => hQ _ (.dic (ns.zip vals)) (upd B1 r (.dK (dz ns vals))) _ rfl ⟨r, rfl, upd_same⟩ (o1.trans (o1.bs.newB hr))⟩)
end
end Cf

/-! Cf16: repr of data, where no guard is up; defs that are called so. -/
namespace Cf
open PySem PySem.Spec PyProof.Rows L2
def isRef : Dt → Bool
  | .tup _ => true
  | .lst _ => true
  | .nms _ => true
  | _ => false
/-- what repr takes -/
structure RpOk (d : Dt) : Prop where
  pl : plainD d = true
  rf : isRef d = true
  sh : (toPy d).showable = true
  nd : (toPy d).hasDict = false
  dp : (toPy d).depth ≤ 100
  ln : (toPy d).shown.length ≤ 16777216
theorem Inv.kept' {X : Cx} {pins : List (Addr × Obj)} {σ : L2.St} {H : Hp} {s : Shared} {h' : Heap} {t' : Nat} (I : Inv X pins σ H s) (k : ∀ b o, s.heap.get? b = some o → h'.get? b = some o) : Inv X pins σ H { s with heap := h', toks := t' } := I.kept k
section
variable {X : Cx} {C : Addr} {q : Option Addr} {k : Nat} {env : En} {cs : Cs} {e : Expr} {pos p : Pos} {d : Dt} {i : Int} {P : Dt → Prop}
theorem call_reprD (hgd : X.A.guards = some []) (hu : X.A.units + 110 < cLine) : CallR X (.builtin "repr") (fun xs H Q => ∃ (a : Addr) (d : PyData), xs = [.ref a] ∧ Dp X.K H (.ref a) d ∧ d.showable = true ∧ d.hasDict = false ∧ d.depth ≤ 100 ∧ d.shown.length ≤ 16777216 ∧ Q (.str d.shown) H) := by
  intro pins s σ H xs us Q I r h
  obtain ⟨a, d, rfl, hd, hs, hn, hp, hl, q⟩ := h
  obtain ⟨u, rfl, rx⟩ := vals1 r
  cases rx
  obtain ⟨as, rd⟩ := Dp.reads I d _ _ hd rfl
  exact repr_of_reads' (h₀ := s.heap) rd hs (PyData.noDict_hsm hn) hgd (by omega) (fun _ _ e => e) (fun h' u tk hk => ⟨.str d.shown, H, Inv.kept' I hk, ⟨u, rfl⟩, q⟩) hl
theorem em_repr (hgd : X.A.guards = some []) (hr : Room 0 X.A) (hm : X.mg "repr" = none) (ha : EM X C q k e env cs (fun d => RpOk d ∧ P d)) (hg : Gl X "repr" := by rfl) (he : starEach [e] X.env = (false, eval e X.env) :: starEach [] X.env := by rfl) :
    EM X C q k (.Call (.Name "repr" p) [e] [] pos) env cs (fun x => ∃ d, x = .str (toPy d).shown ∧ P d) :=
  em_callB (call_reprD hgd (by have := hr.un; omega)) hm (by decide +kernel) (am_1 ha he) (fun ds ⟨d, h1, rp, h2⟩ => by
    subst h1
    exact fun n B H xs Q b h hf => by
      obtain ⟨x, rfl, h1⟩ := h.one
      have hdp := De.dp b.ex d x h1 rp.pl
      have hx : ∃ a, x = V.ref a := by
        have := rp.rf
        cases d <;> first | (cases this; done) | skip
        · obtain ⟨a, _, h, _⟩ := h1; exact ⟨a, h⟩
        · obtain ⟨a, _, h, _⟩ := h1; exact ⟨a, h⟩
        · obtain ⟨a, h, _⟩ := h1; exact ⟨a, h⟩
      obtain ⟨a, rfl⟩ := hx
      exact ⟨a, toPy d, rfl, hdp, rp.sh, rp.nd, rp.dp, rp.ln, b.fin hf ⟨d, rfl, h2⟩ rfl⟩) hg (by decide) (by decide) he rfl
theorem ed_repr (hgd : X.A.guards = some []) (hr : Room 0 X.A) (hm : X.mg "repr" = none) (ha : ED X C q e env cs d) (rp : RpOk d) (hg : Gl X "repr" := by rfl) (he : starEach [e] X.env = (false, eval e X.env) :: starEach [] X.env := by rfl) :
    ED X C q (.Call (.Name "repr" p) [e] [] pos) env cs (.str (toPy d).shown) :=
  (em_repr (P := fun x => x = d) hgd hr hm (ha.imp fun x hx => ⟨hx ▸ rp, hx⟩) hg he).imp fun x ⟨d', h1, h2⟩ => by rw [h1, h2]
theorem ed_reprI (hm : X.mg "repr" = none) (ha : ED X C q e env cs (.int i)) (hi : i.natAbs < 2 ^ 1900) (hg : Gl X "repr" := by rfl) (he : starEach [e] X.env = (false, eval e X.env) :: starEach [] X.env := by rfl) :
    ED X C q (.Call (.Name "repr" p) [e] [] pos) env cs (.str (toString i)) :=
  em_callB SkE.call_repr_int hm (by decide +kernel) (ad_cons ha ad_nil he) (fun ds h => h ▸ fun n B H xs Q b h hf => by
      obtain ⟨x, rfl, h1⟩ := h.one
      have h1' : x = V.int i := h1
      subst h1'
      refine ⟨i, rfl, ?_, b.fin hf rfl rfl⟩
      by_cases z : i.natAbs = 0
      · rw [z]; decide
      · exact Nat.lt_trans ((Nat.log2_lt z).mpr hi) (by decide)) hg (by decide) (by decide) he rfl
end
/-! ### defs called where no guard is up -/
structure FnG (P : Program) (w : World) (K : PySem.W.Frag) (mg : PySem.Str → Option Value) (base : Heap) (k : Nat) (f : Addr) (fd : FuncData) (ps : List PySem.Str) (sp : Sp) : Prop where
  len : ∀ vs H Q E, sp vs H Q E → vs.length = ps.length
  run : ∀ (A : Around) (outer : List Env) (s : Shared) (H : Hp) (args : Args) (us : List Value) (vs : List V) (Q : VK) (E : XK), Room k A → A.guards = some [] → Env0 P w K mg base A outer s H → BindsTo s fd args (ps.zip us) → Vals vs us → sp vs H Q E →
    codeAny (model P w) A (.call (.ref f) args) (CR CX0 outer P w H s Q E) s
section
variable {P : Program} {w : World} {K : PySem.W.Frag} {mg : PySem.Str → Option Value} {base : Heap} {k : Nat} {f : Addr} {fd : FuncData} {x qual : PySem.Str} {params : Arguments} {body : List Stmt} {scope : Scope} {dvs : List V} {kws : List (PySem.Str × V)} {N ps : List PySem.Str} {sp : Sp}
theorem fng_ok (F : FunD K x qual params body scope dvs kws f fd) (S : FnScope N ps scope) (len : ∀ vs H Q E, sp vs H Q E → vs.length = ps.length)
    (hbody : ∀ (cdv : Value) (A : Around) (outer : List Env) (s : Shared) (H : Hp) (vs : List V) (Q : VK) (E : XK), Room k (A.deeper (envOfC qual scope s.heap.objs.size f cdv)) → A.guards = some [] → sp vs H Q E →
      ∃ t, PSs (cxOf CX0 P w K mg base N qual scope f cdv A outer s H E) body t ∧ t { nx := fun _ H' => Q .non H', rt := Q } (start N vs) H) : FnG P w K mg base (k + 1) f fd ps sp := by
  obtain ⟨oc, od, dV, kV, doc, pm, an, cdv, ct, osl, rfl, lk, hcd, _, _⟩ := F.ex
  refine ⟨len, fun A outer s H args us vs Q E hr hgd e0 hb r hsp => ?_⟩
  have hl := len _ _ _ _ hsp
  have KX : K.In s.heap := e0.mod.kin.keeps fun b o e => (e0.bs b o e).1
  have lim : s.heap.NoLimit := e0.mod.nolimit.keeps fun b o e => (e0.bs b o e).1
  have hkind : ∀ y ∈ ps.zip us, scope.names.lookup y.1 = some .local ∨ (scope.names.lookup y.1 = some .cell ∧ ((cellsFrom (s.heap.objs.size + 1) scope.names []).lookup y.1).isSome = true) := fun y hy => by
    rcases S.par y.1 (List.of_mem_zip (show (y.1, y.2) ∈ ps.zip us from hy)).1 with z | z
    · exact .inl z
    · exact .inr ⟨z, PySem.W.cellsFrom_some _ _ _ (.inl z)⟩
  refine codeAny_call_function hr.depth (KX _ _ lk) rfl S.co S.gen rfl (PySem.W.codeRec_of KX hcd) (hb _ _ _ _ ?_)
  refine wpAny_newFunctionEnv_cells S.kind hkind fun env he s1 xx => ?_
  subst he
  refine ⟨lim.keeps xx.toInCall.keep, codeAny_func ?_⟩
  obtain ⟨t, ht, hq⟩ := hbody cdv A outer s H vs Q E (hr.deeper _) hgd hsp
  have I : Inv (cxOf CX0 P w K mg base N qual scope f cdv A outer s H E) [] (start N vs) H s1 := inv_start S hr.hd e0 hl r xx
  refine wpAny_mono (ht.run [] s1 (start N vs) H _ I hq) (fun fl s' hs => ?_) fun e s' hs => hs
  have done : ∀ {σ' : L2.St} {H' : Hp} {v : V} {u : Value}, Inv (cxOf CX0 P w K mg base N qual scope f cdv A outer s H E) [] σ' H' s' → RelV v u → Q v H' → CE outer P w H s Q u s' := fun {σ' H' v u} J rv q => ⟨v, H', J.os, J.bare, J.base, J.hok, rv, q⟩
  cases fl with
  | ret u =>
    obtain ⟨v, σ', H', J, rv, q⟩ := hs
    exact done J rv q
  | next =>
    obtain ⟨σ', H', J, q⟩ := hs
    exact done (v := V.non) (u := Value.none) J rfl q
  | brk =>
    obtain ⟨_, _, _, q⟩ := hs
    exact q.elim
  | cont =>
    obtain ⟨_, _, _, q⟩ := hs
    exact q.elim
end
section
variable {X : Cx} {f : Addr} {fd : FuncData} {ps : List PySem.Str} {sp : Sp} {k : Nat} {E : XK} {x : PySem.Str} {p pos : Pos} {e : Expr} {es : List Expr} {t : TA}
theorem pe_callG (F : FnG X.prog X.w X.K X.mg X.base k f fd ps sp) (hgd : X.A.guards = some []) (hr : Room k X.A) (hg : Gl X x) (hm : X.mg x = some (.ref f)) (hk : PySem.W.keepIn X.K (.ref f) = true) (hb : Binds X.K fd ps []) (hx : Passes CX0 X E)
    (ha : PA X (e :: es) t) (hdb : (x == ("__debug__" : PySem.Str)) = false := by decide) (he : starEach (e :: es) X.env = (false, eval e X.env) :: starEach es X.env := by rfl) (hpl : (backTo pos (starEach es X.env)).any (·.1) = false := by rfl) :
    PE X (.Call (.Name x p) (e :: es) [] pos) (tCall sp [] E t) := by
  refine ⟨fun pins s σ H Q I h => ?_⟩
  refine wpAny_Call_Name_kw (ld_glob I hg hm ?_ hdb)
  refine PySem.W.callWith_K (h₀ := X.base) I.ok.mod.kin hk (thn (ha.run pos pins s σ H _ I h) fun us s1 ⟨vs, H1, I1, r, q⟩ => ⟨I1.kIn, ?_⟩) he hpl
  have r2 : Vals (vs ++ []) (us ++ []) := r.append .nil
  have hl : (us ++ []).length = ps.length := by rw [← r2.length]; exact F.len _ _ _ _ q
  refine wpAny_call (codeAny_mono (F.run X.A X.stack s1 H1 ⟨us, []⟩ (us ++ []) (vs ++ []) Q E hr hgd I1.env0 (hb s1 us I1.kIn hl) r2 q) fun rr s' hq => ?_)
  cases rr with
  | error e => exact hx pins σ H1 s1 e s' I1 hq
  | ok fl =>
    cases fl with
    | ret u => exact I1.after hq
    | next => exact False.elim hq
    | brk => exact False.elim hq
    | cont => exact False.elim hq
end
end Cf

/-! Cf17: the end of a law whose def is called where no guard is up. -/
namespace Cf
open PySem PySem.Spec PyProof.Rows L2
theorem law_endG {P : Program} {w : World} {K : PySem.W.Frag} {mg mb : PySem.Str → Option Value} {k : Nat} {fa a : Addr} {fd : FuncData} {x : PySem.Str} {sp : Sp} {s1 : Shared} {vs : List Value} {ns : List Int}
    (KX : K.In s1.heap) (hns : s1.heap.Ns mainGlobals mg) (hb : s1.heap.Ns builtinsNs mb) (hbb : ∀ x : PySem.Str, x ≠ "__name__" → mb x = bootBuiltins x) (hlim : s1.heap.NoLimit) (hg : s1.gens = #[])
    (ha : s1.heap.get? a = some { cls := .type "list", data := .seq vs.toArray }) (hi : IntsAre vs ns) (hl : ns.length ≤ sizeLine) (hr : Room k callerA)
    (F : ∀ base : Heap, K.In base → base.Ns mainGlobals mg → FnG P w K mg base k fa fd [x] sp) (hbind : ∀ (s : Shared) (u : Value), BindsTo s fd ⟨[u], []⟩ [(x, u)])
    (hsp : ∀ H : Hp, Only H → SqL K H a (ns.map V.int) → sp [.ref a] H (fun v _ => v = .bl true) fun _ _ _ => False) :
    codeAny (model P w) callerA (.call (.ref fa) ⟨[.ref a], []⟩) (fun r s' => r = .ok (.ret (.bool true)) ∧ OldK s1.heap s'.heap ∧ s'.os = s1.os ∧ AllBare s'.gens) s1 := by
  have rv := vals_ints hi
  have lenV := hi.length
  have core : ∀ H : Hp, Only H → SqL K H a (ns.map V.int) → HOk P w H s1.heap → (∀ b, H b ≠ none → b = a) → (H a ≠ none → K.lookup a = none) →
      codeAny (model P w) callerA (.call (.ref fa) ⟨[.ref a], []⟩) (fun r s' => r = .ok (.ret (.bool true)) ∧ OldK s1.heap s'.heap ∧ s'.os = s1.os ∧ AllBare s'.gens) s1 := by
    intro H hO hS hok hA hK
    have noA : ∀ {b : Addr} {o : Obj} {es : Array DictEntry} {ep : Nat}, s1.heap.get? b = some o → o.data = .dict es ep → H b = none := fun {b o es ep} e d => by
      cases z : H b with
      | none => rfl
      | some u =>
        have e' := hA b (by rw [z]; exact fun y => nomatch y)
        subst e'
        rw [ha] at e
        cases e
        cases (show Data.seq vs.toArray _ = Data.dict es ep from d)
    have nsK : ∀ {b : Addr} {m : PySem.Str → Option Value}, s1.heap.Ns b m → (hidT s1.heap H).Ns b m := fun {b m} n => by
      obtain ⟨o, es, ep, e, d, r⟩ := n
      exact ⟨o, es, ep, hidT_get e (noA e d), d, r⟩
    have hKb : K.In (hidT s1.heap H) := fun b o e => hidT_get (KX b o e) (by
      cases z : H b with
      | none => rfl
      | some u =>
        have e' := hA b (by rw [z]; exact fun y => nomatch y)
        subst e'
        rw [hK (by rw [z]; exact fun y => nomatch y)] at e
        cases e)
    have hM : Mod K mg (hidT s1.heap H) := ⟨hKb, nsK hns, ⟨mb, nsK hb, hbb⟩, by
      obtain ⟨mc, h1, h2⟩ := hlim
      exact ⟨mc, nsK h1, h2⟩⟩
    have e0 : Env0 P w K mg (hidT s1.heap H) callerA [] s1 H := ⟨rfl, hM, fun b o e => of_hidT e, Nat.le_of_eq (hidT_size _ _), trivial, (fun b hb => absurd (show b ∈ ([] : List Addr) from hb) (by simp)), hok, AllBare.of_eq hg⟩
    refine codeAny_mono ((F _ hKb (nsK hns)).run callerA [] s1 H ⟨[.ref a], []⟩ [.ref a] [.ref a] _ _ hr rfl e0 (hbind s1 (.ref a)) (.cons rfl .nil) (hsp H hO hS)) fun r s' h => ?_
    cases r with
    | error e => exact False.elim h
    | ok fl =>
      cases fl with
      | next => exact False.elim h
      | brk => exact False.elim h
      | cont => exact False.elim h
      | ret u =>
        obtain ⟨v, H', os, bare, un, hok', r', z⟩ := h
        have z' : v = .bl true := z
        subst z'
        obtain rfl : u = Value.bool true := r'
        refine ⟨rfl, OldK.of_keep fun b o e => ?_, os, bare⟩
        cases y : H b with
        | none => exact un.keep b o e y (fun z => absurd (show b ∈ ([] : List Addr) from z) (by simp)) (by simp)
        | some u =>
          rcases hO b with t | ⟨ob, xs, t⟩
          · rw [y] at t; cases t
          · obtain ⟨e1, _⟩ := hok b _ t
            obtain ⟨e2, _⟩ := hok' b _ (un.frzs b ob _ t)
            rw [e] at e1
            cases e1
            exact e2
  cases hk : K.lookup a with
  | some o =>
    have e := KX a o hk
    rw [ha] at e
    cases e
    exact core (fun _ => none) (fun _ => .inl rfl) (.inr ⟨_, vs.toArray, _, hk, rfl, rfl, rfl, by rw [List.size_toArray, lenV]; exact hl, by simpa using rv⟩) (fun b u z => nomatch z) (fun b z => absurd rfl z) fun z => absurd rfl z
  | none =>
    refine core (fun b => if b = a then some (.frz { cls := .type "list", data := .seq vs.toArray } (.lst (ns.map V.int))) else none) (fun b => ?_) (.inl (.inr ⟨{ cls := .type "list", data := .seq vs.toArray }, if_pos rfl⟩)) (fun b u z => ?_) (fun b z => ?_) fun _ => hk
    · by_cases y : b = a
      · exact .inr ⟨_, _, if_pos y⟩
      · exact .inl (if_neg y)
    · by_cases y : b = a
      · cases (if_pos y).symm.trans z
        subst y
        exact ⟨ha, by rw [List.length_map]; exact hl, vs, _, rv, ha⟩
      · cases (if_neg y).symm.trans z
    · by_cases y : b = a
      · exact y
      · exact absurd (if_neg y) z
theorem walk_ofG {l : PySem.W.OpenLaw} {n k : Nat} {q : Program} {loose : List PySem.Str} {XP : (PySem.Str → Option Value) → Heap → Prop} {YP : World → Heap → Prop} {d : DefRec} {x : PySem.Str}
    (hn : l.most = some n) (hn2 : n ≤ sizeLine) (hdf : d.params.defaults = []) (hr : Room k callerA)
    (F : ∀ (w : World) (mg : PySem.Str → Option Value) (fa : Addr) (h : Heap), YP w h → h.Ns mainGlobals mg → mg d.name = some (.ref fa) →
      ∃ (K : PySem.W.Frag) (fd : FuncData) (sp : Sp), K.In h ∧ (∀ (s : Shared) (u : Value), BindsTo s fd ⟨[u], []⟩ [(x, u)]) ∧
        (∀ (H : Hp) (a : Addr) (ns : List Int), ns.length ≤ n → Only H → SqL K H a (ns.map V.int) → sp [.ref a] H (fun v _ => v = .bl true) fun _ _ _ => False) ∧
        ∀ base : Heap, K.In base → base.Ns mainGlobals mg → FnG l.prog w K mg base k fa fd [x] sp) :
    PySem.W.WalkO q loose XP YP l.row.toRowW d [] (fun f vs => PySem.call f vs) := by
  refine Att.attach_call hn hdf fun w s0 s1 mg mb fa o pm cd doc a vs ns G Y ho hd hcd hmg hobj hints hlen hg => ?_
  obtain ⟨K, fd, sp, KX, hb, hsp, hF⟩ := F w mg fa _ Y G.T.g hmg
  exact law_endG KX G.T.g G.T.b G.T.builtins G.T.nolimit hg hobj hints (Nat.le_trans hlen hn2) hr hF hb fun H hO hS => hsp H a ns hlen hO hS
end Cf

/-! Fn22: the plain law, rows. -/
namespace Cf
open PySem PySem.Spec PyProof.Rows L2

/-! ### a row's worth is linear -/
def dot (cs vs : List Int) : Int := (List.zipWith (· * ·) cs vs).sum
theorem dot_cons (c v : Int) (cs vs : List Int) : dot (c :: cs) (v :: vs) = c * v + dot cs vs := rfl
theorem dot_nil (cs : List Int) : dot cs [] = 0 := by unfold dot; rw [List.zipWith_nil_right]; rfl
theorem dot_set : ∀ (cs vs : List Int) (j : Nat) (c : Int), j < cs.length → dot (cs.set j (cs.getD j 0 + c)) vs = dot cs vs + c * vs.getD j 0
  | [], _, j, c, h => by cases h
  | a :: cs, [], j, c, h => by rw [dot_nil, dot_nil, List.getD_nil, Int.mul_zero]; rfl
  | a :: cs, v :: vs, 0, c, h => by
    show dot ((a + c) :: cs) (v :: vs) = _
    rw [dot_cons, dot_cons, Int.add_mul]
    show _ = _ + c * v
    omega
  | a :: cs, v :: vs, j + 1, c, h => by
    show dot (a :: cs.set j (cs.getD j 0 + c)) (v :: vs) = _
    rw [dot_cons, dot_cons, dot_set cs vs j c (Nat.lt_of_succ_lt_succ h)]
    show _ = _ + c * vs.getD j 0
    omega
theorem dot_zero : ∀ (n : Nat) (vs : List Int), dot (List.replicate n 0) vs = 0
  | 0, vs => by unfold dot; rfl
  | n + 1, [] => dot_nil _
  | n + 1, v :: vs => by rw [List.replicate_succ, dot_cons, dot_zero n vs]; omega
theorem dot_add : ∀ (as bs vs : List Int), as.length = bs.length → dot (List.zipWith (· + ·) as bs) vs = dot as vs + dot bs vs
  | [], [], _, _ => rfl
  | [], _ :: _, _, h => by cases h
  | _ :: _, [], _, h => by cases h
  | a :: as, b :: bs, [], h => by rw [dot_nil, dot_nil, dot_nil]; rfl
  | a :: as, b :: bs, v :: vs, h => by
    rw [List.zipWith_cons_cons, dot_cons, dot_cons, dot_cons, dot_add as bs vs (Nat.succ.inj h), Int.add_mul]
    omega
theorem rowWorth_cons (c : Int) (cs vs : List Int) : rowWorth (c :: cs) vs = c + dot cs vs := rfl
theorem worth_at0 {row vs : List Int} (h : row ≠ []) (c : Int) : rowWorth (addAt row 0 c) vs = rowWorth row vs + c := by
  cases row with
  | nil => exact absurd rfl h
  | cons a cs =>
    show rowWorth ((a + c) :: cs) vs = _
    rw [rowWorth_cons, rowWorth_cons]
    omega
theorem worth_at {row vs : List Int} {j : Nat} (h : 1 + j < row.length) (c : Int) : rowWorth (addAt row (1 + j) c) vs = rowWorth row vs + c * vs.getD j 0 := by
  cases row with
  | nil => cases h
  | cons a cs =>
    have hj : j < cs.length := by rw [List.length_cons] at h; omega
    have e : addAt (a :: cs) (1 + j) c = a :: cs.set j (cs.getD j 0 + c) := by
      unfold addAt
      rw [Nat.add_comm 1 j]
      rfl
    rw [e, rowWorth_cons, rowWorth_cons, dot_set cs vs j c hj]
    omega
theorem worth_fold (vs : List Int) (c : Int) : ∀ (rs : List Nat) (row : List Int), (∀ r ∈ rs, 1 + r < row.length) → rowWorth (rs.foldl (fun row r => addAt row (1 + r) c) row) vs = rowWorth row vs + c * (rs.map fun r => vs.getD r 0).sum
  | [], row, _ => by rw [List.foldl_nil]; show _ = _ + c * 0; omega
  | r :: rs, row, h => by
    rw [List.foldl_cons, worth_fold vs c rs _ (fun x hx => by rw [addAt_len]; exact h x (List.mem_cons_of_mem _ hx)), worth_at (h r (List.mem_cons_self ..)), List.map_cons, List.sum_cons, Int.mul_add]
    omega
/-- an addend's part of the worth, the values in one list -/
def adV (ss ns : List PySem.Str) (vs : List Int) : Ad → Int
  | .lot c => c
  | .num c x => c * vs.getD (2 ^ ss.length + ns.idxOf x) 0
  | .size c t => c * ((regs ss t).map fun r => vs.getD r 0).sum
theorem regs_lt {ss : List PySem.Str} {t : Tm} {r : Nat} (h : r ∈ regs ss t) : r < 2 ^ ss.length := List.mem_range.mp (List.mem_filter.mp h).1
theorem worth_step {ss ns : List PySem.Str} {m : Nat} {row vs : List Int} {a : Ad} (hl : row.length = 1 + (2 ^ ss.length + ns.length)) (ok : AdOk ss ns m a) : rowWorth (stepAd ss ns row a) vs = rowWorth row vs + adV ss ns vs a := by
  cases a with
  | lot c => exact worth_at0 (fun e => by rw [e, List.length_nil, Nat.add_comm 1] at hl; cases hl) c
  | num c x =>
    have := List.idxOf_lt_length_of_mem (ok.num c x rfl)
    exact worth_at (by rw [hl]; omega) c
  | size c t => exact worth_fold vs c _ _ fun r hr => by have := regs_lt hr; rw [hl]; omega
theorem worth_steps {ss ns : List PySem.Str} {m : Nat} {vs : List Int} : ∀ (as : List Ad) (row : List Int), row.length = 1 + (2 ^ ss.length + ns.length) → (∀ a ∈ as, AdOk ss ns m a) → rowWorth (as.foldl (stepAd ss ns) row) vs = rowWorth row vs + (as.map (adV ss ns vs)).sum
  | [], row, _, _ => by rw [List.foldl_nil]; show _ = _ + 0; omega
  | a :: as, row, hl, ok => by
    rw [List.foldl_cons, worth_steps as _ (by rw [stepAd_len]; exact hl) (fun b hb => ok b (List.mem_cons_of_mem _ hb)), worth_step hl (ok a (List.mem_cons_self ..)), List.map_cons, List.sum_cons]
    omega
theorem worth_rowOf {ss ns : List PySem.Str} {m : Nat} {as : List Ad} (ok : ∀ a ∈ as, AdOk ss ns m a) (vs : List Int) : rowWorth (rowOf ss ns as) vs = (as.map (adV ss ns vs)).sum := by
  unfold rowOf
  rw [worth_steps as _ List.length_replicate ok, Nat.add_comm 1, List.replicate_succ, rowWorth_cons, dot_zero]
  omega
/-! ### rows that are worth the same everywhere are the same -/
theorem dot_unit : ∀ (cs : List Int) (n k : Nat), k < cs.length → k < n → dot cs ((zs n).set k 1) = cs.getD k 0
  | [], _, k, h, _ => by cases h
  | c :: cs, 0, _, _, h => by cases h
  | c :: cs, n + 1, 0, _, _ => by
    show dot (c :: cs) (1 :: zs n) = c
    rw [dot_cons]
    have : dot cs (zs n) = 0 := by
      have e : ∀ (cs : List Int) (n : Nat), dot cs (zs n) = 0 := fun cs => by
        induction cs with
        | nil => intro n; unfold dot; rfl
        | cons c cs ih =>
          intro n
          cases n with
          | zero => exact dot_nil _
          | succ n => show dot (c :: cs) (0 :: zs n) = 0; rw [dot_cons, ih n]; omega
      exact e cs n
    omega
  | c :: cs, n + 1, k + 1, h, h2 => by
    show dot (c :: cs) (0 :: (zs n).set k 1) = cs.getD k 0
    rw [dot_cons, dot_unit cs n k (Nat.lt_of_succ_lt_succ h) (Nat.lt_of_succ_lt_succ h2)]
    omega
theorem row_ext {r1 r2 : List Int} (hl : r1.length = r2.length) (h : ∀ vs, rowWorth r1 vs = rowWorth r2 vs) : r1 = r2 := by
  cases r1 with
  | nil => cases r2 with
    | nil => rfl
    | cons b bs => cases hl
  | cons a as => cases r2 with
    | nil => cases hl
    | cons b bs =>
      have h0 := h []
      rw [rowWorth_cons, rowWorth_cons, dot_nil, dot_nil] at h0
      have hab : a = b := by omega
      have hl' : as.length = bs.length := Nat.succ.inj hl
      have : as = bs := by
        apply List.ext_getElem hl'
        intro k h1 h2
        have hk := h ((zs as.length).set k 1)
        rw [rowWorth_cons, rowWorth_cons, dot_unit as _ k h1 h1, dot_unit bs _ k h2 h1, List.getD_eq_getElem?_getD, List.getD_eq_getElem?_getD, List.getElem?_eq_getElem h1, List.getElem?_eq_getElem h2] at hk
        simp only [Option.getD_some] at hk
        omega
      rw [hab, this]
theorem rowOf_append {ss ns : List PySem.Str} {m : Nat} {as bs : List Ad} (h1 : ∀ a ∈ as, AdOk ss ns m a) (h2 : ∀ a ∈ bs, AdOk ss ns m a) : rowOf ss ns (as ++ bs) = List.zipWith (· + ·) (rowOf ss ns as) (rowOf ss ns bs) := by
  refine row_ext ?_ fun vs => ?_
  · rw [List.length_zipWith, rowOf_len, rowOf_len, rowOf_len, Nat.min_self]
  · rw [worth_rowOf (m := m) (fun a ha => by
      rcases List.mem_append.mp ha with h | h
      · exact h1 a h
      · exact h2 a h) vs, List.map_append, List.sum_append, ← worth_rowOf h1 vs, ← worth_rowOf h2 vs]
    have e1 := rowOf_len ss ns as
    have e2 := rowOf_len ss ns bs
    generalize rowOf ss ns as = ra at *
    generalize rowOf ss ns bs = rb at *
    cases ra with
    | nil => rw [List.length_nil, Nat.add_comm 1] at e1; cases e1
    | cons a ra => cases rb with
      | nil => rw [List.length_nil, Nat.add_comm 1] at e2; cases e2
      | cons b rb =>
        rw [List.zipWith_cons_cons, rowWorth_cons, rowWorth_cons, rowWorth_cons, dot_add _ _ _ (by rw [List.length_cons] at e1 e2; omega)]
        omega
/-! ### a row read back -/
theorem zs_app (R K : Nat) : zs R ++ zs K = zs (R + K) := List.replicate_append_replicate
theorem set_l {R K r : Nat} (h : r < R) : (zs R).set r 1 ++ zs K = (zs (R + K)).set r 1 := by
  rw [← zs_app, List.set_append_left _ _ (by rw [zs_len]; exact h)]
theorem set_r {R K k : Nat} : zs R ++ (zs K).set k 1 = (zs (R + K)).set (R + k) 1 := by
  rw [← zs_app, List.set_append_right _ _ (by rw [zs_len]; omega), zs_len, Nat.add_sub_cancel_left]
theorem dot_zs (cs : List Int) : ∀ n, dot cs (zs n) = 0 := by
  induction cs with
  | nil => intro n; unfold dot; rfl
  | cons c cs ih =>
    intro n
    cases n with
    | zero => exact dot_nil _
    | succ n => show dot (c :: cs) (0 :: zs n) = 0; rw [dot_cons, ih n]; omega
theorem read_back {row : List Int} {R K : Nat} (hl : row.length = 1 + (R + K)) : rdB R K (fun c v => rowWorth row (c ++ v)) = row := by
  cases row with
  | nil => rw [List.length_nil] at hl; omega
  | cons a cs =>
    have hc : cs.length = R + K := by rw [List.length_cons] at hl; omega
    unfold rdB
    dsimp only
    rw [zs_app, rowWorth_cons, dot_zs, Int.add_zero]
    congr 1
    apply List.ext_getElem
    · rw [List.length_append, List.length_map, List.length_map, List.length_range, List.length_range, hc]
    · intro k h1 h2
      rw [hc] at h2
      have e : cs[k]'(by rw [hc]; exact h2) = cs.getD k 0 := by rw [List.getD_eq_getElem?_getD, List.getElem?_eq_getElem (by rw [hc]; exact h2)]; rfl
      rw [e]
      rcases Nat.lt_or_ge k R with h | h
      · rw [List.getElem_append_left (by rw [List.length_map, List.length_range]; exact h), List.getElem_map, List.getElem_range, set_l h, rowWorth_cons, dot_unit cs _ k (by omega) (by omega)]
        omega
      · rw [List.getElem_append_right (by rw [List.length_map, List.length_range]; exact h), List.getElem_map, List.getElem_range]
        simp only [List.length_map, List.length_range]
        rw [set_r, show R + (k - R) = k from by omega, rowWorth_cons, dot_unit cs _ k (by omega) (by omega)]
        omega
/-! ### worth as the law counts it -/
theorem adV_adW {ss ns : List PySem.Str} {cnt vals : List Int} (hc : cnt.length = 2 ^ ss.length) (a : Ad) : adV ss ns (cnt ++ vals) a = adW ss ns cnt vals a := by
  cases a with
  | lot c => rfl
  | num c x =>
    show c * _ = c * _
    rw [List.getD_eq_getElem?_getD, List.getD_eq_getElem?_getD, List.getElem?_append_right (by omega), hc, Nat.add_sub_cancel_left]
  | size c t =>
    show c * _ = c * sizeOf ss cnt t
    unfold sizeOf regs
    rw [hc]
    congr 2
    refine List.map_congr_left fun r hr => ?_
    have : r < cnt.length := by rw [hc]; exact List.mem_range.mp (List.mem_filter.mp hr).1
    rw [List.getD_eq_getElem?_getD, List.getD_eq_getElem?_getD, List.getElem?_append_left this]
theorem worth_law {ss ns : List PySem.Str} {m : Nat} {as : List Ad} (ok : ∀ a ∈ as, AdOk ss ns m a) {cnt vals : List Int} (hc : cnt.length = 2 ^ ss.length) : rowWorth (rowOf ss ns as) (cnt ++ vals) = worthL ss ns cnt vals as := by
  rw [worth_rowOf ok]
  unfold worthL
  congr 1
  exact List.map_congr_left fun a _ => adV_adW hc a
end Cf

/-! Fn23: the plain law, regions, counts. -/
namespace Cf
open PySem PySem.Spec PyProof.Rows L2

/-! ### a region's names -/
theorem lie_cons {o : PySem.Str} {os : List PySem.Str} {r : Nat} {x : PySem.Str} (h : o ≠ x) : lieB (o :: os) r x = lieB os (r / 2) x := by
  show (if o = x then _ else _) = _
  rw [if_neg h]
theorem lie_self {o : PySem.Str} {os : List PySem.Str} {r : Nat} : lieB (o :: os) r o = decide (r % 2 = 1) := by
  show (if o = o then _ else _) = _
  rw [if_pos rfl]
def idxP (P : PySem.Str → Bool) : List PySem.Str → Nat
  | [] => 0
  | o :: os => (if P o then 1 else 0) + 2 * idxP P os
theorem idxP_lt (P : PySem.Str → Bool) : ∀ ss, idxP P ss < 2 ^ ss.length
  | [] => Nat.one_pos
  | o :: os => by
    have := idxP_lt P os
    rw [List.length_cons, Nat.pow_succ]
    show (if P o then 1 else 0) + 2 * idxP P os < _
    split <;> omega
theorem idxP_lie (P : PySem.Str → Bool) : ∀ {ss : List PySem.Str}, ss.Nodup → ∀ x ∈ ss, lieB ss (idxP P ss) x = P x
  | [], _, x, h => by cases h
  | o :: os, hn, x, h => by
    obtain ⟨h1, h2⟩ := List.nodup_cons.mp hn
    have hi : idxP P (o :: os) = (if P o then 1 else 0) + 2 * idxP P os := rfl
    by_cases e : o = x
    · subst e
      rw [lie_self, hi]
      cases P o with
      | true => rw [if_pos rfl]; exact decide_eq_true (by omega)
      | false => rw [if_neg (by decide)]; exact decide_eq_false (by omega)
    · have hx : x ∈ os := by
        rcases List.mem_cons.mp h with h | h
        · exact absurd h.symm e
        · exact h
      rw [lie_cons e, hi]
      have : ((if P o then 1 else 0) + 2 * idxP P os) / 2 = idxP P os := by split <;> omega
      rw [this]
      exact idxP_lie P h2 x hx
theorem lie_idx : ∀ {ss : List PySem.Str} {r : Nat} {P : PySem.Str → Bool}, ss.Nodup → r < 2 ^ ss.length → (∀ x ∈ ss, lieB ss r x = P x) → r = idxP P ss
  | [], r, P, _, h, _ => by
    have : r < 1 := h
    show r = 0
    omega
  | o :: os, r, P, hn, h, hp => by
    obtain ⟨h1, h2⟩ := List.nodup_cons.mp hn
    rw [List.length_cons, Nat.pow_succ] at h
    have ih := lie_idx (r := r / 2) (P := P) h2 (by omega) fun x hx => by
      have := hp x (List.mem_cons_of_mem _ hx)
      rwa [lie_cons (fun e => h1 (by rw [e]; exact hx))] at this
    have h0 := hp o (List.mem_cons_self ..)
    rw [lie_self] at h0
    show r = (if P o then 1 else 0) + 2 * idxP P os
    rw [← ih, ← h0]
    by_cases e : r % 2 = 1
    · rw [decide_eq_true e, if_pos rfl]; omega
    · rw [decide_eq_false e, if_neg (by decide)]; omega
theorem sel_iff {ss : List PySem.Str} (hn : ss.Nodup) (P : PySem.Str → Bool) {r : Nat} (hr : r < 2 ^ ss.length) : (selN ss r = ss.filter P) ↔ r = idxP P ss := by
  constructor
  · intro e
    refine lie_idx hn hr fun x hx => ?_
    have h1 : x ∈ selN ss r ↔ lieB ss r x = true := ⟨fun h => (List.mem_filter.mp h).2, fun h => List.mem_filter.mpr ⟨hx, h⟩⟩
    have h2 : x ∈ ss.filter P ↔ P x = true := ⟨fun h => (List.mem_filter.mp h).2, fun h => List.mem_filter.mpr ⟨hx, h⟩⟩
    rw [e] at h1
    have h3 := h1.symm.trans h2
    cases e1 : lieB ss r x <;> cases e2 : P x <;> simp_all
  · intro e
    subst e
    unfold selN
    exact List.filter_congr fun x hx => idxP_lie P hn x hx
theorem ev_congr {ss : List PySem.Str} {f g : PySem.Str → Bool} (h : ∀ x ∈ ss, f x = g x) : ∀ {t : Tm}, t.In ss → t.ev f = t.ev g
  | .nm s, hi => h s hi
  | .all, _ => rfl
  | .none, _ => rfl
  | .not t, hi => by show (!t.ev f) = (!t.ev g); rw [ev_congr h (t := t) hi]
  | .and a b, hi => by show (a.ev f && b.ev f) = (a.ev g && b.ev g); rw [ev_congr h (t := a) hi.1, ev_congr h (t := b) hi.2]
  | .or a b, hi => by show (a.ev f || b.ev f) = (a.ev g || b.ev g); rw [ev_congr h (t := a) hi.1, ev_congr h (t := b) hi.2]
  | .but a b, hi => by show (a.ev f && !b.ev f) = (a.ev g && !b.ev g); rw [ev_congr h (t := a) hi.1, ev_congr h (t := b) hi.2]
/-! ### counting -/
theorem sum_one (T : Nat → Bool) (j : Nat) : ∀ n, (((List.range n).filter T).map fun r => if r = j then (1 : Int) else 0).sum = if j < n ∧ T j = true then 1 else 0
  | 0 => rfl
  | n + 1 => by
    rw [List.range_succ, List.filter_append, List.map_append, List.sum_append, sum_one T j n]
    by_cases e : n = j
    · subst e
      rw [if_neg (by omega : ¬ (n < n ∧ _))]
      cases hT : T n with
      | true => rw [List.filter_cons_of_pos hT, if_pos ⟨Nat.lt_succ_self _, rfl⟩]; show (0 : Int) + ((if n = n then 1 else 0) + 0) = 1; rw [if_pos rfl]; rfl
      | false => rw [List.filter_cons_of_neg (by rw [hT]; decide), if_neg (fun h => by cases h.2)]; rfl
    · have e2 : ((([n] : List Nat).filter T).map fun r => if r = j then (1 : Int) else 0).sum = 0 := by
        cases hT : T n with
        | true => rw [List.filter_cons_of_pos hT]; show (if n = j then (1 : Int) else 0) + 0 = 0; rw [if_neg e]; rfl
        | false => rw [List.filter_cons_of_neg (by rw [hT]; decide)]; rfl
      rw [e2, Int.add_zero]
      by_cases h : j < n ∧ T j = true
      · rw [if_pos h, if_pos ⟨by omega, h.2⟩]
      · rw [if_neg h, if_neg (fun h' => h ⟨by omega, h'.2⟩)]
theorem sum_add {α : Type} (f g : α → Int) : ∀ l : List α, (l.map fun r => f r + g r).sum = (l.map f).sum + (l.map g).sum
  | [] => rfl
  | a :: l => by rw [List.map_cons, List.sum_cons, sum_add f g l, List.map_cons, List.sum_cons, List.map_cons, List.sum_cons]; omega
theorem sum_zero {α : Type} : ∀ l : List α, (l.map fun _ => (0 : Int)).sum = 0
  | [] => rfl
  | a :: l => by rw [List.map_cons, List.sum_cons, sum_zero l]; rfl
theorem countsOf_get {ss : List PySem.Str} {ths : List (List PySem.Str)} {r : Nat} (h : r < 2 ^ ss.length) : (countsOf ss ths).getD r 0 = (cntAt ss ths r : Int) := by
  unfold countsOf
  rw [List.getD_eq_getElem?_getD, List.getElem?_map, List.getElem?_range h]
  rfl
theorem countsOf_len (ss : List PySem.Str) (ths : List (List PySem.Str)) : (countsOf ss ths).length = 2 ^ ss.length := by
  unfold countsOf
  rw [List.length_map, List.length_range]
theorem count_sum {ss : List PySem.Str} (hn : ss.Nodup) {t : Tm} (ht : t.In ss) : ∀ {ths : List (List PySem.Str)}, (∀ l ∈ ths, ∃ P : PySem.Str → Bool, l = ss.filter P) → ((regs ss t).map fun r => (cntAt ss ths r : Int)).sum = (countT ths t : Int)
  | [], _ => by
    show ((regs ss t).map fun r => ((0 : Nat) : Int)).sum = 0
    exact sum_zero _
  | l :: ths, h => by
    obtain ⟨P, e⟩ := h l (List.mem_cons_self ..)
    have ih := count_sum hn ht (ths := ths) fun l hl => h l (List.mem_cons_of_mem _ hl)
    have hc : ∀ r ∈ regs ss t, (cntAt ss (l :: ths) r : Int) = (if r = idxP P ss then (1 : Int) else 0) + (cntAt ss ths r : Int) := fun r hr => by
      have hs := sel_iff hn P (regs_lt hr)
      unfold cntAt
      by_cases z : r = idxP P ss
      · rw [List.filter_cons_of_pos (p := fun l => decide (selN ss r = l)) (decide_eq_true (by rw [e]; exact hs.mpr z)), if_pos z, List.length_cons, Int.natCast_add]
        omega
      · rw [List.filter_cons_of_neg (p := fun l => decide (selN ss r = l)) (by rw [decide_eq_true_eq, e]; exact fun y => z (hs.mp y)), if_neg z, Int.zero_add]
    rw [List.map_congr_left hc, sum_add, ih]
    unfold regs
    rw [sum_one]
    have hev : t.ev (lieB ss (idxP P ss)) = t.ev fun x => decide (x ∈ l) := ev_congr (fun x hx => by
      rw [idxP_lie P hn x hx, e]
      cases hp : P x with
      | true => exact (decide_eq_true (List.mem_filter.mpr ⟨hx, hp⟩)).symm
      | false => exact (decide_eq_false (fun h => by rw [(List.mem_filter.mp h).2] at hp; cases hp)).symm) ht
    have hct : (countT (l :: ths) t : Int) = (if (t.ev fun x => decide (x ∈ l)) = true then (1 : Int) else 0) + (countT ths t : Int) := by
      unfold countT
      cases z : t.ev fun x => decide (x ∈ l) with
      | true => rw [List.filter_cons_of_pos (p := fun l => t.ev fun x => decide (x ∈ l)) z, if_pos rfl, List.length_cons, Int.natCast_add]; omega
      | false => rw [List.filter_cons_of_neg (p := fun l => t.ev fun x => decide (x ∈ l)) (by rw [z]; decide), if_neg (by decide), Int.zero_add]
    rw [hct, hev]
    congr 1
    by_cases z : (t.ev fun x => decide (x ∈ l)) = true
    · rw [if_pos ⟨idxP_lt P ss, z⟩, if_pos z]
    · rw [if_neg (fun h => z h.2), if_neg z]
theorem lookup_zip : ∀ (ns : List PySem.Str) (vals : List Int) (x : PySem.Str), x ∈ ns → vals.length = ns.length → (ns.zip vals).lookup x = some (vals.getD (ns.idxOf x) 0)
  | [], _, _, h, _ => by cases h
  | o :: os, [], x, h, hl => by cases hl
  | o :: os, v :: vs, x, h, hl => by
    rw [List.zip_cons_cons, List.lookup_cons]
    by_cases e : x = o
    · subst e
      rw [List.idxOf_cons_self]
      simp
    · have hb : (x == o) = false := by simpa using e
      have hi : (o :: os).idxOf x = os.idxOf x + 1 := by
        rw [List.idxOf_cons]
        have : (o == x) = false := by simpa using fun z => e z.symm
        rw [this]
        rfl
      rw [hb, hi]
      have hx : x ∈ os := by
        rcases List.mem_cons.mp h with h | h
        · exact absurd h e
        · exact h
      exact lookup_zip os vs x hx (Nat.succ.inj hl)
theorem told_worth {ss ns : List PySem.Str} {m : Nat} {vals : List Int} {ths : List (List PySem.Str)} {as : List Ad} (hn : ss.Nodup) (ok : ∀ a ∈ as, AdOk ss ns m a) (hv : vals.length = ns.length) (ht : ∀ l ∈ ths, ∃ P : PySem.Str → Bool, l = ss.filter P) :
    toldL (ns.zip vals) ths as = worthL ss ns (countsOf ss ths) vals as := by
  unfold toldL worthL
  congr 1
  refine List.map_congr_left fun a ha => ?_
  cases a with
  | lot c => rfl
  | num c x =>
    show c * _ = c * _
    rw [lookup_zip ns vals x ((ok _ ha).num c x rfl) hv]
    rfl
  | size c t =>
    show c * _ = c * sizeOf ss (countsOf ss ths) t
    rw [← count_sum hn ((ok _ ha).tin c t rfl).1 ht]
    unfold sizeOf regs
    rw [countsOf_len]
    congr 2
    exact List.map_congr_left fun r hr => (countsOf_get (List.mem_range.mp (List.mem_filter.mp hr).1)).symm
/-! ### the sum of a row -/
theorem fold_ev {ss : List PySem.Str} {r : Nat} {f : PySem.Str → Bool} : ∀ (xs : List PySem.Str) (o : Option Tm) (t : Tm), xs.foldl (fun acc x => joinT acc (sideT ss r x)) o = some t →
    (t.ev f = true ↔ (∀ u, o = some u → u.ev f = true) ∧ ∀ x ∈ xs, f x = lieB ss r x)
  | [], o, t, h => by
    have h' : o = some t := h
    subst h'
    exact ⟨fun e => ⟨fun u hu => (by cases hu; exact e), fun x hx => (by cases hx)⟩, fun e => e.1 t rfl⟩
  | x :: xs, o, t, h => by
    rw [List.foldl_cons] at h
    rw [fold_ev xs _ t h]
    have hs : (sideT ss r x).ev f = true ↔ f x = lieB ss r x := by
      unfold sideT
      cases hl : lieB ss r x with
      | true => exact Iff.rfl
      | false => show (!f x) = true ↔ _; cases f x <;> decide
    constructor
    · rintro ⟨h1, h2⟩
      cases o with
      | none => exact ⟨fun u hu => (by cases hu), fun y hy => by
          rcases List.mem_cons.mp hy with rfl | hy
          · exact hs.mp (h1 _ rfl)
          · exact h2 y hy⟩
      | some u =>
        have := h1 _ rfl
        have this' : (u.ev f && (sideT ss r x).ev f) = true := this
        obtain ⟨a, b⟩ := Bool.and_eq_true_iff.mp this'
        exact ⟨fun u' hu => (by cases hu; exact a), fun y hy => by
          rcases List.mem_cons.mp hy with rfl | hy
          · exact hs.mp b
          · exact h2 y hy⟩
    · rintro ⟨h1, h2⟩
      refine ⟨fun u hu => ?_, fun y hy => h2 y (List.mem_cons_of_mem _ hy)⟩
      have hx := hs.mpr (h2 x (List.mem_cons_self ..))
      cases o with
      | none => cases hu; exact hx
      | some v =>
        cases hu
        show (v.ev f && (sideT ss r x).ev f) = true
        rw [h1 v rfl, hx]
        rfl
theorem tmFor_ev {ss : List PySem.Str} {r : Nat} {f : PySem.Str → Bool} : (tmFor ss r).ev f = true ↔ ∀ x ∈ ss, f x = lieB ss r x := by
  unfold tmFor
  by_cases e : ss = []
  · subst e
    rw [if_pos rfl]
    exact ⟨fun _ x hx => (by cases hx), fun _ => rfl⟩
  · rw [if_neg e]
    obtain ⟨t, ht⟩ := fold_some ss r ss none (.inl e)
    have ht' : aloneO ss r ss = some t := ht
    rw [ht']
    show t.ev f = true ↔ _
    rw [fold_ev ss none t ht]
    exact ⟨fun h => h.2, fun h => ⟨fun u hu => (by cases hu), h⟩⟩
theorem regs_tmFor {ss : List PySem.Str} (hn : ss.Nodup) {j : Nat} (hj : j < 2 ^ ss.length) (g : Nat → Int) : ((regs ss (tmFor ss j)).map g).sum = g j := by
  have h1 : ∀ r ∈ List.range (2 ^ ss.length), (tmFor ss j).ev (lieB ss r) = decide (r = j) := fun r hr => by
    have hr := List.mem_range.mp hr
    by_cases e : r = j
    · rw [decide_eq_true e]
      exact tmFor_ev.mpr fun x _ => by rw [e]
    · rw [decide_eq_false e]
      cases z : (tmFor ss j).ev (lieB ss r) with
      | false => rfl
      | true =>
        have h := tmFor_ev.mp z
        exact absurd ((lie_idx hn hr h).trans (lie_idx hn hj fun x _ => rfl).symm) e
  have h2 : regs ss (tmFor ss j) = [j] := by
    unfold regs
    rw [List.filter_congr h1]
    have := filter_one hj
    refine Eq.trans (List.filter_congr fun r _ => ?_) this
    by_cases e : r = j
    · subst e; simp
    · rw [decide_eq_false e]
      exact (decide_eq_false (fun h => by rw [List.mem_singleton] at h; exact e (Int.ofNat.inj h))).symm
  rw [h2]
  show g j + 0 = g j
  omega
theorem side_in {ss : List PySem.Str} {r : Nat} {x : PySem.Str} (h : x ∈ ss) : (sideT ss r x).In ss ∧ (sideT ss r x).deep ≤ 1 := by
  unfold sideT
  split
  · exact ⟨h, Nat.zero_le _⟩
  · exact ⟨h, Nat.le_refl _⟩
theorem fold_in {ss : List PySem.Str} {r : Nat} : ∀ (xs : List PySem.Str) (o : Option Tm) (t : Tm), (∀ x ∈ xs, x ∈ ss) → xs.foldl (fun acc x => joinT acc (sideT ss r x)) o = some t →
    (∀ u, o = some u → u.In ss ∧ u.deep ≤ m) → 1 ≤ m → t.In ss ∧ t.deep ≤ m + xs.length
  | [], o, t, _, h, ho, _ => by
    have h' : o = some t := h
    subst h'
    exact ho t rfl
  | x :: xs, o, t, hx, h, ho, hm => by
    rw [List.foldl_cons] at h
    have hs := side_in (r := r) (hx x (List.mem_cons_self ..))
    obtain ⟨a, b⟩ := fold_in (m := m + 1) xs _ t (fun y hy => hx y (List.mem_cons_of_mem _ hy)) h (fun u hu => by
      cases o with
      | none => cases hu; exact ⟨hs.1, Nat.le_trans hs.2 (by omega)⟩
      | some v =>
        cases hu
        obtain ⟨c, d⟩ := ho v rfl
        exact ⟨⟨c, hs.1⟩, by show max v.deep _ + 1 ≤ _; omega⟩) (by omega)
    exact ⟨a, by rw [List.length_cons]; omega⟩
theorem tmFor_in (ss : List PySem.Str) (r : Nat) : (tmFor ss r).In ss ∧ (tmFor ss r).deep ≤ 1 + ss.length := by
  unfold tmFor
  by_cases e : ss = []
  · rw [if_pos e]; exact ⟨trivial, Nat.zero_le _⟩
  · rw [if_neg e]
    obtain ⟨t, ht⟩ := fold_some ss r ss none (.inl e)
    have ht' : aloneO ss r ss = some t := ht
    rw [ht']
    exact fold_in (m := 1) ss none t (fun x h => h) ht (fun u hu => by cases hu) (Nat.le_refl _)
end Cf

/-! Fn24: the sum of a row; bounds; what repr takes. -/
namespace Cf
open PySem PySem.Spec PyProof.Rows L2

/-! ### sum_for -/
theorem dot_range : ∀ (cs vs : List Int), dot cs vs = ((List.range cs.length).map fun j => cs.getD j 0 * vs.getD j 0).sum
  | [], vs => by unfold dot; rfl
  | c :: cs, [] => by
    rw [dot_nil]
    have : (fun (j : Nat) => (c :: cs).getD j 0 * ([] : List Int).getD j 0) = fun _ => (0 : Int) := by
      funext j
      rw [List.getD_nil, Int.mul_zero]
    rw [this, sum_zero]
  | c :: cs, v :: vs => by
    rw [dot_cons, dot_range cs vs, List.length_cons, List.range_succ_eq_map, List.map_cons, List.sum_cons, List.map_map]
    rfl
theorem sum_filter {α : Type} (p : α → Bool) (f : α → Int) : ∀ l : List α, (∀ a ∈ l, p a = false → f a = 0) → ((l.filter p).map f).sum = (l.map f).sum
  | [], _ => rfl
  | a :: l, h => by
    have ih := sum_filter p f l fun b hb => h b (List.mem_cons_of_mem _ hb)
    cases hp : p a with
    | true => rw [List.filter_cons_of_pos hp, List.map_cons, List.sum_cons, ih, List.map_cons, List.sum_cons]
    | false => rw [List.filter_cons_of_neg (by rw [hp]; decide), ih, List.map_cons, List.sum_cons, h a (List.mem_cons_self ..) hp, Int.zero_add]
theorem adV_zero {ss ns : List PySem.Str} {vs : List Int} {a : Ad} (h : a.c = 0) : adV ss ns vs a = 0 := by
  cases a with
  | lot c => exact h
  | num c x => show c * _ = 0; rw [show c = 0 from h, Int.zero_mul]
  | size c t => show c * _ = 0; rw [show c = 0 from h, Int.zero_mul]
theorem idx_self : ∀ {l : List PySem.Str}, l.Nodup → ∀ (i : Nat) (h : i < l.length), l.idxOf l[i] = i
  | [], _, i, h => by cases h
  | o :: os, hn, 0, _ => List.idxOf_cons_self
  | o :: os, hn, i + 1, h => by
    obtain ⟨h1, h2⟩ := List.nodup_cons.mp hn
    have hi : i < os.length := Nat.lt_of_succ_lt_succ h
    show (o :: os).idxOf os[i] = i + 1
    have hne : (o == os[i]) = false := by
      have : o ≠ os[i] := fun e => h1 (by rw [e]; exact List.getElem_mem hi)
      simpa using this
    rw [List.idxOf_cons, hne]
    show os.idxOf os[i] + 1 = i + 1
    rw [idx_self h2 i hi]
theorem sz_sum {ss ns : List PySem.Str} (hs : ss.Nodup) (vs cs : List Int) (hl : cs.length ≤ 2 ^ ss.length) : ((szAds ss cs).map (adV ss ns vs)).sum = ((List.range cs.length).map fun j => cs.getD j 0 * vs.getD j 0).sum := by
  unfold szAds
  rw [List.map_map]
  congr 1
  refine List.map_congr_left fun j hj => ?_
  have hj := List.mem_range.mp hj
  show cs.getD j 0 * ((regs ss (tmFor ss j)).map fun r => vs.getD r 0).sum = _
  rw [regs_tmFor hs (by omega)]
theorem nm_sum {ss ns : List PySem.Str} (hn : ns.Nodup) (vs cs : List Int) (hl : cs.length = ns.length) : ((nmAds ns cs).map (adV ss ns vs)).sum = ((List.range cs.length).map fun j => cs.getD j 0 * vs.getD (2 ^ ss.length + j) 0).sum := by
  congr 1
  unfold nmAds
  apply List.ext_getElem
  · rw [List.length_map, List.length_zipWith, List.length_map, List.length_range, hl, Nat.min_self]
  · intro i h1 h2
    rw [List.length_map, List.length_range] at h2
    rw [List.getElem_map, List.getElem_zipWith, List.getElem_map, List.getElem_range]
    show cs[i] * vs.getD (2 ^ ss.length + ns.idxOf ns[i]) 0 = _
    rw [idx_self hn, show cs.getD i 0 = cs[i] from by rw [List.getD_eq_getElem?_getD, List.getElem?_eq_getElem h2]; rfl]
theorem getD_take {l : List Int} {n j : Nat} (h : j < n) : (l.take n).getD j 0 = l.getD j 0 := by
  rw [List.getD_eq_getElem?_getD, List.getD_eq_getElem?_getD, List.getElem?_take_of_lt h]
theorem getD_drop {l : List Int} {n j : Nat} : (l.drop n).getD j 0 = l.getD (n + j) 0 := by
  rw [List.getD_eq_getElem?_getD, List.getD_eq_getElem?_getD, List.getElem?_drop]
theorem sumFor_sum {ss ns : List PySem.Str} (hs : ss.Nodup) (hn : ns.Nodup) {row : List Int} (hl : row.length = 1 + (2 ^ ss.length + ns.length)) (vs : List Int) : ((sumFor ss ns row).map (adV ss ns vs)).sum = rowWorth row vs := by
  unfold sumFor
  rw [sum_filter _ _ _ (fun a _ ha => adV_zero (by simpa using ha))]
  cases row with
  | nil => rw [List.length_nil, Nat.add_comm 1] at hl; cases hl
  | cons c cs =>
    have hc : cs.length = 2 ^ ss.length + ns.length := by rw [List.length_cons, Nat.add_comm 1] at hl; exact Nat.succ.inj hl
    unfold allAds
    rw [List.map_cons, List.sum_cons, List.map_append, List.sum_append, List.tail_cons, rowWorth_cons, dot_range, sz_sum hs vs _ (by rw [List.length_take]; exact Nat.min_le_left _ _), nm_sum hn vs _ (by rw [List.length_drop, hc, Nat.add_sub_cancel_left])]
    have e1 : (cs.take (2 ^ ss.length)).length = 2 ^ ss.length := by rw [List.length_take, hc]; exact Nat.min_eq_left (Nat.le_add_right _ _)
    have e2 : (cs.drop (2 ^ ss.length)).length = ns.length := by rw [List.length_drop, hc, Nat.add_sub_cancel_left]
    rw [e1, e2, hc, List.range_add, List.map_append, List.sum_append, List.map_map]
    show c + _ = _
    congr 1
    congr 1
    · congr 1
      exact List.map_congr_left fun j hj => by rw [getD_take (List.mem_range.mp hj)]
    · congr 1
      exact List.map_congr_left fun j hj => by rw [getD_drop]; rfl
theorem sumFor_ok {ss ns : List PySem.Str} {row : List Int} (hs : ss.length ≤ 3) : ∀ a ∈ sumFor ss ns row, AdOk ss ns 6 a := fun a ha => by
  have ha := (List.mem_filter.mp ha).1
  unfold allAds at ha
  rcases List.mem_cons.mp ha with rfl | ha
  · exact ⟨fun c x e => (by cases e), fun c t e => (by cases e)⟩
  · rcases List.mem_append.mp ha with ha | ha
    · unfold szAds at ha
      obtain ⟨j, hj, rfl⟩ := List.mem_map.mp ha
      obtain ⟨h1, h2⟩ := tmFor_in ss j
      exact ⟨fun c x e => (by cases e), fun c t e => (by cases e; exact ⟨h1, by omega⟩)⟩
    · unfold nmAds at ha
      obtain ⟨i, hi, e⟩ := List.mem_iff_getElem.mp ha
      rw [List.getElem_zipWith] at e
      rw [← e]
      exact ⟨fun c x e => (by cases e; exact List.getElem_mem _), fun c t e => (by cases e)⟩
theorem rowOf_sumFor {ss ns : List PySem.Str} (hs : ss.Nodup) (hn : ns.Nodup) (h3 : ss.length ≤ 3) {row : List Int} (hl : row.length = 1 + (2 ^ ss.length + ns.length)) : rowOf ss ns (sumFor ss ns row) = row :=
  row_ext (by rw [rowOf_len, hl]) fun vs => by rw [worth_rowOf (sumFor_ok h3), sumFor_sum hs hn hl]
/-! ### bounds -/
theorem at_bd {row : List Int} {B : Nat} {j : Nat} {c : Int} (h : ∀ i ∈ row, i.natAbs ≤ B) : ∀ i ∈ addAt row j c, i.natAbs ≤ B + c.natAbs := fun i hi => by
  unfold addAt at hi
  rcases List.mem_or_eq_of_mem_set hi with h1 | h1
  · have := h i h1; omega
  · have hg : (row.getD j 0).natAbs ≤ B := by
      rw [List.getD_eq_getElem?_getD]
      cases e : row[j]? with
      | none => exact Nat.zero_le _
      | some x => exact h x (List.mem_of_getElem? e)
    rw [h1]
    omega
theorem fold_bd {c : Int} : ∀ (rs : List Nat) (row : List Int) (B : Nat), (∀ i ∈ row, i.natAbs ≤ B) → ∀ i ∈ rs.foldl (fun row r => addAt row (1 + r) c) row, i.natAbs ≤ B + rs.length * c.natAbs
  | [], row, B, h, i, hi => by have := h i hi; omega
  | r :: rs, row, B, h, i, hi => by
    rw [List.foldl_cons] at hi
    have := fold_bd rs _ (B + c.natAbs) (at_bd h) i hi
    rw [List.length_cons, Nat.add_mul]
    omega
theorem step_bd {ss ns : List PySem.Str} {row : List Int} {B K : Nat} {a : Ad} (hs : ss.length ≤ 3) (hc : a.c.natAbs ≤ K) (h : ∀ i ∈ row, i.natAbs ≤ B) : ∀ i ∈ stepAd ss ns row a, i.natAbs ≤ B + 8 * K := fun i hi => by
  cases a with
  | lot c => have := at_bd h i hi; have hc' : c.natAbs ≤ K := hc; omega
  | num c x => have := at_bd h i hi; have hc' : c.natAbs ≤ K := hc; omega
  | size c t =>
    have h1 := fold_bd _ _ _ h i hi
    have hc' : c.natAbs ≤ K := hc
    have h8 : 2 ^ ss.length ≤ 8 := by
      have : 2 ^ ss.length ≤ 2 ^ 3 := Nat.pow_le_pow_right (by decide) hs
      omega
    have hl : (regs ss t).length ≤ 8 := by
      unfold regs
      exact Nat.le_trans (List.length_filter_le _ _) (by rw [List.length_range]; exact h8)
    have := Nat.mul_le_mul hl hc'
    omega
theorem steps_bd {ss ns : List PySem.Str} {K : Nat} (hs : ss.length ≤ 3) : ∀ (as : List Ad) (row : List Int) (B : Nat), (∀ a ∈ as, a.c.natAbs ≤ K) → (∀ i ∈ row, i.natAbs ≤ B) → ∀ i ∈ as.foldl (stepAd ss ns) row, i.natAbs ≤ B + as.length * (8 * K)
  | [], row, B, _, h, i, hi => by have := h i hi; omega
  | a :: as, row, B, hc, h, i, hi => by
    rw [List.foldl_cons] at hi
    have := steps_bd hs as _ (B + 8 * K) (fun b hb => hc b (List.mem_cons_of_mem _ hb)) (step_bd hs (hc a (List.mem_cons_self ..)) h) i hi
    rw [List.length_cons, Nat.add_mul]
    omega
theorem rowOf_bd {ss ns : List PySem.Str} {as : List Ad} (hs : ss.length ≤ 3) (hl : as.length ≤ 12) (hc : ∀ a ∈ as, Sm a.c) : ∀ i ∈ rowOf ss ns as, Bd i := fun i hi => by
  have h := steps_bd (ns := ns) hs as (List.replicate (1 + (2 ^ ss.length + ns.length)) 0) 0 hc (fun j hj => by rw [List.eq_of_mem_replicate hj]; exact Nat.le_refl _) i hi
  have h2 : as.length * (8 * 10 ^ 30) ≤ 12 * (8 * 10 ^ 30) := Nat.mul_le_mul_right _ hl
  have h3 : 12 * (8 * 10 ^ 30) < 2 ^ 200 := by decide
  unfold Bd
  omega
theorem sum_bd {M : Nat} : ∀ {l : List Int}, (∀ i ∈ l, i.natAbs ≤ M) → l.sum.natAbs ≤ l.length * M
  | [], _ => Nat.zero_le _
  | a :: l, h => by
    have h1 := sum_bd (l := l) fun i hi => h i (List.mem_cons_of_mem _ hi)
    have h2 := h a (List.mem_cons_self ..)
    rw [List.sum_cons, List.length_cons, Nat.add_mul]
    omega
theorem getD_bd {l : List Int} {M j : Nat} (h : ∀ i ∈ l, i.natAbs ≤ M) : (l.getD j 0).natAbs ≤ M := by
  rw [List.getD_eq_getElem?_getD]
  cases e : l[j]? with
  | none => exact Nat.zero_le _
  | some x => exact h x (List.mem_of_getElem? e)
theorem sizeOf_bd {ss : List PySem.Str} {cnt : List Int} {t : Tm} {M : Nat} (hl : cnt.length ≤ 8) (h : ∀ i ∈ cnt, i.natAbs ≤ M) : (sizeOf ss cnt t).natAbs ≤ 8 * M := by
  unfold sizeOf
  refine Nat.le_trans (sum_bd (M := M) fun i hi => ?_) (Nat.mul_le_mul_right _ ?_)
  · obtain ⟨r, _, rfl⟩ := List.mem_map.mp hi
    exact getD_bd h
  · rw [List.length_map]
    exact Nat.le_trans (List.length_filter_le _ _) (by rw [List.length_range]; exact hl)
theorem worth_bd {ss ns : List PySem.Str} {cnt vals : List Int} {as : List Ad} (hl : cnt.length ≤ 8) (ha : as.length ≤ 12) (hc : ∀ a ∈ as, Sm a.c) (h1 : ∀ i ∈ cnt, i.natAbs ≤ 8 * 10 ^ 30) (h2 : ∀ i ∈ vals, i.natAbs ≤ 8 * 10 ^ 30) : (worthL ss ns cnt vals as).natAbs ≤ 12 * (10 ^ 30 * (8 * (8 * 10 ^ 30))) := by
  unfold worthL
  refine Nat.le_trans (sum_bd (M := 10 ^ 30 * (8 * (8 * 10 ^ 30))) fun i hi => ?_) (Nat.mul_le_mul_right _ (by rw [List.length_map]; exact ha))
  obtain ⟨a, hin, rfl⟩ := List.mem_map.mp hi
  have hca : a.c.natAbs ≤ 10 ^ 30 := hc a hin
  cases a with
  | lot c =>
    have hca' : c.natAbs ≤ 10 ^ 30 := hca
    show c.natAbs ≤ _
    exact Nat.le_trans hca' (by decide)
  | num c x =>
    show (c * _).natAbs ≤ _
    rw [Int.natAbs_mul]
    exact Nat.mul_le_mul hca (Nat.le_trans (getD_bd h2) (by decide))
  | size c t =>
    show (c * _).natAbs ≤ _
    rw [Int.natAbs_mul]
    exact Nat.mul_le_mul hca (sizeOf_bd hl h1)
end Cf

/-! Fn25: what repr takes; comparing tuples of whole numbers. -/
namespace Cf
open PySem PySem.Spec PyProof.Rows L2
structure Ni (d : Dt) (dp wt : Nat) : Prop where
  pl : plainD d = true
  cl : (toPy d).canLay0 = true
  is : (toPy d).intsShort 201 = true
  sh : (toPy d).showable = true
  dp : (toPy d).depth ≤ dp
  wt : (toPy d).weight ≤ wt
structure Nis (ds : List Dt) (dp wt : Nat) : Prop where
  pl : plainDs ds = true
  cl : PyData.canLayAll0 (toPyAll ds) = true
  is : PyData.intsShortAll 201 (toPyAll ds) = true
  sh : PyData.showableAll (toPyAll ds) = true
  dp : PyData.depthAll (toPyAll ds) ≤ dp
  wt : PyData.weightAll (toPyAll ds) ≤ wt
theorem Ni.mono {d : Dt} {dp wt dp' wt' : Nat} (h : Ni d dp wt) (h1 : dp ≤ dp') (h2 : wt ≤ wt') : Ni d dp' wt' := ⟨h.pl, h.cl, h.is, h.sh, Nat.le_trans h.dp h1, Nat.le_trans h.wt h2⟩
theorem bd_log {i : Int} (h : Bd i) : i.natAbs.log2 < 200 := by
  by_cases e : i.natAbs = 0
  · rw [e]; decide
  · exact (Nat.log2_lt e).mpr h
theorem ni_int {i : Int} (h : Bd i) : Ni (.int i) 0 200 := by
  have hl := bd_log h
  refine ⟨rfl, rfl, ?_, ?_, Nat.le_refl _, ?_⟩
  · show decide ((PyData.shown (.int i)).length ≤ 201) = true
    refine decide_eq_true ?_
    have e := int_text_length_le (k := 200) (by decide) hl
    have e2 : PyData.shown (.int i) = PySem.Str.ofString (toString i) := by unfold PyData.shown; rfl
    rw [e2, PySem.ofString_length]
    exact e
  · show decide (i.natAbs.log2 < 1920) = true
    exact decide_eq_true (by omega)
  · show (if i == 0 then 0 else i.natAbs.log2 + 1) ≤ 200
    split <;> omega
theorem ni_str {s : PySem.Str} (h : PyData.strOk s = true) (hl : s.length ≤ 8) : Ni (.str s) 0 8 := ⟨rfl, h, rfl, rfl, Nat.le_refl _, hl⟩
theorem nis_nil {dp : Nat} : Nis [] dp 0 := ⟨rfl, rfl, rfl, rfl, Nat.zero_le _, Nat.le_refl _⟩
theorem nis_cons {d : Dt} {ds : List Dt} {dp w w' : Nat} (h : Ni d dp w) (h' : Nis ds dp w') : Nis (d :: ds) dp (w + 1 + w') := by
  refine ⟨?_, ?_, ?_, ?_, ?_, ?_⟩
  · show (plainD d && plainDs ds) = true; rw [h.pl, h'.pl]; rfl
  · show ((toPy d).canLay0 && PyData.canLayAll0 (toPyAll ds)) = true; rw [h.cl, h'.cl]; rfl
  · show ((toPy d).intsShort 201 && PyData.intsShortAll 201 (toPyAll ds)) = true; rw [h.is, h'.is]; rfl
  · show ((toPy d).showable && PyData.showableAll (toPyAll ds)) = true; rw [h.sh, h'.sh]; rfl
  · show max (toPy d).depth (PyData.depthAll (toPyAll ds)) ≤ dp
    exact Nat.max_le.mpr ⟨h.dp, h'.dp⟩
  · show (toPy d).weight + 1 + PyData.weightAll (toPyAll ds) ≤ _
    have := h.wt
    have := h'.wt
    omega
theorem ni_tup {ds : List Dt} {dp w : Nat} (h : Nis ds dp w) : Ni (.tup ds) (dp + 1) w := ⟨h.pl, h.cl, h.is, h.sh, Nat.succ_le_succ h.dp, h.wt⟩
theorem ni_lst {ds : List Dt} {dp w : Nat} (h : Nis ds dp w) : Ni (.lst ds) (dp + 1) w := ⟨h.pl, h.cl, h.is, h.sh, Nat.succ_le_succ h.dp, h.wt⟩
theorem nis_map {α : Type} {f : α → Dt} {dp w : Nat} : ∀ {l : List α}, (∀ x ∈ l, Ni (f x) dp w) → Nis (l.map f) dp (l.length * (w + 1))
  | [], _ => by rw [List.length_nil, Nat.zero_mul]; exact nis_nil
  | a :: l, h => by
    have := nis_cons (h a (List.mem_cons_self ..)) (nis_map fun x hx => h x (List.mem_cons_of_mem _ hx))
    have e : w + 1 + l.length * (w + 1) = (a :: l).length * (w + 1) := by rw [List.length_cons, Nat.add_mul, Nat.one_mul, Nat.add_comm]
    rw [← e]
    exact this
theorem ni_ints {l : List Int} (h : ∀ i ∈ l, Bd i) : Nis (l.map Dt.int) 0 (l.length * 201) := nis_map fun i hi => ni_int (h i hi)
theorem Ni.rp {d : Dt} {dp w : Nat} (h : Ni d dp w) (hr : isRef d = true) (h1 : dp ≤ 100) (h2 : w ≤ 80000) : RpOk d := by
  refine ⟨h.pl, hr, h.sh, PyData.hasDict_of_canLay _ h.cl, Nat.le_trans h.dp h1, ?_⟩
  have := PyData.shown_le 201 (by decide) _ (PyData.leavesShort_of_canLay0 201 _ h.cl h.is)
  have h3 := Nat.mul_le_mul_left (201 + 2) (Nat.le_trans h.wt h2)
  omega
theorem ni_nm {s : PySem.Str} (h : NmOk s) : Ni (.str s) 0 8 := ni_str h.strOk h.hi
theorem one2 (n : Nat) : 20 ≤ 20 * 2 ^ n := by
  have : 1 ≤ 2 ^ n := Nat.one_le_two_pow
  omega
theorem ni_word {ds : List Dt} {wd : PySem.Str} {dp w : Nat} (h : PyData.strOk wd = true) (hl : wd.length ≤ 8) (hn : Nis ds dp w) : Ni (.tup (.str wd :: ds)) (dp + 1) (9 + w) :=
  ni_tup (nis_cons ((ni_str h hl).mono (Nat.zero_le _) (Nat.le_refl _)) hn)
theorem ni_two {ss : List PySem.Str} {wd : PySem.Str} {a b : Tm} {wa wb : Nat} (h : PyData.strOk wd = true) (hl : wd.length ≤ 8) (a1 : wa + 11 ≤ 20 * 2 ^ a.deep) (a2 : Ni (tD a) (a.deep + 1) wa) (b1 : wb + 11 ≤ 20 * 2 ^ b.deep) (b2 : Ni (tD b) (b.deep + 1) wb) :
    ∃ w, w + 11 ≤ 20 * 2 ^ (max a.deep b.deep + 1) ∧ Ni (.tup [.str wd, tD a, tD b]) (max a.deep b.deep + 1 + 1) w := by
  have pa : 2 ^ a.deep ≤ 2 ^ max a.deep b.deep := Nat.pow_le_pow_right (by decide) (Nat.le_max_left _ _)
  have pb : 2 ^ b.deep ≤ 2 ^ max a.deep b.deep := Nat.pow_le_pow_right (by decide) (Nat.le_max_right _ _)
  refine ⟨9 + (wa + 1 + (wb + 1 + 0)), ?_, ni_word h hl (nis_cons (a2.mono (by omega) (Nat.le_refl _)) (nis_cons (b2.mono (by omega) (Nat.le_refl _)) nis_nil))⟩
  rw [Nat.pow_succ]
  omega
theorem ni_tm {ss : List PySem.Str} (ok : ∀ s ∈ ss, NmOk s) : ∀ {t : Tm}, t.In ss → ∃ w, w + 11 ≤ 20 * 2 ^ t.deep ∧ Ni (tD t) (t.deep + 1) w
  | .nm s, h => ⟨8, Nat.le_trans (by decide) (one2 _), (ni_nm (ok s h)).mono (Nat.zero_le _) (Nat.le_refl _)⟩
  | .all, _ => ⟨9 + 0, Nat.le_trans (by decide) (one2 _), ni_word (by decide +kernel) (by decide +kernel) nis_nil⟩
  | .none, _ => ⟨9 + 0, Nat.le_trans (by decide) (one2 _), ni_word (by decide +kernel) (by decide +kernel) nis_nil⟩
  | .not t, h => by
    obtain ⟨w, h1, h2⟩ := ni_tm ok (t := t) h
    refine ⟨9 + (w + 1 + 0), ?_, ni_word (by decide +kernel) (by decide +kernel) (nis_cons h2 nis_nil)⟩
    show 9 + (w + 1 + 0) + 11 ≤ 20 * 2 ^ (t.deep + 1)
    rw [Nat.pow_succ]
    omega
  | .and a b, h => by
    obtain ⟨wa, a1, a2⟩ := ni_tm ok (t := a) h.1
    obtain ⟨wb, b1, b2⟩ := ni_tm ok (t := b) h.2
    exact ni_two (ss := ss) (by decide +kernel) (by decide +kernel) a1 a2 b1 b2
  | .or a b, h => by
    obtain ⟨wa, a1, a2⟩ := ni_tm ok (t := a) h.1
    obtain ⟨wb, b1, b2⟩ := ni_tm ok (t := b) h.2
    exact ni_two (ss := ss) (by decide +kernel) (by decide +kernel) a1 a2 b1 b2
  | .but a b, h => by
    obtain ⟨wa, a1, a2⟩ := ni_tm ok (t := a) h.1
    obtain ⟨wb, b1, b2⟩ := ni_tm ok (t := b) h.2
    exact ni_two (ss := ss) (by decide +kernel) (by decide +kernel) a1 a2 b1 b2
theorem sm_bd {i : Int} (h : Sm i) : Bd i := Nat.lt_of_le_of_lt h (by decide)
theorem ni_ad {ss ns : List PySem.Str} (o1 : ∀ s ∈ ss, NmOk s) (o2 : ∀ s ∈ ns, NmOk s) {a : Ad} (h : AdOk ss ns 3 a) (hc : Sm a.c) : Ni (aD a) 5 400 := by
  have hi : Ni (.int a.c) 0 200 := ni_int (sm_bd hc)
  cases a with
  | lot c => exact (ni_word (by decide +kernel) (by decide +kernel) (nis_cons hi nis_nil)).mono (by decide) (by decide)
  | num c x => exact (ni_word (by decide +kernel) (by decide +kernel) (nis_cons hi (nis_cons (ni_nm (o2 x (h.num c x rfl))) nis_nil))).mono (by decide) (by decide)
  | size c t =>
    obtain ⟨h1, h2⟩ := h.tin c t rfl
    obtain ⟨w, w1, w2⟩ := ni_tm o1 h1
    have p : 2 ^ t.deep ≤ 2 ^ 3 := Nat.pow_le_pow_right (by decide) h2
    exact (ni_word (by decide +kernel) (by decide +kernel) (nis_cons (hi.mono (Nat.zero_le 4) (Nat.le_refl _)) (nis_cons (w2.mono (by omega) (Nat.le_refl _)) nis_nil))).mono (by decide) (by omega)
theorem ni_ads {ss ns : List PySem.Str} (o1 : ∀ s ∈ ss, NmOk s) (o2 : ∀ s ∈ ns, NmOk s) {as : List Ad} (hl : as.length ≤ 6) (h : ∀ a ∈ as, AdOk ss ns 3 a) (hc : ∀ a ∈ as, Sm a.c) : Ni (.tup (as.map aD)) 6 2406 :=
  (ni_tup (nis_map fun a ha => ni_ad o1 o2 (h a ha) (hc a ha))).mono (by decide) (Nat.le_trans (Nat.mul_le_mul_right _ hl) (by decide))
theorem ni_world {cnt vals : List Int} (h1 : ∀ i ∈ cnt, Bd i) (h2 : ∀ i ∈ vals, Bd i) (l1 : cnt.length ≤ 8) (l2 : vals.length ≤ 2) : Ni (.tup [.tup (cnt.map Dt.int), .tup (vals.map Dt.int)]) 2 3000 :=
  (ni_tup (nis_cons (ni_tup (ni_ints h1)) (nis_cons (ni_tup (ni_ints h2)) nis_nil))).mono (by decide) (by
    have := Nat.mul_le_mul_right 201 l1
    have := Nat.mul_le_mul_right 201 l2
    omega)
theorem ni_kept {d1 d2 d3 : Dt} (h1 : Ni d1 2 3000) (h2 : Ni d2 6 2406) (h3 : Ni d3 6 2406) : RpOk (.tup [d1, d2, d3]) :=
  (ni_tup (nis_cons (h1.mono (by decide : 2 ≤ 6) (Nat.le_refl _)) (nis_cons h2 (nis_cons h3 nis_nil)))).rp rfl (by decide) (by decide)
theorem rp_ints {l : List Int} (h : ∀ i ∈ l, Bd i) (hl : l.length ≤ 100) : RpOk (.tup (l.map Dt.int)) :=
  (ni_tup (ni_ints h)).rp rfl (by decide) (by have := Nat.mul_le_mul_right 201 hl; omega)
theorem rp_lst {l : List Int} (h : ∀ i ∈ l, Bd i) (hl : l.length ≤ 100) : RpOk (.lst (l.map Dt.int)) :=
  (ni_lst (ni_ints h)).rp rfl (by decide) (by have := Nat.mul_le_mul_right 201 hl; omega)
/-! ### tuples of whole numbers that are the same -/
theorem toPy_ints : ∀ (as : List Int), toPyAll (as.map Dt.int) = as.map PyData.int
  | [] => rfl
  | a :: as => by
    rw [List.map_cons]
    unfold toPyAll
    rw [toPy_ints as]
    rfl
theorem eqv_self : ∀ (as : List Int), PyData.eqvAll (as.map PyData.int) (as.map PyData.int) = true
  | [] => rfl
  | a :: as => by
    rw [List.map_cons]
    unfold PyData.eqvAll
    rw [eqv_self as, Bool.and_true]
    show decide (a = a) = true
    exact decide_eq_true rfl
section
variable {X : Cx} {C : Addr} {q : Option Addr} {env : En} {cs : Cs} {a b : Expr} {pos : Pos} {as : List Int}
theorem td_neT (hu : X.A.units + 64 < cLine) (hb' : ∀ i ∈ as, Bd i) (ha : ED X C q a env cs (.tup (as.map Dt.int))) (hb : ED X C q b env cs (.tup (as.map Dt.int))) : TD X C q (.Compare a [.NotEq] [b] pos) env cs false :=
  td_cmp (op_neD hu) (nomark _) ha hb (by
    have n := ni_tup (ni_ints hb')
    have sh : SeqAt.shaped (toPy (.tup (as.map Dt.int))) = true := by
      unfold SeqAt.shaped
      rw [n.cl, Bool.true_and]
      exact decide_eq_true (Nat.le_trans n.dp (by decide))
    have h := rr_neD (K := X.K) (C := C) (q := q) (d1 := .tup (as.map Dt.int)) (d2 := .tup (as.map Dt.int)) n.pl n.pl sh sh
    have e : PyData.eqv (toPy (.tup (as.map Dt.int))) (toPy (.tup (as.map Dt.int))) = true := by
      unfold toPy
      rw [toPy_ints]
      unfold PyData.eqv
      exact eqv_self as
    rw [e] at h
    exact h)
end
end Cf

/-! Fn26: what the law's main def calls. -/
namespace Cf
open PySem PySem.Spec PyProof.Rows L2
theorem AdOk.mono {ss ns : List PySem.Str} {m m' : Nat} {a : Ad} (h : AdOk ss ns m a) (hm : m ≤ m') : AdOk ss ns m' a := ⟨h.num, fun c t e => ⟨(h.tin c t e).1, Nat.le_trans (h.tin c t e).2 hm⟩⟩
def HasAdd (P : Program) (w : World) (K : PySem.W.Frag) (mg : PySem.Str → Option Value) (base : Heap) (C : Addr) : Prop := ∃ f fd, mg "added" = some (.ref f) ∧ FnP K "added" 10 f fd ∧ FnOk P w K mg base CX0 1 f fd ["rows", "weights", "width"] (SpQ K C 0 preAd (fun ds d => d = addedF ds))
theorem kbAdd {K : PySem.W.Frag} {f : Addr} {fd : FuncData} (F : FnP K "added" 10 f fd) : KBn K fd ["rows", "weights", "width"] 2 ["width"] (fun us ws => us ++ ws) (fun vs zs => vs ++ zs) := by
  obtain ⟨oc, od, dV, kV, doc, pm, an, cdv, ct, osl, rfl, lk, hcd, hD, hK⟩ := F.ex
  rcases hD with ⟨_, rfl⟩ | ⟨e, _⟩
  · exact ⟨fun s us ws X l1 l2 => match us, ws, l1, l2 with | [_, _], [_], _, _ => BindsTo.of_looks fun M => PySem.W.Looks.of_pure rfl, fun h1 h2 => h1.append h2⟩
  · exact absurd rfl e
/-- all that the main def calls -/
structure Ks (P : Program) (w : World) (K : PySem.W.Frag) (mg : PySem.Str → Option Value) (base : Heap) (C : Addr) : Prop where
  tk : TlK K C
  g : Bi mg
  tg : HasF P w K mg base 3 "_law_tongue" ["_law_pool_here", "_law_many", "_law_numbers"] (SpTg K C)
  gr : HasF P w K mg base 2 "_law_great" ["_law_pool_here"] (SpGr K C)
  ta : HasF P w K mg base 1 "_law_take" ["_law_pool_here", "_law_many"] (SpTk K C)
  mkT : HasI P w K mg base C 3
  ms : HasF P w K mg base 6 "_law_mild_sum" ["_law_pool_here", "_law_tongue_here"] (SpMs K C)
  to : HasF P w K mg base 5 "_law_told" ["_law_things", "_law_values", "_law_addends"] (SpLt K C 3)
  co : HasF P w K mg base 2 "_law_counts_of" ["_law_sets", "_law_things"] (SpQ K C 0 preCo (fun ds d => d = coF ds))
  wd : HasF P w K mg base 3 "_law_world" ["_law_pool_here", "_law_tongue_here", "_law_top"] (SpWd K C)
  wo : HasF P w K mg base 13 "worth_of" ["talk", "world", "addends"] (SpWo K C 6)
  ro : HasF P w K mg base 12 "row_of" ["talk", "addends"] (SpRo K C 6)
  ad : HasAdd P w K mg base C
  le : HasM P w K mg base C 2 "__len__" ["self"] (SpLen K C)
  lw : HasF P w K mg base 7 "_law_worth" ["_law_tongue_here", "_law_world_here", "_law_addends"] (SpLw K C 3)
  rw' : HasF P w K mg base 1 "row_worth" ["row", "values"] (SpRw K C)
  sf : HasF P w K mg base 6 "sum_for" ["talk", "row"] (SpQ K C 0 preSf (fun ds d => d = sfF ds))
  rb : HasF P w K mg base 14 "_law_read_back" ["_law_talk", "_law_many", "_law_numbers", "_law_addends"] (SpQ K C 0 (preRb 6) postRb)
section
variable {X : Cx} {C : Addr} {q : Option Addr} {env : En} {cs : Cs} {a b c d : Expr} {p pos k1 : Pos} {lv m : Nat} {ss ns : List PySem.Str} {tp : Int} {as : List Ad}
theorem ed_ltold {ths : List (List PySem.Str)} {kvs : List (PySem.Str × Int)} (h : HasF X.prog X.w X.K X.mg X.base lv "_law_told" ["_law_things", "_law_values", "_law_addends"] (SpLt X.K C m)) (hr : Room lv X.A) (ha : ED X C q a env cs (.lst (ths.map thD))) (hb : ED X C q b env cs (.dic kvs)) (hc : ED X C q c env cs (.tup (as.map aD)))
    (l1 : ths.length ≤ 40) (b1 : ∀ a ∈ as, Bd a.c) (b2 : ∀ c t, .size c t ∈ as → t.deep ≤ m) (b3 : ∀ c x, .num c x ∈ as → ∃ v, kvs.lookup x = some v ∧ Bd v) (hg : Gl X "_law_told" := by rfl)
    (he : starEach [a, b, c] X.env = (false, eval a X.env) :: starEach [b, c] X.env := by rfl) (he2 : starEach [b, c] X.env = (false, eval b X.env) :: starEach [c] X.env := by rfl) (he3 : starEach [c] X.env = (false, eval c X.env) :: starEach [] X.env := by rfl) (hpl : (backTo pos (starEach [b, c] X.env)).any (·.1) = false := by rfl) :
    ED X C q (.Call (.Name "_law_told" p) [a, b, c] [] pos) env cs (.int (toldL kvs ths as)) :=
  em_callF (k := 0) (kf := 0) h hr (ad_cons ha (ad_cons hb (ad_cons hc ad_nil he3) he2) he) (fun _ e => e ▸ ⟨ths, kvs, as, rfl, l1, b1, b2, b3⟩) (fun ds d e h => h ths kvs as e) hg (by decide) he hpl
theorem ed_lworth {cnt vals : List Int} (h : HasF X.prog X.w X.K X.mg X.base lv "_law_worth" ["_law_tongue_here", "_law_world_here", "_law_addends"] (SpLw X.K C m)) (hr : Room lv X.A) (ha : ED X C q a env cs (.tup [.nms ss, .nms ns])) (hb : ED X C q b env cs (.tup [.tup (cnt.map Dt.int), .tup (vals.map Dt.int)])) (hc : ED X C q c env cs (.tup (as.map aD)))
    (hok : ∀ a ∈ as, AdOk ss ns m a) (hbd : ∀ a ∈ as, AdBd ss cnt a) (hv : ∀ i ∈ vals, Bd i) (l1 : cnt.length ≤ 100) (l2 : vals.length = ns.length) (l3 : ns.length ≤ 100) (hg : Gl X "_law_worth" := by rfl)
    (he : starEach [a, b, c] X.env = (false, eval a X.env) :: starEach [b, c] X.env := by rfl) (he2 : starEach [b, c] X.env = (false, eval b X.env) :: starEach [c] X.env := by rfl) (he3 : starEach [c] X.env = (false, eval c X.env) :: starEach [] X.env := by rfl) (hpl : (backTo pos (starEach [b, c] X.env)).any (·.1) = false := by rfl) :
    ED X C q (.Call (.Name "_law_worth" p) [a, b, c] [] pos) env cs (.int (worthL ss ns cnt vals as)) :=
  em_callF (k := 0) (kf := 0) h hr (ad_cons ha (ad_cons hb (ad_cons hc ad_nil he3) he2) he) (fun _ e => e ▸ ⟨ss, ns, cnt, vals, as, rfl, hok, hbd, hv, l1, l2, l3⟩) (fun ds d e h => h ss ns cnt vals as e) hg (by decide) he hpl
theorem ed_lcounts {ths : List (List PySem.Str)} (h : HasF X.prog X.w X.K X.mg X.base lv "_law_counts_of" ["_law_sets", "_law_things"] (SpQ X.K C 0 preCo (fun ds d => d = coF ds))) (hr : Room lv X.A) (ha : ED X C q a env cs (.nms ss)) (hb : ED X C q b env cs (.lst (ths.map thD)))
    (h1 : ss.length ≤ 3) (h2 : ∀ s ∈ ss, NmOk s) (h3 : ∀ l ∈ ths, ∀ s ∈ l, NmOk s) (h4 : ths.length ≤ 40) (hg : Gl X "_law_counts_of" := by rfl)
    (he : starEach [a, b] X.env = (false, eval a X.env) :: starEach [b] X.env := by rfl) (he2 : starEach [b] X.env = (false, eval b X.env) :: starEach [] X.env := by rfl) (hpl : (backTo pos (starEach [b] X.env)).any (·.1) = false := by rfl) :
    ED X C q (.Call (.Name "_law_counts_of" p) [a, b] [] pos) env cs (.tup ((countsOf ss ths).map Dt.int)) :=
  ED.to (ed_callF (g := coF) h hr (ad_cons ha (ad_cons hb ad_nil he2) he) ⟨ss, ths, rfl, h1, h2, h3, h4⟩ hg (by decide) he hpl) (by
    show Dt.tup ((countsOf ss ((ths.map thD).map _)).map Dt.int) = _
    rw [unth])
theorem ed_sumfor {row : List Int} (h : HasF X.prog X.w X.K X.mg X.base lv "sum_for" ["talk", "row"] (SpQ X.K C 0 preSf (fun ds d => d = sfF ds))) (hr : Room lv X.A) (ha : ED X C q a env cs (.tlk ss ns tp)) (hb : ED X C q b env cs (.tup (row.map Dt.int))) (ok : TlOk ss ns) (hl : row.length = 1 + (2 ^ ss.length + ns.length)) (hg : Gl X "sum_for" := by rfl)
    (he : starEach [a, b] X.env = (false, eval a X.env) :: starEach [b] X.env := by rfl) (he2 : starEach [b] X.env = (false, eval b X.env) :: starEach [] X.env := by rfl) (hpl : (backTo pos (starEach [b] X.env)).any (·.1) = false := by rfl) :
    ED X C q (.Call (.Name "sum_for" p) [a, b] [] pos) env cs (.tup ((sumFor ss ns row).map aD)) := by
  obtain ⟨c, cs', rfl⟩ : ∃ c cs', row = c :: cs' := by
    cases row with
    | nil => rw [List.length_nil, Nat.add_comm 1] at hl; cases hl
    | cons c cs' => exact ⟨c, cs', rfl⟩
  refine ED.to (ed_callF (g := sfF) h hr (ad_cons ha (ad_cons hb ad_nil he2) he) ⟨ss, ns, tp, c, cs', rfl, ok, by rw [List.length_cons, Nat.add_comm 1] at hl; exact Nat.succ.inj hl⟩ hg (by decide) he hpl) ?_
  show Dt.tup ((sumFor ss ns (intsOf ((c :: cs').map Dt.int))).map aD) = _
  rw [intsOf_map]
theorem ed_lread (h : HasF X.prog X.w X.K X.mg X.base lv "_law_read_back" ["_law_talk", "_law_many", "_law_numbers", "_law_addends"] (SpQ X.K C 0 (preRb m) postRb)) (hr : Room lv X.A) (ha : ED X C q a env cs (.tlk ss ns tp)) (hb : ED X C q b env cs (.int ((2 ^ ss.length : Nat) : Int))) (hc : ED X C q c env cs (.int (ns.length : Int))) (hd : ED X C q d env cs (.tup (as.map aD)))
    (ok : TlOk ss ns) (hok : ∀ a ∈ as, AdOk ss ns m a) (hbd : ∀ i ∈ rowOf ss ns as, Bd i) (hg : Gl X "_law_read_back" := by rfl)
    (he : starEach [a, b, c, d] X.env = (false, eval a X.env) :: starEach [b, c, d] X.env := by rfl) (he2 : starEach [b, c, d] X.env = (false, eval b X.env) :: starEach [c, d] X.env := by rfl) (he3 : starEach [c, d] X.env = (false, eval c X.env) :: starEach [d] X.env := by rfl) (he4 : starEach [d] X.env = (false, eval d X.env) :: starEach [] X.env := by rfl) (hpl : (backTo pos (starEach [b, c, d] X.env)).any (·.1) = false := by rfl) :
    ED X C q (.Call (.Name "_law_read_back" p) [a, b, c, d] [] pos) env cs (.tup ((rowOf ss ns as).map Dt.int)) :=
  em_callF (k := 0) (kf := 0) h hr (ad_cons ha (ad_cons hb (ad_cons hc (ad_cons hd ad_nil he4) he3) he2) he) (fun _ e => e ▸ ⟨ss, ns, tp, as, rfl, ok, hok, hbd⟩) (fun ds d e h => (h ss ns tp as e).trans (by rw [read_back (rowOf_len ss ns as)])) hg (by decide) he hpl
theorem ed_added {r1 r2 : List Int} (h : HasAdd X.prog X.w X.K X.mg X.base C) (hr : Room 1 X.A) (ha : ED X C q a env cs (.lst [.tup (r1.map Dt.int), .tup (r2.map Dt.int)])) (hb : ED X C q b env cs (.lst [.int 1, .int 1])) (hc : ED X C q c env cs (.int (m : Int))) (l1 : r1.length = m + 1) (l2 : r2.length = m + 1) (hm : m ≤ 100) (hg : Gl X "added" := by rfl)
    (hall : (backToKw pos (keywordEach [⟨some "width", c, k1⟩] X.env)).all (·.1.isSome) = true := by rfl) (hks : (backToKw pos (keywordEach [⟨some "width", c, k1⟩] X.env)).filterMap (·.1) = (["width"] : List PySem.Str) := by rfl)
    (hs : starEach [a, b] X.env = (false, eval a X.env) :: starEach [b] X.env := by rfl) (hs2 : starEach [b] X.env = (false, eval b X.env) :: starEach [] X.env := by rfl) (hpl : ((backTo pos (starEach [a, b] X.env)).any (·.1) || (backToKw pos (keywordEach [⟨some "width", c, k1⟩] X.env)).any (·.1.isNone)) = false := by rfl) :
    ED X C q (.Call (.Name "added" p) [a, b] [⟨some "width", c, k1⟩] pos) env cs (.tup ((List.zipWith (· + ·) r1 r2).map Dt.int)) := by
  obtain ⟨f, fd, hmg, F, OK⟩ := h
  have kb := kbAdd F
  refine ED.to (em_callN (g := fun us ws => us ++ ws) (gV := fun vs zs => vs ++ zs) (gD := fun ds es => ds ++ es) OK hr hmg F.kp kb (fun _ _ _ _ _ h1 h2 => h1.append h2) (ad_cons ha (ad_cons hb ad_nil (hs := hs2)) (hs := hs)) (kd_cons hc kd_nil) rfl rfl ⟨r1, r2, m, rfl, l1, l2, hm⟩ hg hall hks (by decide) hs hpl) ?_
  show Dt.tup ((List.zipWith (· + ·) (intsOf (r1.map Dt.int)) (intsOf (r2.map Dt.int))).map Dt.int) = _
  rw [intsOf_map, intsOf_map]
end
section
variable {X : Cx} {C p0 : Addr} {env : En} {cs : Cs} {a b c : Expr} {p pos : Pos} {lv : Nat} {ss ns : List PySem.Str} {tp : Int}
theorem em_mild (h : HasF X.prog X.w X.K X.mg X.base lv "_law_mild_sum" ["_law_pool_here", "_law_tongue_here"] (SpMs X.K C)) (hr : Room lv X.A) (ha : ED X C (some p0) a env cs (.cell p0)) (hb : ED X C (some p0) b env cs (.tup [.nms ss, .nms ns])) (h1 : ss.length ≤ 3) (h2 : ns.length ≤ 2) (hg : Gl X "_law_mild_sum" := by rfl)
    (he : starEach [a, b] X.env = (false, eval a X.env) :: starEach [b] X.env := by rfl) (he2 : starEach [b] X.env = (false, eval b X.env) :: starEach [] X.env := by rfl) (hpl : (backTo pos (starEach [b] X.env)).any (·.1) = false := by rfl) :
    EM X C (some p0) 400 (.Call (.Name "_law_mild_sum" p) [a, b] [] pos) env cs (fun d => ∃ as : List Ad, d = .tup (as.map aD) ∧ as.length ≤ 6 ∧ (∀ a ∈ as, AdOk ss ns 3 a) ∧ ∀ a ∈ as, Sm a.c) := by
  have := em_callF (p := p) (k := 0) (kf := 400) (P := fun d => ∃ as : List Ad, d = .tup (as.map aD) ∧ as.length ≤ 6 ∧ (∀ a ∈ as, AdOk ss ns 3 a) ∧ ∀ a ∈ as, Sm a.c) h hr (ad_cons ha (ad_cons hb ad_nil he2) he) (fun _ e => e ▸ ⟨p0, ss, ns, rfl, rfl, h1, h2⟩) (fun ds d e h => h p0 ss ns e) hg (by decide) he hpl
  rw [Nat.zero_add] at this
  exact this
theorem em_world (h : HasF X.prog X.w X.K X.mg X.base lv "_law_world" ["_law_pool_here", "_law_tongue_here", "_law_top"] (SpWd X.K C)) (hr : Room lv X.A) (ha : ED X C (some p0) a env cs (.cell p0)) (hb : ED X C (some p0) b env cs (.tup [.nms ss, .nms ns])) (hc : ED X C (some p0) c env cs (.int tp)) (h1 : ss.length ≤ 3) (h2 : ns.length ≤ 2) (t0 : 0 ≤ tp) (t1 : tp ≤ 10 ^ 30) (hg : Gl X "_law_world" := by rfl)
    (he : starEach [a, b, c] X.env = (false, eval a X.env) :: starEach [b, c] X.env := by rfl) (he2 : starEach [b, c] X.env = (false, eval b X.env) :: starEach [c] X.env := by rfl) (he3 : starEach [c] X.env = (false, eval c X.env) :: starEach [] X.env := by rfl) (hpl : (backTo pos (starEach [b, c] X.env)).any (·.1) = false := by rfl) :
    EM X C (some p0) 100 (.Call (.Name "_law_world" p) [a, b, c] [] pos) env cs (fun d => ∃ cnt vals : List Int, d = .tup [.tup (cnt.map Dt.int), .tup (vals.map Dt.int)] ∧ cnt.length = 2 ^ ss.length ∧ vals.length = ns.length ∧ (∀ i ∈ cnt, 0 ≤ i ∧ i ≤ 8 * 10 ^ 30) ∧ (∀ i ∈ vals, 0 ≤ i ∧ i ≤ 10 ^ 30)) := by
  have := em_callF (p := p) (k := 0) (kf := 100) (P := fun d => ∃ cnt vals : List Int, d = .tup [.tup (cnt.map Dt.int), .tup (vals.map Dt.int)] ∧ cnt.length = 2 ^ ss.length ∧ vals.length = ns.length ∧ (∀ i ∈ cnt, 0 ≤ i ∧ i ≤ 8 * 10 ^ 30) ∧ (∀ i ∈ vals, 0 ≤ i ∧ i ≤ 10 ^ 30)) h hr (ad_cons ha (ad_cons hb (ad_cons hc ad_nil he3) he2) he) (fun _ e => e ▸ ⟨p0, ss, ns, tp, rfl, rfl, h1, h2, t0, t1⟩) (fun ds d e h => h p0 ss ns tp e) hg (by decide) he hpl
  rw [Nat.zero_add] at this
  exact this
theorem em_tongue (h : HasF X.prog X.w X.K X.mg X.base lv "_law_tongue" ["_law_pool_here", "_law_many", "_law_numbers"] (SpTg X.K C)) (hr : Room lv X.A) (ha : ED X C (some p0) a env cs (.cell p0)) (hb : ED X C (some p0) b env cs (.int 3)) (hc : ED X C (some p0) c env cs (.int 2)) (hg : Gl X "_law_tongue" := by rfl)
    (he : starEach [a, b, c] X.env = (false, eval a X.env) :: starEach [b, c] X.env := by rfl) (he2 : starEach [b, c] X.env = (false, eval b X.env) :: starEach [c] X.env := by rfl) (he3 : starEach [c] X.env = (false, eval c X.env) :: starEach [] X.env := by rfl) (hpl : (backTo pos (starEach [b, c] X.env)).any (·.1) = false := by rfl) :
    EM X C (some p0) 70 (.Call (.Name "_law_tongue" p) [a, b, c] [] pos) env cs (fun d => ∃ ss ns, d = .tup [.nms ss, .nms ns] ∧ TlOk ss ns) := by
  have := em_callF (p := p) (k := 0) (kf := 70) (P := fun d => ∃ ss ns, d = .tup [.nms ss, .nms ns] ∧ TlOk ss ns) h hr (ad_cons ha (ad_cons hb (ad_cons hc ad_nil he3) he2) he) (fun _ e => e ▸ ⟨p0, rfl, rfl⟩) (fun ds d e h => h) hg (by decide) he hpl
  rw [Nat.zero_add] at this
  exact this
end
/-! ### a def called where no guard is up -/
section
variable {P : Program} {w : World} {K : PySem.W.Frag} {mg : PySem.Str → Option Value} {base : Heap} {x qual : PySem.Str} {params : Arguments} {body : List Stmt} {scope : Scope} {dvs : List V} {kws : List (PySem.Str × V)} {f : Addr} {fd : FuncData} {C : Addr}
  {N ps : List PySem.Str} {lv kk : Nat} {pre : Option Addr → List Dt → Prop} {post : List Dt → Dt → Prop}
theorem fndg_ok (F : FunD K x qual params body scope dvs kws f fd) (S : FnScope N ps scope) (hl : ∀ q ds, pre q ds → ds.length = ps.length)
    (hb : ∀ (cdv : Value) (A : Around) (outer : List Env) (s : Shared) (H : Hp) (E : XK), Room lv (A.deeper (envOfC qual scope s.heap.objs.size f cdv)) → A.guards = some [] → ∀ (q : Option Addr) (ds : List Dt) (n : Nat) (B0 H0 : Hp) (D : Ends), pre q ds → n + kk ≤ LIM → SOk (bX P w K mg base N qual scope f cdv A outer s H E) q q (n + kk) →
      Rt (bX P w K mg base N qual scope f cdv A outer s H E) C q q B0 H0 (n + kk) (post ds) D →
      SG (bX P w K mg base N qual scope f cdv A outer s H E) C q q B0 H0 (n + kk) B0 n (ds.map some ++ List.replicate (N.length - ps.length) none) none body D) :
    FnG P w K mg base (lv + 1) f fd ps (SpQ K C kk pre post) := by
  refine fng_ok F S (fun vs H Q E h => ?_) fun cdv A outer s H vs Q E hr hgd h => ?_
  · obtain ⟨ds, B, q, n, h1, _, _, h2, _⟩ := h
    exact h1.length.trans (hl q ds h2)
  · obtain ⟨ds, B, q, n, h1, h2, h3, h4, h5⟩ := h
    have hlen := hl q ds h4
    refine ⟨wpB (bX P w K mg base N qual scope f cdv A outer s H E) body, PSs.nox wpB_pss, hb cdv A outer s H E hr hgd q ds n B H _ h4 h3 ⟨.inr rfl, h3, rfl, S.nd⟩ ?_ _ H ⟨Nat.le_add_right _ _, B, ⟨?_, h2.ex, h2.pl, fun _ _ z => (by cases z)⟩, ⟨Nw.refl _ _, ExO.refl _ _⟩, fun _ _ z => (by cases z), Ex.refl _⟩⟩
    · exact fun v d m B2 H2 p de hm ex kp pl => h5 v d B2 H2 p de ⟨kp.nw, ex, kp.eo, pl.up hm h3⟩
    · unfold L2.start
      rw [h1.length, hlen]
      exact Sg.start h1
end
end Cf

/-! Fn27: the law's main def, first half. -/
namespace Cf
open PySem PySem.Spec PyProof.Rows L2
section
variable {X : Cx} {C : Addr} {q : Option Addr} {k k1 k2 : Nat} {env : En} {cs : Cs} {a b : Expr} {p pos : Pos} {i : Int} {P1 P2 : Int → Prop}
theorem ei_max (hc : X.calm = true) (hm : X.mg "max" = none) (ha : ED X C q a env cs (.int i)) (hb : EI X C q k b env cs P1) (hg : Gl X "max" := by rfl) (he : starEach [a, b] X.env = (false, eval a X.env) :: starEach [b] X.env := by rfl) (he2 : starEach [b] X.env = (false, eval b X.env) :: starEach [] X.env := by rfl)
    (hpl : (backTo pos (starEach [b] X.env)).any (·.1) = false := by rfl) : EI X C q k (.Call (.Name "max" p) [a, b] [] pos) env cs (fun z => ∃ y, P1 y ∧ z = if y > i then y else i) :=
  em_callB (call_max2 hc) hm (by decide +kernel) (am_d ha (am_1 hb he2) he) (fun ds ⟨r, e1, d, e2, y, e3, py⟩ => by
    subst e1 e2 e3
    exact fun n B H xs Q b h hf => cc_max2 n B H xs Q b h (fun v d B2 H2 e => hf v d B2 H2 ⟨_, e, y, py, rfl⟩)) hg (by decide) (by decide) he hpl
/-- a test of two drawn whole numbers -/
theorem tm_eqM (ha : EI X C q k1 a env cs P1) (hb : EI X C q k2 b env cs P2) : TM X C q (k1 + k2) (.Compare a [.Eq] [b] pos) env cs (fun _ => True) :=
  tm_cmp op_eq (nomark _) ha hb (fun d1 d2 ⟨i, e1, _⟩ ⟨j, e2, _⟩ => by
    subst e1 e2
    refine fun n B H x y Q bs h1 h2 hf => rr_eq (d1 := .int i) (d2 := .int j) rfl rfl rfl n B H x y Q bs h1 h2 fun v d B2 H2 e => hf v d B2 H2 ⟨_, e, trivial⟩)
end
/-- some of the names, told by a test -/
theorem sel_sub {ss : List PySem.Str} (hn : ss.Nodup) {n : Nat} {ds : List Dt} (s : Sel (fun _ _ => True) (fun j d => (ss.map Dt.str)[j]? = some d) n ds) (hl : n ≤ ss.length) : ∃ P : PySem.Str → Bool, ds = ((ss.take n).filter P).map Dt.str := by
  induction s with
  | nil => exact ⟨fun _ => true, rfl⟩
  | @skip i ds _ _ ih =>
    obtain ⟨P, e⟩ := ih (Nat.le_of_succ_le hl)
    have hi : ss[i]? = some ss[i] := List.getElem?_eq_getElem hl
    refine ⟨fun x => P x && !decide (x = ss[i]), ?_⟩
    rw [take_snoc hi, List.filter_append, List.filter_cons_of_neg (by simp), List.filter_nil, List.append_nil, e]
    congr 1
    refine List.filter_congr fun x hx => ?_
    have hne : x ≠ ss[i] := fun z => by
      obtain ⟨j, hj, e2⟩ := List.mem_take_iff_getElem.mp hx
      have h1 : j < i := by omega
      exact absurd (e2.trans z) (List.pairwise_iff_getElem.mp hn j i (by omega) hl h1)
    rw [decide_eq_false hne, Bool.not_false, Bool.and_true]
  | @take i ds d _ _ pd ih =>
    obtain ⟨P, e⟩ := ih (Nat.le_of_succ_le hl)
    have hi : ss[i]? = some ss[i] := List.getElem?_eq_getElem hl
    have hd : d = .str ss[i] := by
      have pd' : (ss.map Dt.str)[i]? = some d := pd
      rw [List.getElem?_map, hi] at pd'
      exact (Option.some.inj pd').symm
    refine ⟨fun x => P x || decide (x = ss[i]), ?_⟩
    rw [take_snoc hi, List.filter_append, List.filter_cons_of_pos (by simp), List.filter_nil, List.map_append, e, hd]
    congr 2
    refine List.filter_congr fun x hx => ?_
    have hne : x ≠ ss[i] := fun z => by
      obtain ⟨j, hj, e2⟩ := List.mem_take_iff_getElem.mp hx
      have h1 : j < i := by omega
      exact absurd (e2.trans z) (List.pairwise_iff_getElem.mp hn j i (by omega) hl h1)
    rw [decide_eq_false hne, Bool.or_false]
theorem up_nodup {l : List PySem.Str} (h : l.Pairwise (fun a b => a.cps.toList < b.cps.toList)) : l.Nodup :=
  h.imp fun {a b} hab e => by
    subst e
    exact List.lt_irrefl _ hab
/-- what the second half knows -/
structure Rg (ss ns : List PySem.Str) (tp : Int) (one two : List Ad) (ths : List (List PySem.Str)) (vals : List Int) : Prop where
  ok : TlOk ss ns
  t0 : 30 ≤ tp
  t1 : tp ≤ 10 ^ 30
  l1 : one.length ≤ 6
  o1 : ∀ a ∈ one, AdOk ss ns 3 a
  s1 : ∀ a ∈ one, Sm a.c
  l2 : two.length ≤ 6
  o2 : ∀ a ∈ two, AdOk ss ns 3 a
  s2 : ∀ a ∈ two, Sm a.c
  lt : ths.length ≤ 30
  th : ∀ l ∈ ths, ∃ P : PySem.Str → Bool, l = ss.filter P
  lv : vals.length = ns.length
  bv : ∀ i ∈ vals, 0 ≤ i ∧ i < 31
abbrev N50 : List PySem.Str := ["_law_pool_here", "_law_tongue_here", "_law_sets", "_law_numbers", "_law_top", "_law_talk", "_law_one", "_law_other", "_law_chosen", "_law_things", "_law_turn", "_law_values", "_law_addends", "_law_worths", "_law_world_here", "_law_kept", "_law_great_here", "_law_rows", "_law_row", "_law_worth_here", "_law_due", "_law_name"]
theorem sc50 : FnScope N50 ["_law_pool_here"] (defScope (top 50)) := ⟨rfl, rfl, rfl, by decide +kernel, rfl, by decide +kernel, by decide +kernel⟩
def preRi : Option Addr → List Dt → Prop := fun q ds => ∃ p, q = some p ∧ ds = [.cell p]
section
variable {P : Program} {w : World} {K : PySem.W.Frag} {mg : PySem.Str → Option Value} {base : Heap} {C : Addr} {f : Addr} {fd : FuncData}
theorem right1 (k : Ks P w K mg base C) {cdv : Value} {A : Around} {outer : List Env} {s : Shared} {H : Hp} {E : XK} (hr : Room 14 (bX P w K mg base N50 "_law_right" (defScope (top 50)) f cdv A outer s H E).A) {p : Addr} {n : Nat} {B0 H0 : Hp} {D : Ends}
    (hn : n + 2000 ≤ LIM) (S : SOk (bX P w K mg base N50 "_law_right" (defScope (top 50)) f cdv A outer s H E) (some p) (some p) (n + 2000))
    (hnext : ∀ ss ns tp one two ths vals ch x10 m, Rg ss ns tp one two ths vals → m ≤ n + 1500 →
      SG (bX P w K mg base N50 "_law_right" (defScope (top 50)) f cdv A outer s H E) C (some p) (some p) B0 H0 (n + 2000) B0 m [some (.cell p), some (.tup [.nms ss, .nms ns]), some (.nms ss), some (.nms ns), some (.int tp), some (.tlk ss ns tp), some (.tup (one.map aD)), some (.tup (two.map aD)), some (.int ch), some (.lst (ths.map thD)), x10, some (.tup (vals.map Dt.int)), none, none, none, none, none, none, none, none, none, none] none ((defBody (top 50)).drop 9) D) :
    SG (bX P w K mg base N50 "_law_right" (defScope (top 50)) f cdv A outer s H E) C (some p) (some p) B0 H0 (n + 2000) B0 n (some (.cell p) :: List.replicate 21 none) none (defBody (top 50)) D := by
  have g := k.g
  have hr1 := hr.mono (j := 1) (by decide)
  refine sg_set (k := 70) S 1 rok0 (em_tongue k.tg (hr.mono (by decide)) (ed_var 0 rfl) ed_int ed_int) (by omega) (fun d ⟨ss, ns, e, ok⟩ => ?_)
  subst e
  have hss := ok.hs
  have hns := ok.hn
  refine sg_tgtD (sl := [2, 3]) (ds := [.nms ss, .nms ns]) S rok0 (ed_var 1 rfl) (gd_tup S.calm (gds_name S.nd (gds_name S.nd gds_nil)) rfl) ?_
  refine sg_set (k := 5 + 1) S 4 rok0 (EI.to (P' := fun z => 30 ≤ z ∧ z ≤ 10 ^ 30) (ei_max (i := 30) S.calm g.max ed_int (ei_ix (k1 := 5) (k2 := 1) (Pr := fun i => 0 ≤ i ∧ i < 10 ^ 30) (Pl := fun ns => ns.length = 2 ∧ ∀ i ∈ ns, 0 ≤ i ∧ i < 10 ^ 30)
      (EM.imp (em_lst (am_d ed_int (am_1 (ei_great k.gr (hr.mono (by decide)) (ed_var 0 rfl)))) ?_) ?_) (ei_takeC k.ta hr1 (ed_var 0 rfl) ed_int (by decide) (by decide)) ?_)) ?_) (by omega) (fun d ⟨tp, e, t0, t1⟩ => ?_)
  · rintro ds ⟨r, e1, d, e2, _⟩
    subst e1 e2
    exact Nat.le_of_ble_eq_true rfl
  · rintro d ⟨ds, e0, r, e1, d1, e2, i, e3, i0, i1⟩
    subst e0 e1 e2 e3
    refine ⟨[0, i], rfl, rfl, fun z hz => ?_⟩
    rcases List.mem_cons.mp hz with rfl | hz
    · exact ⟨by decide, by decide⟩
    · cases List.mem_singleton.mp hz; exact ⟨i0, i1⟩
  · rintro l i ⟨h2, hall⟩ ⟨i0, i1⟩
    have hlt : i.toNat < l.length := by omega
    exact ⟨i.toNat, (Int.toNat_of_nonneg i0).symm, l[i.toNat], List.getElem?_eq_getElem hlt, hall _ (List.getElem_mem hlt)⟩
  · rintro z ⟨y, ⟨y0, y1⟩, e⟩
    subst e
    have : (30 : Int) ≤ 10 ^ 30 := by decide
    split <;> omega
  · subst e
    refine sg_setD S 5 rok0 (ed_talk k.mkT (hr.mono (by decide)) (ed_var 2 rfl) (ed_var 3 rfl) (ed_var 4 rfl) ok (by omega)) ?_
    refine sg_par (k := 400 + 400) S 6 7 rok0 (am_cons (k1 := 400) (k2 := 400) (em_mild k.ms (hr.mono (by decide)) (ed_var 0 rfl) (ed_var 1 rfl) hss hns) (am_1 (em_mild k.ms (hr.mono (by decide)) (ed_var 0 rfl) (ed_var 1 rfl) hss hns))) (by omega) (fun ds ⟨d1, r, e1, _, d2, e2, _⟩ => ⟨d1, d2, by rw [e1, e2]⟩) (fun d1 d2 ⟨d1', r, e1, ⟨one, h1, l1, o1, s1⟩, d2', e2, two, h2, l2, o2, s2⟩ => ?_)
    injection e1 with e1 e3
    rw [e2] at e3
    injection e3 with e3
    subst e1 e3 h1 h2
    refine sg_set (k := 1) S 8 rok0 (ei_takeC k.ta hr1 (ed_var 0 rfl) ed_int (by decide) (by decide)) (by omega) (fun d ⟨ch, e, _, _⟩ => ?_)
    subst e
    refine sg_newD (ds := []) S 9 rok0 ((en_lst (k := 0) ad_nil (fun ds e => e ▸ Nat.zero_le _)).imp fun ds e => e) (fun l => ?_)
    refine sg_forM (k := 1) (sl := [10]) S rok0 (by omega) (fun xs j n' env' cs' => n' = n + 70 + 6 + 800 + 1 + 1 + j * 3 ∧ (∃ ths : List (List PySem.Str), cs' = some (l, ths.map thD) ∧ ths.length = j ∧ ∀ t ∈ ths, ∃ P : PySem.Str → Bool, t = ss.filter P) ∧ ∃ e10, env' = [some (.cell p), some (.tup [.nms ss, .nms ns]), some (.nms ss), some (.nms ns), some (.int tp), some (.tlk ss ns tp), some (.tup (one.map aD)), some (.tup (two.map aD)), some (.int ch), some (.cell l), e10, none, none, none, none, none, none, none, none, none, none, none])
      (im_range g.range (ei_takeC k.ta hr1 (ed_var 0 rfl) ed_int (by decide) (by decide)) (fun i ⟨h0, h1⟩ => ⟨by omega, by omega⟩)) (fun xs _ => ⟨by omega, ⟨[], rfl, rfl, fun t h => by cases h⟩, _, rfl⟩) (fun _ _ _ _ _ _ => rok0) (fun Bm xs ⟨i, ⟨i0, i1⟩, hxs⟩ j x hx n' env' cs' ⟨e1, ⟨ths, e2, c1, c2⟩, x10, e4⟩ => ?_) (fun xs ⟨i, ⟨i0, i1⟩, hxs⟩ n' env' cs' ⟨e1, ⟨ths, e2, c1, c2⟩, x10, e4⟩ => ?_)
    · subst e1 e2 e4 hxs
      have hj : j < 30 := by have := (rngD_get hx).1; omega
      refine ⟨[x], gd_name S.nd, ?_⟩
      rw [(rngD_get hx).2]
      refine sg_append (k := (ss.map Dt.str).length * (1 + 0)) S 9 rok0 ((lc_EN (own := [("_law_name", 21)]) (lr_lc (k1 := 1) (k2 := 0) (xs := ss.map Dt.str) (sl := [21]) (gs := fun j => [(ss.map Dt.str).getD j .non]) (Pt := fun _ _ => True) (Pe := fun j d => (ss.map Dt.str)[j]? = some d) (id_nms (ed_var 2 rfl)) (by decide) ?_ (fun Y hY j x hx => ?_) (fun Y hY j x hx => ?_) (fun Y hY j x hx _ => ?_)) S.calm S.nd (blkOk_by (by kernel_rfl))).em) ?_ ?_ (fun d ⟨ds, e, sel⟩ => ?_)
      · rw [List.length_map]; omega
      · obtain ⟨s', H', A', cl, fp, rfl⟩ := hY
        have e : (ss.map Dt.str).getD j .non = x := by rw [List.getD_eq_getElem?_getD, hx]; rfl
        rw [e]
        exact gd_name S.nd
      · obtain ⟨s', H', A', cl, fp, rfl⟩ := hY
        exact ts_one (tm_w (wm_or (k1 := 1) (k2 := 0) (tm_eqM (k1 := 1) (k2 := 0) (ei_takeC k.ta hr1 (ed_var 0 rfl) ed_int (by decide) (by decide)) (ei_of ed_int)) (fun _ => wm_or1 (TM.imp (td_w (wd_and (td_eqI (ed_var 8 rfl) ed_int) fun _ => wd_and1 (td_gt (ed_mod (by decide) (ed_var 10 rfl) ed_int) ed_int))) fun _ _ => trivial)) (fun _ => trivial)))
      · obtain ⟨s', H', A', cl, fp, rfl⟩ := hY
        have e : (ss.map Dt.str).getD j .non = x := by rw [List.getD_eq_getElem?_getD, hx]; rfl
        rw [e]
        exact (ed_var 21 rfl).imp fun d hd => by rw [hd]; exact hx
      · rw [List.length_map]; omega
      · rw [List.length_map]; omega
      · subst e
        obtain ⟨PP, e2⟩ := sel_sub (up_nodup ok.s.up) (by rw [List.length_map] at sel; exact sel) (Nat.le_refl _)
        rw [List.take_length] at e2
        subst e2
        refine sg_mono_n (sg_nil fun σ H a => ⟨_, _, _, ⟨rfl, ⟨ths ++ [ss.filter PP], rfl, by rw [List.length_append, c1]; rfl, fun t ht => ?_⟩, _, rfl⟩, a.to ?_⟩) ?_ (by omega) S.lim
        · rcases List.mem_append.mp ht with h | h
          · exact c2 t h
          · cases List.mem_singleton.mp h; exact ⟨PP, rfl⟩
        · rw [List.map_append]; rfl
        · rw [List.length_map]; omega
    · subst e1 e2 e4 hxs
      have hxl : (rngD i.toNat).length ≤ 30 := by rw [rngD_len]; omega
      refine sg_freeze 9 rfl rfl ?_
      refine sg_set (k := (ns.map Dt.str).length * (0 + 1)) S 11 rok0 (em_tuple g.tuple (PL := fun ds => ∃ vals : List Int, ds = vals.map Dt.int ∧ vals.length = ns.length ∧ ∀ i ∈ vals, 0 ≤ i ∧ i < 31) (EM.imp ((lc_EN (own := [("_law_name", 21)]) (lr_lc (k1 := 0) (k2 := 1) (xs := ns.map Dt.str) (sl := [21]) (gs := fun j => [(ns.map Dt.str).getD j .non]) (Pt := fun _ b => b = true) (Pe := fun _ d => ∃ i : Int, d = .int i ∧ 0 ≤ i ∧ i < 31) (id_nms (ed_var 3 rfl)) (by decide) ?_ (fun Y hY j x hx => ?_) (fun Y hY j x hx => ts_nil) (fun Y hY j x hx _ => ?_)) S.calm S.nd (blkOk_by (by kernel_rfl))).em) ?_)) ?_ (fun d ⟨ds, e, vals, e2, v1, v2⟩ => ?_)
      · rw [List.length_map]; omega
      · obtain ⟨s', H', A', cl, fp, rfl⟩ := hY
        have e : (ns.map Dt.str).getD j .non = x := by rw [List.getD_eq_getElem?_getD, hx]; rfl
        rw [e]
        exact gd_name S.nd
      · obtain ⟨s', H', A', cl, fp, rfl⟩ := hY
        exact ei_takeC k.ta hr1 (ed_var 0 rfl) ed_int (by decide) (by decide)
      · rintro d ⟨ds, e, sel⟩
        obtain ⟨vals, e2, h2⟩ := ints_of (R := fun i => 0 ≤ i ∧ i < 31) (Sel.all (R := fun d => ∃ i : Int, d = .int i ∧ 0 ≤ i ∧ i < 31) (fun i d h => h) sel)
        have hl := sel.len_eq
        subst e2
        rw [List.length_map, List.length_map] at hl
        exact ⟨_, e, vals, rfl, hl, h2⟩
      · rw [List.length_map]; omega
      · subst e e2
        refine sg_mono_n (hnext ss ns tp one two ths vals ch x10 (n + 1500) ⟨ok, t0, t1, l1, o1, s1, l2, o2, s2, by omega, c2, v1, v2⟩ (Nat.le_refl _)) ?_ (by omega) S.lim
        rw [List.length_map]
        omega
end
end Cf

/-! Fn28: the law's main def, second half. -/
namespace Cf
open PySem PySem.Spec PyProof.Rows L2
structure Oa (ss ns : List PySem.Str) (as : List Ad) : Prop where
  l : as.length ≤ 6
  o : ∀ a ∈ as, AdOk ss ns 3 a
  s : ∀ a ∈ as, Sm a.c
section
variable {ss ns : List PySem.Str} {tp : Int} {one two as bs : List Ad} {ths : List (List PySem.Str)} {vals : List Int}
theorem Rg.a1 (h : Rg ss ns tp one two ths vals) : Oa ss ns one := ⟨h.l1, h.o1, h.s1⟩
theorem Rg.a2 (h : Rg ss ns tp one two ths vals) : Oa ss ns two := ⟨h.l2, h.o2, h.s2⟩
theorem Rg.sn (h : Rg ss ns tp one two ths vals) : ss.Nodup := up_nodup h.ok.s.up
theorem Rg.nn (h : Rg ss ns tp one two ths vals) : ns.Nodup := up_nodup h.ok.n.up
theorem TlOk.r8 (h : TlOk ss ns) : 2 ^ ss.length ≤ 8 := by
  have := h.hs
  have : 2 ^ ss.length ≤ 2 ^ 3 := Nat.pow_le_pow_right (by decide) this
  omega
theorem Oa.o6 (a : Oa ss ns as) : ∀ x ∈ as, AdOk ss ns 6 x := fun x hx => (a.o x hx).mono (by decide)
theorem Oa.bd (a : Oa ss ns as) : ∀ x ∈ as, Bd x.c := fun x hx => sm_bd (a.s x hx)
theorem Oa.row (a : Oa ss ns as) (h : ss.length ≤ 3) : ∀ i ∈ rowOf ss ns as, Bd i := rowOf_bd h (Nat.le_trans a.l (by decide)) a.s
theorem app_all {α : Type} {p : α → Prop} {l m : List α} (h1 : ∀ x ∈ l, p x) (h2 : ∀ x ∈ m, p x) : ∀ x ∈ l ++ m, p x := fun x hx => by
  rcases List.mem_append.mp hx with h | h
  · exact h1 x h
  · exact h2 x h
theorem Oa.row2 (a : Oa ss ns as) (b : Oa ss ns bs) (h : ss.length ≤ 3) : ∀ i ∈ rowOf ss ns (as ++ bs), Bd i := rowOf_bd h (by rw [List.length_append]; have := a.l; have := b.l; omega) (app_all a.s b.s)
theorem row_len (h : TlOk ss ns) (as : List Ad) : (rowOf ss ns as).length ≤ 11 := by
  rw [rowOf_len]
  have := h.r8
  have := h.hn
  omega
theorem counts_bd (h : ths.length ≤ 30) : ∀ i ∈ countsOf ss ths, i.natAbs ≤ 30 := fun i hi => by
  unfold countsOf at hi
  obtain ⟨r, _, rfl⟩ := List.mem_map.mp hi
  rw [Int.natAbs_natCast]
  exact Nat.le_trans (List.length_filter_le _ _) h
theorem small_bd {i : Int} (h : i.natAbs ≤ 8 * 10 ^ 30) : Bd i := Nat.lt_of_le_of_lt h (by decide)
theorem nat_abs_le {i : Int} {m : Nat} (h0 : 0 ≤ i) (h1 : i ≤ m) : i.natAbs ≤ m := by omega
theorem Rg.vb (h : Rg ss ns tp one two ths vals) : ∀ i ∈ vals, i.natAbs ≤ 8 * 10 ^ 30 := fun i hi => by
  have := h.bv i hi
  exact Nat.le_trans (nat_abs_le (m := 31) this.1 (by omega)) (by decide)
theorem Rg.cb (h : Rg ss ns tp one two ths vals) : ∀ i ∈ countsOf ss ths, i.natAbs ≤ 8 * 10 ^ 30 := fun i hi => Nat.le_trans (counts_bd h.lt i hi) (by decide)
theorem Rg.told (h : Rg ss ns tp one two ths vals) (a : Oa ss ns as) : toldL (ns.zip vals) ths as = rowWorth (rowOf ss ns as) (countsOf ss ths ++ vals) := by
  rw [told_worth h.sn a.o h.lv h.th, worth_law a.o (countsOf_len ss ths)]
theorem Rg.told2 (h : Rg ss ns tp one two ths vals) (a : Oa ss ns as) (b : Oa ss ns bs) : rowWorth (rowOf ss ns (as ++ bs)) (countsOf ss ths ++ vals) = toldL (ns.zip vals) ths as + toldL (ns.zip vals) ths bs := by
  rw [worth_law (m := 3) (app_all a.o b.o) (countsOf_len ss ths), told_worth h.sn a.o h.lv h.th, told_worth h.sn b.o h.lv h.th]
  unfold worthL
  rw [List.map_append, List.sum_append]
theorem worth_big {i : Int} (h : i.natAbs ≤ 12 * (10 ^ 30 * (8 * (8 * 10 ^ 30)))) : i.natAbs < 2 ^ 1900 := by
  refine Nat.lt_of_le_of_lt h ?_
  decide +kernel
theorem worth_Bd {i : Int} (h : i.natAbs ≤ 12 * (10 ^ 30 * (8 * (8 * 10 ^ 30)))) : i.natAbs < 2 ^ 220 := by
  refine Nat.lt_of_le_of_lt h ?_
  decide +kernel
theorem Rg.lk (h : Rg ss ns tp one two ths vals) (a : Oa ss ns as) : ∀ c x, .num c x ∈ as → ∃ v, (ns.zip vals).lookup x = some v ∧ Bd v := fun c x hx =>
  ⟨_, lookup_zip ns vals x ((a.o _ hx).num c x rfl) h.lv, small_bd (getD_bd h.vb)⟩
theorem Oa.dp (a : Oa ss ns as) : ∀ c t, .size c t ∈ as → t.deep ≤ 3 := fun c t ht => ((a.o _ ht).tin c t rfl).2
theorem worth_bdM {cnt : List Int} {M : Nat} (hM : 1 ≤ M) (hl : cnt.length ≤ 8) (ha : as.length ≤ 12) (hc : ∀ a ∈ as, Sm a.c) (h1 : ∀ i ∈ cnt, i.natAbs ≤ M) (h2 : ∀ i ∈ vals, i.natAbs ≤ M) : (worthL ss ns cnt vals as).natAbs ≤ 12 * (10 ^ 30 * (8 * M)) := by
  unfold worthL
  refine Nat.le_trans (sum_bd (M := 10 ^ 30 * (8 * M)) fun i hi => ?_) (Nat.mul_le_mul_right _ (by rw [List.length_map]; exact ha))
  obtain ⟨a, hin, rfl⟩ := List.mem_map.mp hi
  have hca : a.c.natAbs ≤ 10 ^ 30 := hc a hin
  cases a with
  | lot c =>
    have hca' : c.natAbs ≤ 10 ^ 30 := hca
    show c.natAbs ≤ _
    have h8 : 10 ^ 30 * 1 ≤ 10 ^ 30 * (8 * M) := Nat.mul_le_mul_left _ (by omega)
    omega
  | num c x =>
    show (c * _).natAbs ≤ _
    rw [Int.natAbs_mul]
    exact Nat.mul_le_mul hca (Nat.le_trans (getD_bd h2) (by omega))
  | size c t =>
    show (c * _).natAbs ≤ _
    rw [Int.natAbs_mul]
    exact Nat.mul_le_mul hca (sizeOf_bd hl h1)
theorem Rg.tb (h : Rg ss ns tp one two ths vals) (ha : as.length ≤ 12) (ho : ∀ a ∈ as, AdOk ss ns 3 a) (hs : ∀ a ∈ as, Sm a.c) : Bd (toldL (ns.zip vals) ths as) := by
  rw [told_worth h.sn ho h.lv h.th]
  refine Nat.lt_of_le_of_lt (worth_bdM (M := 31) (by decide) (by rw [countsOf_len]; exact h.ok.r8) ha hs (fun i hi => Nat.le_trans (counts_bd h.lt i hi) (by decide)) fun i hi => nat_abs_le (h.bv i hi).1 (by have := (h.bv i hi).2; omega)) ?_
  decide
end
section
variable {P : Program} {w : World} {K : PySem.W.Frag} {mg : PySem.Str → Option Value} {base : Heap} {C : Addr} {f : Addr} {fd : FuncData}
theorem right2 (k : Ks P w K mg base C) {cdv : Value} {A : Around} {outer : List Env} {s : Shared} {H : Hp} {E : XK} (hr : Room 14 (bX P w K mg base N50 "_law_right" (defScope (top 50)) f cdv A outer s H E).A) (hgd : A.guards = some []) {p : Addr} {n m : Nat} {B0 H0 : Hp} {D : Ends}
    (hn : n + 2000 ≤ LIM) (S : SOk (bX P w K mg base N50 "_law_right" (defScope (top 50)) f cdv A outer s H E) (some p) (some p) (n + 2000)) (hm : m ≤ n + 1500)
    {ss ns : List PySem.Str} {tp : Int} {one two : List Ad} {ths : List (List PySem.Str)} {vals : List Int} {ch : Int} {x10 : Option Dt} (h : Rg ss ns tp one two ths vals)
    (hR : Rt (bX P w K mg base N50 "_law_right" (defScope (top 50)) f cdv A outer s H E) C (some p) (some p) B0 H0 (n + 2000) (fun d => d = .bl true) D) :
      SG (bX P w K mg base N50 "_law_right" (defScope (top 50)) f cdv A outer s H E) C (some p) (some p) B0 H0 (n + 2000) B0 m [some (.cell p), some (.tup [.nms ss, .nms ns]), some (.nms ss), some (.nms ns), some (.int tp), some (.tlk ss ns tp), some (.tup (one.map aD)), some (.tup (two.map aD)), some (.int ch), some (.lst (ths.map thD)), x10, some (.tup (vals.map Dt.int)), none, none, none, none, none, none, none, none, none, none] none ((defBody (top 50)).drop 9) D := by
  have g := k.g
  have hr1 := hr.mono (j := 1) (by decide)
  have hr0 := hr.mono (j := 0) (by decide)
  have hgX : (bX P w K mg base N50 "_law_right" (defScope (top 50)) f cdv A outer s H E).A.guards = some [] := hgd
  have hu : (bX P w K mg base N50 "_law_right" (defScope (top 50)) f cdv A outer s H E).A.units + 64 < cLine := by have := hr.un; omega
  have a1 := h.a1
  have a2 := h.a2
  have h3 := h.ok.hs
  have h2 := h.ok.hn
  have h8 := h.ok.r8
  have hcl := countsOf_len ss ths
  have nms : ∀ l ∈ ths, ∀ s ∈ l, NmOk s := fun l hl s hs => by
    obtain ⟨PP, e⟩ := h.th l hl
    rw [e] at hs
    exact h.ok.s.ok s (List.mem_filter.mp hs).1
  refine sg_lc (k := 0) S 13 rok0 (ps_lc (own := [("_law_addends", 12)]) 13 S (blkOk_by (by kernel_rfl))) (lr_L (xs := [.tup (one.map aD), .tup (two.map aD)]) (ys := [.int (toldL (ns.zip vals) ths one), .int (toldL (ns.zip vals) ths two)]) (gs := fun j => [[Dt.tup (one.map aD), .tup (two.map aD)].getD j .non]) (sl := [12]) (id_tup (ed_tup (ad_cons (ed_var 6 rfl) (ad_cons (ed_var 7 rfl) ad_nil)) (Nat.le_of_ble_eq_true rfl))) (by decide) (Nat.le_of_ble_eq_true rfl) rfl (fun Y hY j x hx => ?_) (fun Y hY j x y hx hy => ?_)) (by omega) (fun ds e => ?_)
  · obtain ⟨s', H', A', cl, fp, rfl⟩ := hY
    have e : [Dt.tup (one.map aD), .tup (two.map aD)].getD j .non = x := by rw [List.getD_eq_getElem?_getD, hx]; rfl
    rw [e]
    exact gd_name S.nd
  · obtain ⟨s', H', A', cl, fp, rfl⟩ := hY
    obtain ⟨as, a, ex, ey⟩ : ∃ as, Oa ss ns as ∧ x = .tup (as.map aD) ∧ y = .int (toldL (ns.zip vals) ths as) := by
      match j, hx, hy with
      | 0, hx, hy => exact ⟨one, a1, (Option.some.inj hx).symm, (Option.some.inj hy).symm⟩
      | 1, hx, hy => exact ⟨two, a2, (Option.some.inj hx).symm, (Option.some.inj hy).symm⟩
      | j + 2, hx, hy => cases hx
    have e : [Dt.tup (one.map aD), .tup (two.map aD)].getD j .non = .tup (as.map aD) := by rw [List.getD_eq_getElem?_getD, hx, ex]; rfl
    rw [e, ey]
    exact ed_ltold k.to (hr.mono (by decide)) (ed_var 9 rfl) (ed_dictzip S.calm g.dict g.zip (ed_var 3 rfl) (ed_var 11 rfl) h.lv.symm h.nn (by omega)) (ed_var 12 rfl) (by have := h.lt; omega) a.bd a.dp (h.lk a)
  · subst e
    have t1 := h.told a1
    have t2 := h.told a2
    have t12 := h.told2 a1 a2
    have b1 := h.tb (as := one) (Nat.le_trans h.l1 (by decide)) h.o1 h.s1
    have b2 := h.tb (as := two) (Nat.le_trans h.l2 (by decide)) h.o2 h.s2
    generalize toldL (ns.zip vals) ths one = w1 at *
    generalize toldL (ns.zip vals) ths two = w2 at *
    have cB : ∀ i ∈ countsOf ss ths, Bd i := fun i hi => small_bd (h.cb i hi)
    have vB : ∀ i ∈ vals, Bd i := fun i hi => small_bd (h.vb i hi)
    have vl : vals.length ≤ 2 := by rw [h.lv]; exact h2
    refine sg_setD S 14 rok0 (ed_tup (ad_cons (ed_lcounts k.co (hr.mono (by decide)) (ed_var 2 rfl) (ed_var 9 rfl) h3 h.ok.s.ok nms (by have := h.lt; omega)) (ad_cons (ed_var 11 rfl) ad_nil)) (Nat.le_of_ble_eq_true rfl)) ?_
    have rpK : RpOk (.tup [.tup [.tup ((countsOf ss ths).map Dt.int), .tup (vals.map Dt.int)], .tup (one.map aD), .tup (two.map aD)]) :=
      ni_kept (ni_world cB vB (by rw [hcl]; exact h8) vl) (ni_ads h.ok.s.ok h.ok.n.ok h.l1 h.o1 h.s1) (ni_ads h.ok.s.ok h.ok.n.ok h.l2 h.o2 h.s2)
    refine sg_setD S 15 rok0 (ed_repr hgX hr0 g.repr (ed_tup (ad_cons (ed_var 14 rfl) (ad_cons (ed_var 6 rfl) (ad_cons (ed_var 7 rfl) ad_nil))) (Nat.le_of_ble_eq_true rfl)) rpK) ?_
    refine sg_set (k := 100) S 16 rok0 (em_world k.wd (hr.mono (by decide)) (ed_var 0 rfl) (ed_var 1 rfl) (ed_var 4 rfl) h3 h2 (by have := h.t0; omega) h.t1) (by omega) (fun d ⟨gc, gv, e, g1, g2, g3, g4⟩ => ?_)
    subst e
    refine sg_no S rok0 (td_neS (ed_repr hgX hr0 g.repr (ed_lst (ad_cons (ED.to (ed_worth k.wo (hr.mono (by decide)) (ed_var 5 rfl) (ed_var 14 rfl) (ed_var 6 rfl) h.ok a1.o6 cB vB (a1.row h3) (by rw [hcl]; omega) (by omega)) (congrArg Dt.int t1.symm)) (ad_cons (ED.to (ed_worth k.wo (hr.mono (by decide)) (ed_var 5 rfl) (ed_var 14 rfl) (ed_var 7 rfl) h.ok a2.o6 cB vB (a2.row h3) (by rw [hcl]; omega) (by omega)) (congrArg Dt.int t2.symm)) ad_nil)) (Nat.le_of_ble_eq_true rfl)) (rp_lst (l := [w1, w2]) ?_ (Nat.le_of_ble_eq_true rfl)))
      (ed_repr hgX hr0 g.repr (ed_var 13 rfl) (rp_lst (l := [w1, w2]) ?_ (Nat.le_of_ble_eq_true rfl)))) ?_ (by rw [decide_eq_true rfl]; rfl)
    · intro i hi
      rcases List.mem_cons.mp hi with rfl | hi
      · exact b1
      · cases List.mem_singleton.mp hi; exact b2
    · intro i hi
      rcases List.mem_cons.mp hi with rfl | hi
      · exact b1
      · cases List.mem_singleton.mp hi; exact b2
    · have e12 : rowWorth (rowOf ss ns (one ++ two)) (countsOf ss ths ++ vals) = [w1, w2].sum := by rw [t12]; show _ = w1 + (w2 + 0); omega
      have b12 : ([w1, w2].sum).natAbs < 2 ^ 1900 := by
        have h1' : ([w1, w2].sum).natAbs < 2 ^ 201 := by
          show (w1 + (w2 + 0)).natAbs < _
          have hb1 : w1.natAbs < 2 ^ 200 := b1
          have hb2 : w2.natAbs < 2 ^ 200 := b2
          have : (2 : Nat) ^ 201 = 2 ^ 200 + 2 ^ 200 := by decide
          rw [this]
          generalize (2 : Nat) ^ 200 = Z at *
          omega
        exact Nat.lt_of_lt_of_le h1' (Nat.pow_le_pow_right (by decide) (by decide))
      refine sg_no S rok0 (td_neS (ed_reprI g.repr (ED.to (ed_worth k.wo (hr.mono (by decide)) (ed_var 5 rfl) (ed_var 14 rfl) (ED.to (ed_catT ?_ (ed_var 6 rfl) (ed_var 7 rfl)) (congrArg Dt.tup List.map_append.symm)) h.ok (app_all a1.o6 a2.o6) cB vB (a1.row2 a2 h3) (by rw [hcl]; omega) (by omega)) (congrArg Dt.int e12)) b12)
        (ed_reprI g.repr (ed_sum (ns := [w1, w2]) S.calm g.sum (ed_var 13 rfl)) b12)) ?_ (by rw [decide_eq_true rfl]; rfl)
      · rw [List.length_map, List.length_map]
        have := h.l1
        have := h.l2
        omega
      · refine sg_setD S 17 rok0 (ed_lst (ad_cons (ed_rowof k.ro (hr.mono (by decide)) (ed_var 5 rfl) (ed_var 6 rfl) h.ok a1.o6) (ad_cons (ed_rowof k.ro (hr.mono (by decide)) (ed_var 5 rfl) (ed_var 7 rfl) h.ok a2.o6) ad_nil)) (Nat.le_of_ble_eq_true rfl)) ?_
        have ra := rowOf_append (m := 6) a1.o6 a2.o6
        refine sg_no S rok0 (td_neT hu (a1.row2 a2 h3) (ed_rowof k.ro (hr.mono (by decide)) (ed_var 5 rfl) (ED.to (ed_catT ?_ (ed_var 6 rfl) (ed_var 7 rfl)) (congrArg Dt.tup List.map_append.symm)) h.ok (app_all a1.o6 a2.o6)) (ED.to (ed_added (m := 2 ^ ss.length + ns.length) k.ad hr1 (ed_var 17 rfl) (ed_lst (ad_cons ed_int (ad_cons ed_int ad_nil)) (Nat.le_of_ble_eq_true rfl)) (ed_lenT k.le (hr.mono (by decide)) g.len (ed_var 5 rfl) h.ok) (by rw [rowOf_len, Nat.add_comm]) (by rw [rowOf_len, Nat.add_comm]) (by omega)) (by rw [ra]))) ?_
        · rw [List.length_map, List.length_map]
          have := h.l1
          have := h.l2
          omega
        · have gcB : ∀ i ∈ gc, i.natAbs ≤ 8 * 10 ^ 30 := fun i hi => nat_abs_le (g3 i hi).1 (g3 i hi).2
          have gvB : ∀ i ∈ gv, i.natAbs ≤ 8 * 10 ^ 30 := fun i hi => Nat.le_trans (nat_abs_le (m := 10 ^ 30) (g4 i hi).1 (g4 i hi).2) (by decide)
          have gcD : ∀ i ∈ gc, Bd i := fun i hi => small_bd (gcB i hi)
          have gvD : ∀ i ∈ gv, Bd i := fun i hi => small_bd (gvB i hi)
          refine sg_for (xs := zipD3 [.tup (one.map aD), .tup (two.map aD)] [.tup ((rowOf ss ns one).map Dt.int), .tup ((rowOf ss ns two).map Dt.int)] [.int w1, .int w2]) (sl := [12, 18, 19]) S rok0
            (fun j n' env' cs' => n' = m + 0 + 100 ∧ cs' = none ∧ ∃ e12 e18 e19 e20, env' = [some (.cell p), some (.tup [.nms ss, .nms ns]), some (.nms ss), some (.nms ns), some (.int tp), some (.tlk ss ns tp), some (.tup (one.map aD)), some (.tup (two.map aD)), some (.int ch), some (.lst (ths.map thD)), x10, some (.tup (vals.map Dt.int)), e12, some (.lst [.int w1, .int w2]), some (.tup [.tup ((countsOf ss ths).map Dt.int), .tup (vals.map Dt.int)]), some (.str (toPy (.tup [.tup [.tup ((countsOf ss ths).map Dt.int), .tup (vals.map Dt.int)], .tup (one.map aD), .tup (two.map aD)])).shown), some (.tup [.tup (gc.map Dt.int), .tup (gv.map Dt.int)]), some (.lst [.tup ((rowOf ss ns one).map Dt.int), .tup ((rowOf ss ns two).map Dt.int)]), e18, e19, e20, none])
            (id_zip3 g.zip (ad_cons (ed_tup (ad_cons (ed_var 6 rfl) (ad_cons (ed_var 7 rfl) ad_nil)) (Nat.le_of_ble_eq_true rfl)) (ad_cons (ed_var 17 rfl) (ad_cons (ed_var 13 rfl) ad_nil))) (.t _) (.l _) (.l _)) ⟨rfl, rfl, _, _, _, _, rfl⟩ (fun _ _ _ _ _ => rok0) (fun Bm j x hx n' env' cs' ⟨e1, e2, x12, x18, x19, x20, e4⟩ => ?_) (fun n' env' cs' ⟨e1, e2, x12, x18, x19, x20, e4⟩ => ?_)
          · subst e1 e2 e4
            obtain ⟨as, wk, a, ex, tk⟩ : ∃ as wk, Oa ss ns as ∧ x = .tup [.tup (as.map aD), .tup ((rowOf ss ns as).map Dt.int), .int wk] ∧ wk = rowWorth (rowOf ss ns as) (countsOf ss ths ++ vals) := by
              match j, hx with
              | 0, hx => exact ⟨one, w1, a1, (Option.some.inj hx).symm, t1⟩
              | 1, hx => exact ⟨two, w2, a2, (Option.some.inj hx).symm, t2⟩
              | j + 2, hx => cases hx
            subst ex
            refine ⟨_, gd_tup S.calm (gds_name S.nd (gds_name S.nd (gds_name S.nd gds_nil))) rfl, ?_⟩
            have rB := a.row h3
            have rl := row_len h.ok as
            have rne : rowOf ss ns as ≠ [] := fun e => by
              have := rowOf_len ss ns as
              rw [e, List.length_nil, Nat.add_comm 1] at this
              cases this
            have rs := rowOf_sumFor h.sn h.nn h3 (rowOf_len ss ns as)
            have ed := worth_law (vals := gv) a.o6 g1
            have bD : (worthL ss ns gc gv as).natAbs < 2 ^ 1900 := worth_big (worth_bd (by rw [g1]; exact h8) (Nat.le_trans a.l (by decide)) a.s gcB gvB)
            have rpR : RpOk (.tup ((rowOf ss ns as).map Dt.int)) := rp_ints rB (by omega)
            refine sg_setD S 20 rok0 (ed_lworth k.lw (hr.mono (by decide)) (ed_var 1 rfl) (ed_var 16 rfl) (ed_var 12 rfl) a.o (fun b hb => ⟨sm_bd (a.s b hb), fun c t _ => Nat.lt_of_le_of_lt (sizeOf_bd (by rw [g1]; exact h8) gcB) (by decide)⟩) gvD (by rw [g1]; omega) g2 (by omega)) ?_
            generalize worthL ss ns gc gv as = due at *
            refine sg_no S rok0 (td_neS (ed_reprI g.repr (ED.to (ed_worth k.wo (hr.mono (by decide)) (ed_var 5 rfl) (ed_var 16 rfl) (ed_var 12 rfl) h.ok a.o6 gcD gvD rB (by rw [g1]; omega) (by rw [g2]; omega)) (congrArg Dt.int ed)) bD) (ed_reprI g.repr (ed_var 20 rfl) bD)) ?_ (by rw [decide_eq_true rfl]; rfl)
            refine sg_no S rok0 (td_neI (ED.to (ed_rw k.rw' hr1 (ed_var 18 rfl) (ED.to (ed_catT ?_ (ed_item (ed_var 16 rfl) ed_int rfl rfl) (ed_item (ed_var 16 rfl) ed_int rfl rfl)) (congrArg Dt.tup List.map_append.symm)) rne rB (app_all gcD gvD) (by omega) (by rw [List.length_append, g1, g2]; omega)) (congrArg Dt.int ed)) (ed_var 20 rfl)) ?_ (by rw [decide_eq_true rfl]; rfl)
            · rw [List.length_map, List.length_map, g1, g2]
              omega
            · refine sg_no (i := false) S rok0 (td_w (wd_orF (td_neI (ED.to (ed_worth k.wo (hr.mono (by decide)) (ed_var 5 rfl) (ed_var 16 rfl) (ed_sumfor k.sf (hr.mono (by decide)) (ed_var 5 rfl) (ed_var 18 rfl) h.ok (rowOf_len ss ns as)) h.ok (sumFor_ok h3) gcD gvD (by rw [rs]; exact rB) (by rw [g1]; omega) (by rw [g2]; omega)) (by rw [rs, ed])) (ed_var 20 rfl))
                (wd_or1 (TM.to (td_neI (ED.to (ed_worth k.wo (hr.mono (by decide)) (ed_var 5 rfl) (ed_var 14 rfl) (ed_sumfor k.sf (hr.mono (by decide)) (ed_var 5 rfl) (ed_var 18 rfl) h.ok (rowOf_len ss ns as)) h.ok (sumFor_ok h3) cB vB (by rw [rs]; exact rB) (by rw [hcl]; omega) (by omega)) (by rw [rs, ← tk])) (ed_var 19 rfl)) (by rw [decide_eq_true rfl]; rfl))) (by rw [decide_eq_true rfl]; rfl))) ?_
              refine sg_no S rok0 (td_neS (ed_repr hgX hr0 g.repr (ed_lread k.rb hr (ed_var 5 rfl) (ED.to (ed_len g.len (ed_item (ed_var 14 rfl) ed_int rfl rfl) rfl) (by rw [List.length_map, hcl])) (ED.to (ed_len g.len (ed_var 3 rfl) rfl) (by rw [List.length_map])) (ed_var 12 rfl) h.ok a.o6 rB) rpR) (ed_repr hgX hr0 g.repr (ed_var 18 rfl) rpR)) ?_ (by rw [decide_eq_true rfl]; rfl)
              exact sg_nil fun σ H a => ⟨_, _, _, ⟨rfl, rfl, _, _, _, _, rfl⟩, a⟩
          · subst e1 e2 e4
            exact sg_retD S rok0 (ED.to (ed_eqS (ed_repr hgX hr0 g.repr (ed_tup (ad_cons (ed_var 14 rfl) (ad_cons (ed_var 6 rfl) (ad_cons (ed_var 7 rfl) ad_nil))) (Nat.le_of_ble_eq_true rfl)) rpK) (ed_var 15 rfl)) (by rw [decide_eq_true rfl])) (hR.to rfl)
end
end Cf

/-! Fn29: the law. -/
namespace Cf
open PySem PySem.Spec PyProof.Rows L2
abbrev SpRi (K : PySem.W.Frag) (C : Addr) : Sp := SpQ K C 2000 preRi (fun _ d => d = .bl true)
def HasG (P : Program) (w : World) (K : PySem.W.Frag) (mg : PySem.Str → Option Value) (base : Heap) (lv : Nat) (x : PySem.Str) (ps : List PySem.Str) (sp : Sp) : Prop := ∃ f fd, mg x = some (.ref f) ∧ PySem.W.keepIn K (.ref f) = true ∧ Binds K fd ps [] ∧ FnG P w K mg base lv f fd ps sp
section
variable {P : Program} {w : World} {K : PySem.W.Frag} {mg : PySem.Str → Option Value} {base : Heap} {C : Addr} {f : Addr} {fd : FuncData}
theorem ok_right (k : Ks P w K mg base C) (F : FnP K "_law_right" 50 f fd) : FnG P w K mg base 15 f fd ["_law_pool_here"] (SpRi K C) := by
  refine fndg_ok F sc50 (fun _ _ ⟨_, _, h⟩ => h ▸ rfl) fun cdv A outer s H E hr hgd q ds n B0 H0 D hp hn S hR => ?_
  obtain ⟨p, rfl, rfl⟩ := hp
  exact right1 k hr hn S fun ss ns tp one two ths vals ch x10 m h hm => right2 k hr hgd hn S hm h hR
end
section
variable {X : Cx} {C : Addr} {env : En} {a b : Expr} {p1 p2 pos pos2 : Pos} {ns : List Int} {j : Nat}
theorem ed_right (hP : HasF X.prog X.w X.K X.mg X.base 1 "_law_pool" ["_law_script", "_law_k"] (SpPo X.K C)) (hR : HasG X.prog X.w X.K X.mg X.base 15 "_law_right" ["_law_pool_here"] (SpRi X.K C)) (hgd : X.A.guards = some []) (hr : Room 15 X.A)
    (ha : ED X C none a env none (.lst (ns.map Dt.int))) (hb : ED X C none b env none (.int (j : Int))) (hj : j < ns.length) (hl : ns.length ≤ 4) (hg1 : Gl X "_law_pool" := by rfl) (hg2 : Gl X "_law_right" := by rfl)
    (he : starEach [a, b] X.env = (false, eval a X.env) :: starEach [b] X.env := by rfl) (he2 : starEach [b] X.env = (false, eval b X.env) :: starEach [] X.env := by rfl) (hpl : (backTo pos (starEach [b] X.env)).any (·.1) = false := by rfl)
    (hs : starEach [.Call (.Name "_law_pool" p1) [a, b] [] pos] X.env = (false, eval (.Call (.Name "_law_pool" p1) [a, b] [] pos) X.env) :: starEach [] X.env := by rfl) (hpl2 : (backTo pos2 (starEach [] X.env)).any (·.1) = false := by rfl) :
    ED X C none (.Call (.Name "_law_right" p2) [.Call (.Name "_law_pool" p1) [a, b] [] pos] [] pos2) env none (.bl true) := fun n B σ H cf hn Q hQ => by
  obtain ⟨f1, fd1, m1, k1, b1, OK1⟩ := hP
  obtain ⟨f2, fd2, m2, k2, b2, OK2⟩ := hR
  refine wpE_of (pe_callG OK2 hgd hr hg2 m2 k2 b2 (pass0 (X := X)) (pa_cons (pe_call OK1 (hr.mono (by decide)) hg1 m1 k1 b1 .nil (pass0 (X := X)) wpA_pa (by decide) he hpl) pa_nil hs) (by decide) hs hpl2) ?_
  refine (ad_cons ha (ad_cons hb ad_nil he2) he) n B σ H cf hn _ fun vs ds B1 H1 e1 d1 o1 => ?_
  subst e1
  rw [List.append_nil]
  refine ⟨_, B1, none, n, d1, o1.bs, hn, ⟨ns, j, rfl, hj, hl⟩, fun p vs' ds' B2 H2 pl h1 h2 h3 h4 h5 o2 => ?_⟩
  obtain ⟨x, y, z, rfl, hy, hz⟩ := pl
  obtain rfl := DeAll.ints (ns := [x, y, z]) h5
  have bs2 : Bs (some p) 32000 B2 H2 := ⟨o2.ex, by decide, fun p' e => by
    cases e
    exact ⟨h2, x, y, z, h1, hy, hz⟩⟩
  refine ⟨[.cell p], B2, some p, 32000, ⟨_, [], rfl, rfl, rfl⟩, bs2, by decide, ⟨p, rfl, rfl⟩, fun v d B3 H3 e de o3 => ?_⟩
  refine hQ v d B3 H3 e de (o1.trans ⟨o2.nw.trans o2.kept o3.nw, o3.ex, fun a' o' _ ha' => ?_, hn, fun p' e => by cases e⟩)
  have hne : a' ≠ p := fun z => by rw [z, h3] at ha'; cases ha'
  exact o3.eo a' o' (fun z => hne (Option.some.inj z).symm) (o2.eo a' o' (fun z => by cases z) ha')
end
section
variable {P : Program} {w : World} {K : PySem.W.Frag} {mg : PySem.Str → Option Value} {base : Heap} {C : Addr} {f : Addr} {fd : FuncData}
def preLaw : Option Addr → List Dt → Prop := fun q ds => q = none ∧ ∃ ns : List Int, ds = [.scr ns]
abbrev SpLaw (K : PySem.W.Frag) (C : Addr) : Sp := SpQ K C 0 preLaw (fun _ d => d = .bl true)
theorem sc51 : FnScope ["_law_script", "_law_cells", "_law_k"] ["_law_script"] (defScope (top 51)) := ⟨rfl, rfl, rfl, by decide +kernel, rfl, by decide +kernel, by decide +kernel⟩
theorem ok_law (g : Bi mg) (F : FnP K "law" 51 f fd) (Fo : HasF P w K mg base 1 "_law_folded" ["_law_script", "_law_top"] (SpFo K C)) (hP : HasF P w K mg base 1 "_law_pool" ["_law_script", "_law_k"] (SpPo K C)) (hRi : HasG P w K mg base 15 "_law_right" ["_law_pool_here"] (SpRi K C)) : FnG P w K mg base 16 f fd ["_law_script"] (SpLaw K C) := by
  refine fndg_ok F sc51 (fun _ _ ⟨_, _, h⟩ => h ▸ rfl) fun cdv A outer s H E hr hgd q ds n B0 H0 D hp hn S hR => ?_
  obtain ⟨rfl, ns, rfl⟩ := hp
  refine sg_set (k := 0 + 0) S 1 rok0 (em_callF (k := 0) (kf := 0) (P := fun d => ∃ ms : List Int, d = .lst (ms.map Dt.int) ∧ ms.length ≤ 4) Fo (hr.mono (by decide)) (ad_cons (ed_var 0 rfl) (ad_cons ed_int ad_nil)) (fun _ e => e ▸ ⟨ns, rfl⟩) (fun ds d e h => h)) (by omega) (fun d ⟨ms, e, hl⟩ => ?_)
  subst e
  refine sg_retD S rok0 (ED.to (ed_all (ns := List.replicate ms.length true) S.calm g.all (ED.to (ed_lcM (F := fun _ => .bl true) (G := fun d => [d]) (sl := [2]) (own := [("_law_k", 2)]) S.calm S.nd (blkOk_by (by kernel_rfl)) (id_range1 g.range (ed_len g.len (ed_var 1 rfl) rfl) ⟨by omega, by rw [List.length_map]; omega⟩) (by decide) ?_ (fun Y hY x hx => ?_) (fun Y hY x hx => ?_)) ?_)) ?_) (hR.to rfl)
  · rw [rngD_len, Int.toNat_natCast, List.length_map]; omega
  · obtain ⟨s', H', A', cl, fp, rfl⟩ := hY
    exact gd_name S.nd
  · obtain ⟨s', H', A', cl, fp, rfl⟩ := hY
    obtain ⟨j, hj⟩ := List.mem_iff_getElem?.mp hx
    obtain ⟨h1, h2⟩ := rngD_get hj
    subst h2
    rw [Int.toNat_natCast, List.length_map] at h1
    exact ed_right hP hRi hgd hr (ed_var 1 rfl) (ed_var 2 rfl) h1 hl
  · rw [List.map_const', rngD_len, Int.toNat_natCast, List.length_map, List.map_replicate]
  · congr 1
    rw [List.all_eq_true]
    intro x hx
    rw [List.eq_of_mem_replicate hx]
    rfl
end
end Cf

/-! the head: facts by names, the run. -/
namespace CfHead
open PySem PySem.Spec PyProof.Rows L2 Cf
abbrev R : PySem.W.OpenRow := PySem.W.OpenLaw.row PySem.Challenge.rw_countfold_k13_whole_sums_of_things
def fn : List He.DefD := [⟨("is_whole", none), "is_whole", "is_whole", defArgs (top 5), defBody (top 5), defScope (top 5), [], [("least", .non), ("most", .non)]⟩,
  ⟨("is_name", none), "is_name", "is_name", defArgs (top 6), defBody (top 6), defScope (top 6), [], []⟩,
  ⟨("are_names", none), "are_names", "are_names", defArgs (top 7), defBody (top 7), defScope (top 7), [], []⟩,
  ⟨("row_worth", none), "row_worth", "row_worth", defArgs (top 9), defBody (top 9), defScope (top 9), [], []⟩,
  ⟨("added", none), "added", "added", defArgs (top 10), defBody (top 10), defScope (top 10), [], []⟩,
  ⟨("holds", none), "holds", "holds", defArgs (top 18), defBody (top 18), defScope (top 18), [], []⟩,
  ⟨("regions_of", none), "regions_of", "regions_of", defArgs (top 19), defBody (top 19), defScope (top 19), [], []⟩,
  ⟨("alone", none), "alone", "alone", defArgs (top 20), defBody (top 20), defScope (top 20), [], []⟩,
  ⟨("term_for", none), "term_for", "term_for", defArgs (top 21), defBody (top 21), defScope (top 21), [], []⟩,
  ⟨("row_of", none), "row_of", "row_of", defArgs (top 23), defBody (top 23), defScope (top 23), [], []⟩,
  ⟨("sum_for", none), "sum_for", "sum_for", defArgs (top 24), defBody (top 24), defScope (top 24), [], []⟩,
  ⟨("worth_of", none), "worth_of", "worth_of", defArgs (top 25), defBody (top 25), defScope (top 25), [], []⟩,
  ⟨("_law_pool", none), "_law_pool", "_law_pool", defArgs (top 31), defBody (top 31), defScope (top 31), [], []⟩,
  ⟨("_law_take", none), "_law_take", "_law_take", defArgs (top 32), defBody (top 32), defScope (top 32), [], []⟩,
  ⟨("_law_folded", none), "_law_folded", "_law_folded", defArgs (top 33), defBody (top 33), defScope (top 33), [], []⟩,
  ⟨("_law_names", none), "_law_names", "_law_names", defArgs (top 34), defBody (top 34), defScope (top 34), [], []⟩,
  ⟨("_law_tongue", none), "_law_tongue", "_law_tongue", defArgs (top 35), defBody (top 35), defScope (top 35), [], []⟩,
  ⟨("_law_term", none), "_law_term", "_law_term", defArgs (top 36), defBody (top 36), defScope (top 36), [], []⟩,
  ⟨("_law_world", none), "_law_world", "_law_world", defArgs (top 37), defBody (top 37), defScope (top 37), [], []⟩,
  ⟨("_law_lies", none), "_law_lies", "_law_lies", defArgs (top 38), defBody (top 38), defScope (top 38), [], []⟩,
  ⟨("_law_in", none), "_law_in", "_law_in", defArgs (top 39), defBody (top 39), defScope (top 39), [], []⟩,
  ⟨("_law_size", none), "_law_size", "_law_size", defArgs (top 40), defBody (top 40), defScope (top 40), [], []⟩,
  ⟨("_law_worth", none), "_law_worth", "_law_worth", defArgs (top 41), defBody (top 41), defScope (top 41), [], []⟩,
  ⟨("_law_great", none), "_law_great", "_law_great", defArgs (top 42), defBody (top 42), defScope (top 42), [], []⟩,
  ⟨("_law_number", none), "_law_number", "_law_number", defArgs (top 43), defBody (top 43), defScope (top 43), [], []⟩,
  ⟨("_law_regions", none), "_law_regions", "_law_regions", defArgs (top 44), defBody (top 44), defScope (top 44), [], []⟩,
  ⟨("_law_has", none), "_law_has", "_law_has", defArgs (top 45), defBody (top 45), defScope (top 45), [], []⟩,
  ⟨("_law_told", none), "_law_told", "_law_told", defArgs (top 46), defBody (top 46), defScope (top 46), [], []⟩,
  ⟨("_law_counts_of", none), "_law_counts_of", "_law_counts_of", defArgs (top 47), defBody (top 47), defScope (top 47), [], []⟩,
  ⟨("_law_read_back", none), "_law_read_back", "_law_read_back", defArgs (top 48), defBody (top 48), defScope (top 48), [], []⟩,
  ⟨("_law_mild_sum", none), "_law_mild_sum", "_law_mild_sum", defArgs (top 49), defBody (top 49), defScope (top 49), [], []⟩,
  ⟨("_law_right", none), "_law_right", "_law_right", defArgs (top 50), defBody (top 50), defScope (top 50), [], []⟩,
  ⟨("law", none), "law", "law", defArgs (top 51), defBody (top 51), defScope (top 51), [], []⟩,
  ⟨("Talk", some "__init__"), "__init__", "Talk.__init__", defArgs (met 0), defBody (met 0), defScope (met 0), [.adr (He.dflAt ("Talk", some "__init__") 0), .adr (He.dflAt ("Talk", some "__init__") 1)], [("most", .int 12)]⟩,
  ⟨("Talk", some "sets"), "sets", "Talk.sets", defArgs (met 1), defBody (met 1), defScope (met 1), [], []⟩,
  ⟨("Talk", some "numbers"), "numbers", "Talk.numbers", defArgs (met 2), defBody (met 2), defScope (met 2), [], []⟩,
  ⟨("Talk", some "regions"), "regions", "Talk.regions", defArgs (met 4), defBody (met 4), defScope (met 4), [], []⟩,
  ⟨("Talk", some "need_region"), "need_region", "Talk.need_region", defArgs (met 5), defBody (met 5), defScope (met 5), [], []⟩,
  ⟨("Talk", some "lies"), "lies", "Talk.lies", defArgs (met 6), defBody (met 6), defScope (met 6), [], []⟩,
  ⟨("Talk", some "place"), "place", "Talk.place", defArgs (met 7), defBody (met 7), defScope (met 7), [], []⟩,
  ⟨("Talk", some "__len__"), "__len__", "Talk.__len__", defArgs (met 11), defBody (met 11), defScope (met 11), [], []⟩]
def fa : List He.Fa := [.glo "is_whole", .glo "is_name", .glo "are_names", .glo "row_worth", .glo "added", .glo "holds", .glo "regions_of", .glo "alone", .glo "term_for", .glo "row_of", .glo "sum_for", .glo "worth_of", .glo "_law_pool", .glo "_law_take", .glo "_law_folded", .glo "_law_names", .glo "_law_tongue", .glo "_law_term", .glo "_law_world", .glo "_law_lies", .glo "_law_in", .glo "_law_size", .glo "_law_worth", .glo "_law_great", .glo "_law_number", .glo "_law_regions", .glo "_law_has", .glo "_law_told", .glo "_law_counts_of", .glo "_law_read_back", .glo "_law_mild_sum", .glo "_law_right", .glo "law", .glo "Talk", .free "len", .free "list", .free "tuple", .free "max", .free "min", .free "sum", .free "all", .free "any", .free "sorted", .free "isinstance", .free "range", .free "zip", .free "enumerate", .free "repr", .free "dict", .free "int", .free "bool", .free "str", .int "LONGEST" 8, .int "MOST_SETS" 3, .int "MOST_NUMBERS" 2, .str "LETTERS" "abcdefghijklmnopqrstuvwxyz", .cls "Talk", .noat "Talk" "set_names", .noat "Talk" "number_names", .noat "Talk" "top", .meth "Talk" "sets", .meth "Talk" "numbers", .meth "Talk" "regions", .meth "Talk" "need_region", .meth "Talk" "lies", .meth "Talk" "place", .meth "Talk" "__len__", .mkr "Talk"]
abbrev hk : PySem.W.Hook := He.hookD 5 fa fn
def ob (s : PySem.W.SharedT) : He.AlD := He.obsDG 5 fa fn (HandSHeadRun.getT s)
theorem ob_eq (s : PySem.W.SharedT) : ob s = hk.obs s.abs := He.obsDG_eq (HandSHeadRun.getT_eq s)
def names1 : List Str := ["_wall", "MOST", "LETTERS", "LONGEST", "is_whole", "is_name", "are_names", "row_worth", "added", "FoldError", "NoTalk", "LackError", "NoName", "NoRegion", "holds", "regions_of", "alone", "term_for", "row_of", "sum_for", "worth_of", "MOST_SETS", "MOST_NUMBERS", "Talk", "_law_pool"]
def names2 : List Str := ["_law_take", "_law_folded", "_law_names", "_law_tongue", "_law_term", "_law_world", "_law_lies", "_law_in", "_law_size", "_law_worth", "_law_great", "_law_number", "_law_regions", "_law_has", "_law_told", "_law_counts_of", "_law_read_back", "_law_mild_sum", "_law_right"]
theorem run (w : World) : HandSHeadRun.RunEq R (PySem.W.view R.prog [51]) hk ob 4000 (names1 ++ names2) w := by
  intro os
  kernel_rfl
theorem facts {P : Program} {w : World} {K : PySem.W.Frag} {h : Heap} {mg : Str → Option Value} {f : Addr} (X : K.In h) (G : h.Ns mainGlobals mg) (hfa : mg ("law" : Str) = some (.ref f)) (c : He.SaysD fa fn K) :
    ∃ (fd : FuncData) (C : Addr), (∀ (s : Shared) (v : Value), BindsTo s fd ⟨[v], []⟩ [("_law_script", v)]) ∧ ∀ base : Heap, K.In base → base.Ns mainGlobals mg → FnG P w K mg base 16 f fd ["_law_script"] (SpLaw K C) := by
  obtain ⟨d0, F0⟩ := c.def_ 0 (d := ⟨("is_whole", none), "is_whole", "is_whole", defArgs (top 5), defBody (top 5), defScope (top 5), [], [("least", .non), ("most", .non)]⟩) rfl
  obtain ⟨d1, F1⟩ := c.def_ 1 (d := ⟨("is_name", none), "is_name", "is_name", defArgs (top 6), defBody (top 6), defScope (top 6), [], []⟩) rfl
  obtain ⟨d2, F2⟩ := c.def_ 2 (d := ⟨("are_names", none), "are_names", "are_names", defArgs (top 7), defBody (top 7), defScope (top 7), [], []⟩) rfl
  obtain ⟨d3, F3⟩ := c.def_ 3 (d := ⟨("row_worth", none), "row_worth", "row_worth", defArgs (top 9), defBody (top 9), defScope (top 9), [], []⟩) rfl
  obtain ⟨d4, F4⟩ := c.def_ 4 (d := ⟨("added", none), "added", "added", defArgs (top 10), defBody (top 10), defScope (top 10), [], []⟩) rfl
  obtain ⟨d5, F5⟩ := c.def_ 5 (d := ⟨("holds", none), "holds", "holds", defArgs (top 18), defBody (top 18), defScope (top 18), [], []⟩) rfl
  obtain ⟨d6, F6⟩ := c.def_ 6 (d := ⟨("regions_of", none), "regions_of", "regions_of", defArgs (top 19), defBody (top 19), defScope (top 19), [], []⟩) rfl
  obtain ⟨d7, F7⟩ := c.def_ 7 (d := ⟨("alone", none), "alone", "alone", defArgs (top 20), defBody (top 20), defScope (top 20), [], []⟩) rfl
  obtain ⟨d8, F8⟩ := c.def_ 8 (d := ⟨("term_for", none), "term_for", "term_for", defArgs (top 21), defBody (top 21), defScope (top 21), [], []⟩) rfl
  obtain ⟨d9, F9⟩ := c.def_ 9 (d := ⟨("row_of", none), "row_of", "row_of", defArgs (top 23), defBody (top 23), defScope (top 23), [], []⟩) rfl
  obtain ⟨d10, F10⟩ := c.def_ 10 (d := ⟨("sum_for", none), "sum_for", "sum_for", defArgs (top 24), defBody (top 24), defScope (top 24), [], []⟩) rfl
  obtain ⟨d11, F11⟩ := c.def_ 11 (d := ⟨("worth_of", none), "worth_of", "worth_of", defArgs (top 25), defBody (top 25), defScope (top 25), [], []⟩) rfl
  obtain ⟨d12, F12⟩ := c.def_ 12 (d := ⟨("_law_pool", none), "_law_pool", "_law_pool", defArgs (top 31), defBody (top 31), defScope (top 31), [], []⟩) rfl
  obtain ⟨d13, F13⟩ := c.def_ 13 (d := ⟨("_law_take", none), "_law_take", "_law_take", defArgs (top 32), defBody (top 32), defScope (top 32), [], []⟩) rfl
  obtain ⟨d14, F14⟩ := c.def_ 14 (d := ⟨("_law_folded", none), "_law_folded", "_law_folded", defArgs (top 33), defBody (top 33), defScope (top 33), [], []⟩) rfl
  obtain ⟨d15, F15⟩ := c.def_ 15 (d := ⟨("_law_names", none), "_law_names", "_law_names", defArgs (top 34), defBody (top 34), defScope (top 34), [], []⟩) rfl
  obtain ⟨d16, F16⟩ := c.def_ 16 (d := ⟨("_law_tongue", none), "_law_tongue", "_law_tongue", defArgs (top 35), defBody (top 35), defScope (top 35), [], []⟩) rfl
  obtain ⟨d17, F17⟩ := c.def_ 17 (d := ⟨("_law_term", none), "_law_term", "_law_term", defArgs (top 36), defBody (top 36), defScope (top 36), [], []⟩) rfl
  obtain ⟨d18, F18⟩ := c.def_ 18 (d := ⟨("_law_world", none), "_law_world", "_law_world", defArgs (top 37), defBody (top 37), defScope (top 37), [], []⟩) rfl
  obtain ⟨d19, F19⟩ := c.def_ 19 (d := ⟨("_law_lies", none), "_law_lies", "_law_lies", defArgs (top 38), defBody (top 38), defScope (top 38), [], []⟩) rfl
  obtain ⟨d20, F20⟩ := c.def_ 20 (d := ⟨("_law_in", none), "_law_in", "_law_in", defArgs (top 39), defBody (top 39), defScope (top 39), [], []⟩) rfl
  obtain ⟨d21, F21⟩ := c.def_ 21 (d := ⟨("_law_size", none), "_law_size", "_law_size", defArgs (top 40), defBody (top 40), defScope (top 40), [], []⟩) rfl
  obtain ⟨d22, F22⟩ := c.def_ 22 (d := ⟨("_law_worth", none), "_law_worth", "_law_worth", defArgs (top 41), defBody (top 41), defScope (top 41), [], []⟩) rfl
  obtain ⟨d23, F23⟩ := c.def_ 23 (d := ⟨("_law_great", none), "_law_great", "_law_great", defArgs (top 42), defBody (top 42), defScope (top 42), [], []⟩) rfl
  obtain ⟨d24, F24⟩ := c.def_ 24 (d := ⟨("_law_number", none), "_law_number", "_law_number", defArgs (top 43), defBody (top 43), defScope (top 43), [], []⟩) rfl
  obtain ⟨d25, F25⟩ := c.def_ 25 (d := ⟨("_law_regions", none), "_law_regions", "_law_regions", defArgs (top 44), defBody (top 44), defScope (top 44), [], []⟩) rfl
  obtain ⟨d26, F26⟩ := c.def_ 26 (d := ⟨("_law_has", none), "_law_has", "_law_has", defArgs (top 45), defBody (top 45), defScope (top 45), [], []⟩) rfl
  obtain ⟨d27, F27⟩ := c.def_ 27 (d := ⟨("_law_told", none), "_law_told", "_law_told", defArgs (top 46), defBody (top 46), defScope (top 46), [], []⟩) rfl
  obtain ⟨d28, F28⟩ := c.def_ 28 (d := ⟨("_law_counts_of", none), "_law_counts_of", "_law_counts_of", defArgs (top 47), defBody (top 47), defScope (top 47), [], []⟩) rfl
  obtain ⟨d29, F29⟩ := c.def_ 29 (d := ⟨("_law_read_back", none), "_law_read_back", "_law_read_back", defArgs (top 48), defBody (top 48), defScope (top 48), [], []⟩) rfl
  obtain ⟨d30, F30⟩ := c.def_ 30 (d := ⟨("_law_mild_sum", none), "_law_mild_sum", "_law_mild_sum", defArgs (top 49), defBody (top 49), defScope (top 49), [], []⟩) rfl
  obtain ⟨d31, F31⟩ := c.def_ 31 (d := ⟨("_law_right", none), "_law_right", "_law_right", defArgs (top 50), defBody (top 50), defScope (top 50), [], []⟩) rfl
  obtain ⟨d32, F32⟩ := c.def_ 32 (d := ⟨("law", none), "law", "law", defArgs (top 51), defBody (top 51), defScope (top 51), [], []⟩) rfl
  obtain ⟨d33, F33⟩ := c.def_ 33 (d := ⟨("Talk", some "__init__"), "__init__", "Talk.__init__", defArgs (met 0), defBody (met 0), defScope (met 0), [.adr (He.dflAt ("Talk", some "__init__") 0), .adr (He.dflAt ("Talk", some "__init__") 1)], [("most", .int 12)]⟩) rfl
  obtain ⟨d34, F34⟩ := c.def_ 34 (d := ⟨("Talk", some "sets"), "sets", "Talk.sets", defArgs (met 1), defBody (met 1), defScope (met 1), [], []⟩) rfl
  obtain ⟨d35, F35⟩ := c.def_ 35 (d := ⟨("Talk", some "numbers"), "numbers", "Talk.numbers", defArgs (met 2), defBody (met 2), defScope (met 2), [], []⟩) rfl
  obtain ⟨d36, F36⟩ := c.def_ 36 (d := ⟨("Talk", some "regions"), "regions", "Talk.regions", defArgs (met 4), defBody (met 4), defScope (met 4), [], []⟩) rfl
  obtain ⟨d37, F37⟩ := c.def_ 37 (d := ⟨("Talk", some "need_region"), "need_region", "Talk.need_region", defArgs (met 5), defBody (met 5), defScope (met 5), [], []⟩) rfl
  obtain ⟨d38, F38⟩ := c.def_ 38 (d := ⟨("Talk", some "lies"), "lies", "Talk.lies", defArgs (met 6), defBody (met 6), defScope (met 6), [], []⟩) rfl
  obtain ⟨d39, F39⟩ := c.def_ 39 (d := ⟨("Talk", some "place"), "place", "Talk.place", defArgs (met 7), defBody (met 7), defScope (met 7), [], []⟩) rfl
  obtain ⟨d40, F40⟩ := c.def_ 40 (d := ⟨("Talk", some "__len__"), "__len__", "Talk.__len__", defArgs (met 11), defBody (met 11), defScope (met 11), [], []⟩) rfl
  have e := hfa.symm.trans (He.glo_ok X G (c.fact 32 (f := .glo "law") rfl))
  cases e
  have b := FunD.bindsA (ps := ["_law_script"]) F32 fun _ _ _ _ _ _ us hl => match us, hl with | [_], _ => rfl
  refine ⟨_, He.ga K "Talk", fun s v => b s [v] rfl, fun base _ _ => ?_⟩
  have g : Bi mg := ⟨He.free_ok X G (c.fact 34 (f := .free "len") rfl), He.free_ok X G (c.fact 35 (f := .free "list") rfl), He.free_ok X G (c.fact 36 (f := .free "tuple") rfl), He.free_ok X G (c.fact 37 (f := .free "max") rfl), He.free_ok X G (c.fact 38 (f := .free "min") rfl), He.free_ok X G (c.fact 39 (f := .free "sum") rfl), He.free_ok X G (c.fact 40 (f := .free "all") rfl), He.free_ok X G (c.fact 41 (f := .free "any") rfl), He.free_ok X G (c.fact 42 (f := .free "sorted") rfl), He.free_ok X G (c.fact 43 (f := .free "isinstance") rfl), He.free_ok X G (c.fact 44 (f := .free "range") rfl), He.free_ok X G (c.fact 45 (f := .free "zip") rfl), He.free_ok X G (c.fact 46 (f := .free "enumerate") rfl), He.free_ok X G (c.fact 47 (f := .free "repr") rfl), He.free_ok X G (c.fact 48 (f := .free "dict") rfl), He.free_ok X G (c.fact 49 (f := .free "int") rfl), He.free_ok X G (c.fact 50 (f := .free "bool") rfl), He.free_ok X G (c.fact 51 (f := .free "str") rfl)⟩
  have tk : TlK K _ := ⟨He.cls_ok (c.fact 56 (f := .cls "Talk") rfl), He.noat_ok (c.fact 57 (f := .noat "Talk" "set_names") rfl), He.noat_ok (c.fact 58 (f := .noat "Talk" "number_names") rfl), He.noat_ok (c.fact 59 (f := .noat "Talk" "top") rfl)⟩
  have oW := ok_whole (P := P) (w := w) (base := base) (C := (He.ga K "Talk")) g F0
  have W : HasW P w K mg base (He.ga K "Talk") 1 := ⟨_, _, F0, (He.glo_ok X G (c.fact 0 (f := .glo "is_whole") rfl)), oW⟩
  have oN := ok_name (P := P) (w := w) (base := base) (C := (He.ga K "Talk")) g (He.int_ok X G (c.fact 52 (f := .int "LONGEST" 8) rfl)) (He.str_ok X G (c.fact 55 (f := .str "LETTERS" "abcdefghijklmnopqrstuvwxyz") rfl)) F1
  have An : HasF P w K mg base 2 "are_names" ["thing", "many"] (SpAre K (He.ga K "Talk")) := ⟨_, _, (He.glo_ok X G (c.fact 2 (f := .glo "are_names") rfl)), F2.kp, (F2.bindsN fun _ _ _ _ _ _ us hl => match us, hl with | [_, _], _ => rfl), ok_names g F2 F1 (He.glo_ok X G (c.fact 1 (f := .glo "is_name") rfl)) oN⟩
  have Se : HasM P w K mg base _ 1 "sets" ["self"] (SpQ K (He.ga K "Talk") 0 preT (fun ds d => d = setsF ds)) := ⟨_, _, He.meth_ok (c.fact 60 (f := .meth "Talk" "sets") rfl), (F34.bindsN fun _ _ _ _ _ _ us hl => match us, hl with | [_], _ => rfl), ok_sets tk F34⟩
  have Nu : HasM P w K mg base _ 1 "numbers" ["self"] (SpQ K (He.ga K "Talk") 0 preT (fun ds d => d = numsF ds)) := ⟨_, _, He.meth_ok (c.fact 61 (f := .meth "Talk" "numbers") rfl), (F35.bindsN fun _ _ _ _ _ _ us hl => match us, hl with | [_], _ => rfl), ok_nums tk F35⟩
  have Re : HasM P w K mg base _ 1 "regions" ["self"] (SpR K (He.ga K "Talk")) := ⟨_, _, He.meth_ok (c.fact 62 (f := .meth "Talk" "regions") rfl), (F36.bindsN fun _ _ _ _ _ _ us hl => match us, hl with | [_], _ => rfl), ok_regs tk g F36⟩
  have Nd : HasM P w K mg base _ 2 "need_region" ["self", "region"] (SpNd K (He.ga K "Talk")) := ⟨_, _, He.meth_ok (c.fact 63 (f := .meth "Talk" "need_region") rfl), (F37.bindsN fun _ _ _ _ _ _ us hl => match us, hl with | [_, _], _ => rfl), ok_need tk F37 W Re⟩
  have Li : HasM P w K mg base _ 3 "lies" ["self", "region", "name"] (SpL K (He.ga K "Talk")) := ⟨_, _, He.meth_ok (c.fact 64 (f := .meth "Talk" "lies") rfl), (F38.bindsN fun _ _ _ _ _ _ us hl => match us, hl with | [_, _, _], _ => rfl), ok_lies tk F38 Nd⟩
  have Pl : HasM P w K mg base _ 2 "place" ["self", "name"] (SpPl K (He.ga K "Talk")) := ⟨_, _, He.meth_ok (c.fact 65 (f := .meth "Talk" "place") rfl), (F39.bindsN fun _ _ _ _ _ _ us hl => match us, hl with | [_, _], _ => rfl), ok_place tk F39 Re⟩
  have Le : HasM P w K mg base _ 2 "__len__" ["self"] (SpLen K (He.ga K "Talk")) := ⟨_, _, He.meth_ok (c.fact 66 (f := .meth "Talk" "__len__") rfl), (F40.bindsN fun _ _ _ _ _ _ us hl => match us, hl with | [_], _ => rfl), ok_lenT g tk F40 Re⟩
  have Ho := has_holds (P := P) (w := w) (base := base) tk g F5 (He.glo_ok X G (c.fact 5 (f := .glo "holds") rfl)) Li
  have Rg : HasF P w K mg base 11 "regions_of" ["talk", "term"] (SpG K (He.ga K "Talk") 6) := ⟨_, _, (He.glo_ok X G (c.fact 6 (f := .glo "regions_of") rfl)), F6.kp, (F6.bindsN fun _ _ _ _ _ _ us hl => match us, hl with | [_, _], _ => rfl), ok_regof (m := 6) tk g F6 Re (Ho 6)⟩
  have Al : HasF P w K mg base 4 "alone" ["talk", "region"] (SpQ K (He.ga K "Talk") 0 preAl (fun ds d => d = aloneF ds)) := ⟨_, _, (He.glo_ok X G (c.fact 7 (f := .glo "alone") rfl)), F7.kp, (F7.bindsN fun _ _ _ _ _ _ us hl => match us, hl with | [_, _], _ => rfl), ok_alone tk F7 Se Li⟩
  have Tf : HasF P w K mg base 5 "term_for" ["talk", "regions"] (SpQ K (He.ga K "Talk") 0 preTf (fun ds d => d = tmForF ds)) := ⟨_, _, (He.glo_ok X G (c.fact 8 (f := .glo "term_for") rfl)), F8.kp, (F8.bindsN fun _ _ _ _ _ _ us hl => match us, hl with | [_, _], _ => rfl), ok_tmfor tk g F8 W Re Al⟩
  have Rw : HasF P w K mg base 1 "row_worth" ["row", "values"] (SpRw K (He.ga K "Talk")) := ⟨_, _, (He.glo_ok X G (c.fact 3 (f := .glo "row_worth") rfl)), F3.kp, (F3.bindsN fun _ _ _ _ _ _ us hl => match us, hl with | [_, _], _ => rfl), ok_rw g F3⟩
  have Ro : HasF P w K mg base 12 "row_of" ["talk", "addends"] (SpRo K (He.ga K "Talk") 6) := ⟨_, _, (He.glo_ok X G (c.fact 9 (f := .glo "row_of") rfl)), F9.kp, (F9.bindsN fun _ _ _ _ _ _ us hl => match us, hl with | [_, _], _ => rfl), ok_rowof (m := 6) tk g F9 Le Pl Rg⟩
  have Sf : HasF P w K mg base 6 "sum_for" ["talk", "row"] (SpQ K (He.ga K "Talk") 0 preSf (fun ds d => d = sfF ds)) := ⟨_, _, (He.glo_ok X G (c.fact 10 (f := .glo "sum_for") rfl)), F10.kp, (F10.bindsN fun _ _ _ _ _ _ us hl => match us, hl with | [_, _], _ => rfl), ok_sumfor tk g F10 Re Nu Tf⟩
  have Wo : HasF P w K mg base 13 "worth_of" ["talk", "world", "addends"] (SpWo K (He.ga K "Talk") 6) := ⟨_, _, (He.glo_ok X G (c.fact 11 (f := .glo "worth_of") rfl)), F11.kp, (F11.bindsN fun _ _ _ _ _ _ us hl => match us, hl with | [_, _, _], _ => rfl), ok_worth (m := 6) F11 Ro Rw⟩
  have Ll : HasF P w K mg base 1 "_law_lies" ["_law_sets", "_law_region", "_law_name"] (SpLl K (He.ga K "Talk")) := ⟨_, _, (He.glo_ok X G (c.fact 19 (f := .glo "_law_lies") rfl)), F19.kp, (F19.bindsN fun _ _ _ _ _ _ us hl => match us, hl with | [_, _, _], _ => rfl), ok_llies F19⟩
  have In := has_lin (P := P) (w := w) (base := base) g F20 (He.glo_ok X G (c.fact 20 (f := .glo "_law_in") rfl)) Ll
  have Hs := has_lhas (P := P) (w := w) (base := base) (C := (He.ga K "Talk")) g F26 (He.glo_ok X G (c.fact 26 (f := .glo "_law_has") rfl))
  have Lr : HasF P w K mg base 1 "_law_regions" ["_law_sets"] (SpLr K (He.ga K "Talk")) := ⟨_, _, (He.glo_ok X G (c.fact 25 (f := .glo "_law_regions") rfl)), F25.kp, (F25.bindsN fun _ _ _ _ _ _ us hl => match us, hl with | [_], _ => rfl), ok_lregs F25⟩
  have Sz : HasF P w K mg base 6 "_law_size" ["_law_sets", "_law_world_here", "_law_term_here"] (SpSz K (He.ga K "Talk") 3) := ⟨_, _, (He.glo_ok X G (c.fact 21 (f := .glo "_law_size") rfl)), F21.kp, (F21.bindsN fun _ _ _ _ _ _ us hl => match us, hl with | [_, _, _], _ => rfl), ok_lsize (m := 3) g F21 (In 3)⟩
  have Lw : HasF P w K mg base 7 "_law_worth" ["_law_tongue_here", "_law_world_here", "_law_addends"] (SpLw K (He.ga K "Talk") 3) := ⟨_, _, (He.glo_ok X G (c.fact 22 (f := .glo "_law_worth") rfl)), F22.kp, (F22.bindsN fun _ _ _ _ _ _ us hl => match us, hl with | [_, _, _], _ => rfl), ok_lworth (m := 3) g F22 Sz⟩
  have To : HasF P w K mg base 5 "_law_told" ["_law_things", "_law_values", "_law_addends"] (SpLt K (He.ga K "Talk") 3) := ⟨_, _, (He.glo_ok X G (c.fact 27 (f := .glo "_law_told") rfl)), F27.kp, (F27.bindsN fun _ _ _ _ _ _ us hl => match us, hl with | [_, _, _], _ => rfl), ok_ltold (m := 3) g F27 (Hs 3)⟩
  have Co : HasF P w K mg base 2 "_law_counts_of" ["_law_sets", "_law_things"] (SpQ K (He.ga K "Talk") 0 preCo (fun ds d => d = coF ds)) := ⟨_, _, (He.glo_ok X G (c.fact 28 (f := .glo "_law_counts_of") rfl)), F28.kp, (F28.bindsN fun _ _ _ _ _ _ us hl => match us, hl with | [_, _], _ => rfl), ok_lcounts g F28 Lr Ll⟩
  have Rb : HasF P w K mg base 14 "_law_read_back" ["_law_talk", "_law_many", "_law_numbers", "_law_addends"] (SpQ K (He.ga K "Talk") 0 (preRb 6) postRb) := ⟨_, _, (He.glo_ok X G (c.fact 29 (f := .glo "_law_read_back") rfl)), F29.kp, (F29.bindsN fun _ _ _ _ _ _ us hl => match us, hl with | [_, _, _, _], _ => rfl), ok_lread (m := 6) g F29 Wo⟩
  have Ta : HasF P w K mg base 1 "_law_take" ["_law_pool_here", "_law_many"] (SpTk K (He.ga K "Talk")) := ⟨_, _, (He.glo_ok X G (c.fact 13 (f := .glo "_law_take") rfl)), F13.kp, (F13.bindsN fun _ _ _ _ _ _ us hl => match us, hl with | [_, _], _ => rfl), ok_take F13⟩
  have Gr : HasF P w K mg base 2 "_law_great" ["_law_pool_here"] (SpGr K (He.ga K "Talk")) := ⟨_, _, (He.glo_ok X G (c.fact 23 (f := .glo "_law_great") rfl)), F23.kp, (F23.bindsN fun _ _ _ _ _ _ us hl => match us, hl with | [_], _ => rfl), ok_great g F23 Ta⟩
  have Nm : HasF P w K mg base 3 "_law_number" ["_law_pool_here"] (SpNu K (He.ga K "Talk")) := ⟨_, _, (He.glo_ok X G (c.fact 24 (f := .glo "_law_number") rfl)), F24.kp, (F24.bindsN fun _ _ _ _ _ _ us hl => match us, hl with | [_], _ => rfl), ok_number g F24 Ta Gr⟩
  have Te := has_term (P := P) (w := w) (base := base) g F17 (He.glo_ok X G (c.fact 17 (f := .glo "_law_term") rfl)) Ta
  have Ms : HasF P w K mg base 6 "_law_mild_sum" ["_law_pool_here", "_law_tongue_here"] (SpMs K (He.ga K "Talk")) := ⟨_, _, (He.glo_ok X G (c.fact 30 (f := .glo "_law_mild_sum") rfl)), F30.kp, (F30.bindsN fun _ _ _ _ _ _ us hl => match us, hl with | [_, _], _ => rfl), ok_mild g F30 Ta Nm (Te 3)⟩
  have Wd : HasF P w K mg base 3 "_law_world" ["_law_pool_here", "_law_tongue_here", "_law_top"] (SpWd K (He.ga K "Talk")) := ⟨_, _, (He.glo_ok X G (c.fact 18 (f := .glo "_law_world") rfl)), F18.kp, (F18.bindsN fun _ _ _ _ _ _ us hl => match us, hl with | [_, _, _], _ => rfl), ok_world g F18 Ta Gr⟩
  have Na : HasF P w K mg base 2 "_law_names" ["_law_pool_here", "_law_many"] (SpNm K (He.ga K "Talk")) := ⟨_, _, (He.glo_ok X G (c.fact 15 (f := .glo "_law_names") rfl)), F15.kp, (F15.bindsN fun _ _ _ _ _ _ us hl => match us, hl with | [_, _], _ => rfl), ok_lnames g F15 Ta⟩
  have Tg : HasF P w K mg base 3 "_law_tongue" ["_law_pool_here", "_law_many", "_law_numbers"] (SpTg K (He.ga K "Talk")) := ⟨_, _, (He.glo_ok X G (c.fact 16 (f := .glo "_law_tongue") rfl)), F16.kp, (F16.bindsN fun _ _ _ _ _ _ us hl => match us, hl with | [_, _, _], _ => rfl), ok_tongue g F16 Ta Na⟩
  have Fo : HasF P w K mg base 1 "_law_folded" ["_law_script", "_law_top"] (SpFo K (He.ga K "Talk")) := ⟨_, _, (He.glo_ok X G (c.fact 14 (f := .glo "_law_folded") rfl)), F14.kp, (F14.bindsN fun _ _ _ _ _ _ us hl => match us, hl with | [_, _], _ => rfl), ok_folded g F14⟩
  have Po : HasF P w K mg base 1 "_law_pool" ["_law_script", "_law_k"] (SpPo K (He.ga K "Talk")) := ⟨_, _, (He.glo_ok X G (c.fact 12 (f := .glo "_law_pool") rfl)), F12.kp, (F12.bindsN fun _ _ _ _ _ _ us hl => match us, hl with | [_, _], _ => rfl), ok_pool g F12⟩
  have I : HasI P w K mg base (He.ga K "Talk") 3 := ⟨(He.glo_ok X G (c.fact 33 (f := .glo "Talk") rfl)), _, _, _, _, He.mkr_ok (c.fact 67 (f := .mkr "Talk") rfl), F33, ok_init g tk (He.int_ok X G (c.fact 53 (f := .int "MOST_SETS" 3) rfl)) (He.int_ok X G (c.fact 54 (f := .int "MOST_NUMBERS" 2) rfl)) F33 An W⟩
  have Ad : HasAdd P w K mg base (He.ga K "Talk") := ⟨_, _, (He.glo_ok X G (c.fact 4 (f := .glo "added") rfl)), F4, ok_added g F4⟩
  have k : Ks P w K mg base (He.ga K "Talk") := ⟨tk, g, Tg, Gr, Ta, I, Ms, To, Co, Wd, Wo, Ro, Ad, Le, Lw, Rw, Sf, Rb⟩
  have Ri : HasG P w K mg base 15 "_law_right" ["_law_pool_here"] (SpRi K (He.ga K "Talk")) := ⟨_, _, (He.glo_ok X G (c.fact 31 (f := .glo "_law_right") rfl)), F31.kp, (F31.bindsN fun _ _ _ _ _ _ us hl => match us, hl with | [_], _ => rfl), ok_right k F31⟩
  exact ok_law g F32 Fo Po Ri
end CfHead
open PySem PySem.W PySem.Calls PyProof.Rows
theorem PySem.Challenge.cw_countfold_k13_whole_sums_of_things_holds : PySem.Challenge.rw_countfold_k13_whole_sums_of_things.Holds := by
  w_on; o_law
  refine HandSHeadRun.head_any (r := OpenLaw.row PySem.Challenge.rw_countfold_k13_whole_sums_of_things) (q := view (OpenLaw.row PySem.Challenge.rw_countfold_k13_whole_sums_of_things).prog [51]) (H := CfHead.hk) (ob := CfHead.ob) (M := 4000) (loose := CfHead.names1 ++ CfHead.names2) (d := HandSHeadRun.topDef (OpenLaw.row PySem.Challenge.rw_countfold_k13_whole_sums_of_things).prog 51) (kwd := []) CfHead.ob_eq
    (by kernel_rfl) (fun s => by kernel_rfl) CfHead.run (by kernel_rfl) (by kernel_rfl) (by kernel_rfl) (by rfl) (by first | assumption | decide +kernel) (by decide +kernel) ⟨rfl, rfl, rfl, rfl, rfl, by decide +kernel⟩ ?hw ?hc
  case hw => w_witness2
  case hc =>
    refine Cf.walk_ofG (l := PySem.Challenge.rw_countfold_k13_whole_sums_of_things) (n := 63) (k := 16) (x := "_law_script") rfl (by decide) (by kernel_rfl) ⟨rfl, by decide, by decide⟩ ?F
    intro w mg fa h Y G hmg0
    obtain ⟨K, KX, c⟩ := Y
    have hmg : mg ("law" : PySem.Str) = some (.ref fa) := by
      have e : (HandSHeadRun.topDef (OpenLaw.row PySem.Challenge.rw_countfold_k13_whole_sums_of_things).prog 51).name = ("law" : PySem.Str) := by kernel_rfl
      rw [← e]
      exact hmg0
    obtain ⟨fd, C, hb, hF⟩ := CfHead.facts (P := (PySem.Challenge.rw_countfold_k13_whole_sums_of_things).prog) (w := w) KX G hmg c
    exact ⟨K, fd, Cf.SpLaw K C, KX, hb, fun H a ns hl _ hS => ⟨[.scr ns], H, none, 0, ⟨_, [], rfl, ⟨a, rfl, hS⟩, rfl⟩, ⟨Cf.Ex.refl H, by decide, fun p e => by cases e⟩, by decide, ⟨rfl, ns, rfl⟩, fun v d B2 H2 e de _ => by subst e; exact de⟩, hF⟩
