import PyProof.Rows.All
import Wide.All
import OpenK.AllK
import Wide.FinOn
import KE.KStateDown
import Lean
import HandS.ForMost
import HandS.Exc
import HandS.Head0
import HandS.Head1
import HandS.Head2
import HandS.HeadEnd
import HandS.HeadHook1
import HandS.HeadHook2
import HandS.TryOnly
import HandS.ExcOwn
import HandS.WordsExc
import HandS.ExcInit
import HandS.ExcField
import HandS.ExcIs
import HandS.IsInst
import HandS.Property
import HandS.Style
import HandS.TupAny
import HandS.TupLe
import HandS.TupMul
import HandS.Wide
import HandS.Zip
import HandS.Flow
import HandS.OwnEq
import HandS.Sort
import HandS.SortRule
import HandS.Text
import HandS.FStr
import KE.KExcIs
import KE.KTupSum
import PySem.Challenge.RW_partsjoined_k02_faults_made
set_option Elab.async false
set_option linter.all false
set_option maxRecDepth 100000
set_option maxHeartbeats 2000000
/-! DH: the head's facts: each def by a path of one's own, and one Bool of facts. -/
namespace DH
open PySem PySem.Spec PyProof.Rows L2
/-- a def: how it is come to in the written part, its name, its long name, its statement -/
structure DefQ where
  path : PySem.W.Frag → Addr
  nm : Str
  ql : Str
  st : Stmt
abbrev FW : Type := Option (Str × Str × Arguments × FuncBody × Scope × Addr × List (Str × Addr) × Addr)
def fw (K : PySem.W.Frag) (a : Addr) : FW := (K.lookup a).bind fun o => match o.data with
  | .func fd => some (fd.name, fd.qualname, fd.params, fd.body, fd.scope, fd.globals, fd.closure, fd.builtins)
  | _ => none
def DefQ.val (d : DefQ) : FW := some (d.nm, d.ql, defArgs d.st, .stmts (defBody d.st), defScope d.st, mainGlobals, [], builtinsNs)
def noneB : Value → Bool
  | .none => true
  | _ => false
theorem noneB_ok {v : Value} (h : noneB v = true) : v = .none := by
  cases v <;> first | rfl | (cases h)
def DefQ.ok (K : PySem.W.Frag) (d : DefQ) : Bool := PySem.W.keepIn K (.ref (d.path K)) && match K.lookup (d.path K) with
  | some ⟨_, _, Data.func fd, _⟩ => PySem.W.codeIn K fd.code d.ql && noneB fd.defaults
  | _ => false
theorem DefQ.fun_ {K : PySem.W.Frag} {d : DefQ} (e : fw K (d.path K) = d.val) (c : d.ok K = true) : ∃ fd, Fun K d.nm d.ql d.st (d.path K) fd := by
  obtain ⟨kp, c2⟩ := He.ba c
  unfold fw at e
  cases q : K.lookup (d.path K) with
  | none =>
    rw [q] at c2
    cases c2
  | some o =>
    obtain ⟨oc, od, dt, osl⟩ := o
    rw [q] at c2 e
    cases dt with
    | func fd =>
      obtain ⟨n1, n2, n3, n4, n5, n6, n7, n8, n9, n10, n11, n12, n13, n14, n15⟩ := fd
      have e2 : (some (n1, n2, n3, n4, n5, n6, n7, n15) : FW) = some (d.nm, d.ql, defArgs d.st, .stmts (defBody d.st), defScope d.st, mainGlobals, [], builtinsNs) := e
      simp only [Option.some.injEq, Prod.mk.injEq] at e2
      obtain ⟨h1, h2, h3, h4, h5, h6, h7, h8⟩ := e2
      subst h1 h2 h3 h4 h5 h6 h7 h8
      have c3 : (PySem.W.codeIn K n13 d.ql && noneB n8) = true := c2
      obtain ⟨k1, k2⟩ := He.ba c3
      have k3 := noneB_ok k2
      subst k3
      exact ⟨_, ⟨oc, od, n9, n10, n11, n12, n13, n14, osl, rfl, q, k1⟩, kp⟩
    | _ => cases c2
abbrev AlQ : Type := Bool × List FW
def obsQ (fb : PySem.W.Frag → Bool) (fn : List DefQ) (K : PySem.W.Frag) : AlQ := (fb K && fn.all fun d => d.ok K, fn.map fun d => fw K (d.path K))
def valQ (fn : List DefQ) : AlQ := (true, fn.map DefQ.val)
def SaysQ (fb : PySem.W.Frag → Bool) (fn : List DefQ) (K : PySem.W.Frag) : Prop := obsQ fb fn K = valQ fn
def asQ (g : Addr → Option Obj) : Nat → List Addr
  | 0 => [mainGlobals, cStatics]
  | n + 1 => He.growD g (asQ g n)
def obsQG (n : Nat) (fb : PySem.W.Frag → Bool) (fn : List DefQ) (g : Addr → Option Obj) : AlQ := obsQ fb fn (He.frG g (asQ g n))
def hookQ (n : Nat) (fb : PySem.W.Frag → Bool) (fn : List DefQ) : PySem.W.Hook where
  α := AlQ
  obs := fun s => obsQG n fb fn s.heap.get?
  val := fun _ => valQ fn
  says := fun _ h => ∃ K : PySem.W.Frag, K.In h ∧ SaysQ fb fn K
  of := fun _ _ e => ⟨_, He.frG_in, e⟩
  keeps := fun _ _ _ ⟨K, hK, c⟩ k => ⟨K, PySem.W.Frag.In.keeps hK k, c⟩
theorem obsQG_eq {n : Nat} {fb : PySem.W.Frag → Bool} {fn : List DefQ} {g : Addr → Option Obj} {s : Shared} (h : ∀ a, g a = s.heap.get? a) : obsQG n fb fn g = (hookQ n fb fn).obs s := by
  have e : g = s.heap.get? := funext h
  rw [e] <;> rfl
section
variable {fb : PySem.W.Frag → Bool} {fn : List DefQ} {K : PySem.W.Frag}
theorem SaysQ.fact (c : SaysQ fb fn K) : fb K = true := (He.ba (show (fb K && fn.all fun d => d.ok K) = true from congrArg (fun z : AlQ => z.1) c)).1
theorem SaysQ.def_ (c : SaysQ fb fn K) (i : Nat) {d : DefQ} (h : fn[i]? = some d := by rfl) : ∃ fd, Fun K d.nm d.ql d.st (d.path K) fd := by
  have c2 := (He.ba (show (fb K && fn.all fun d => d.ok K) = true from congrArg (fun z : AlQ => z.1) c)).2
  have e : fn.map (fun d => fw K (d.path K)) = fn.map DefQ.val := congrArg (fun z : AlQ => z.2) c
  have e2 : (fn.map fun d => fw K (d.path K))[i]? = (fn.map DefQ.val)[i]? := by rw [e]
  rw [List.getElem?_map, List.getElem?_map, h] at e2
  exact DefQ.fun_ (Option.some.inj e2) (List.all_eq_true.mp c2 d (List.mem_of_getElem? h))
end
/-- a static method -/
def pS (C m : Str) : PySem.W.Frag → Addr := fun K => match PySem.W.recIn K (He.ma K (He.ga K C) m) "staticmethod" with
  | some (.ref g :: _) => g
  | _ => 0
/-- paths: a module's name; a class's method; a property's getter -/
def pG (x : Str) : PySem.W.Frag → Addr := fun K => He.ga K x
def pM (C m : Str) : PySem.W.Frag → Addr := fun K => He.ma K (He.ga K C) m
def pP (C m : Str) : PySem.W.Frag → Addr := fun K => match PySem.W.recIn K (He.ma K (He.ga K C) m) "property" with
  | some (.ref g :: _) => g
  | _ => 0
end DH

set_option maxHeartbeats 2000000
/-! DL1: data as trees, cells that change, and how the abstract heap bears them. -/
namespace DL
open PySem PySem.Spec PyProof.Rows L2

/-- data: trees by value; loc n: the n-th cell that may change -/
inductive D where
  | non | bl (b : Bool) | int (i : Int) | str (x : Str)
  | tup (xs : List D) | lst (xs : List D) | fro (xs : List D)
  | dct (ks : List Key) (vs : List D)
  | obj (c : Str) (ns : List Str) (vs : List D)
  | loc (n : Nat)
  | exn (c : Str) (ns : List Str) (vs : List D)
inductive Cell where
  | lst (xs : List D) | dct (ks : List Key) (vs : List D) | ins (c : Str) (ns : List Str) (vs : List D) | dead
abbrev Store := List Cell
/-- the cells' addresses, the cells, the abstract heap -/
structure Wd where
  r : List Addr
  st : Store
  H : Hp
/-- what is written: the part K, where each class of the text stands -/
structure Cn where
  K : PySem.W.Frag
  cl : Str → Addr
  /-- the error that a suite holds: its class, its dict -/
  ex : Addr → Option (Value × Option Addr) := fun _ => none
/-- a cell that may still change stands there -/
def Al (W : Wd) (a : Addr) : Prop := ∃ (n : Nat) (c : Cell), W.r[n]? = some a ∧ W.st[n]? = some c ∧ c ≠ Cell.dead
def Mu (B : Addr → Prop) (W : Wd) (a : Addr) : Prop := B a ∨ Al W a
/-- a list of the written part -/
def Kl (K : PySem.W.Frag) (a : Addr) (xs : List V) : Prop :=
  ∃ (o : Obj) (its : Array Value) (n : Nat), K.lookup a = some o ∧ o.cls = .type "list" ∧ o.dict = none ∧ o.data = .seq its n ∧ its.size ≤ sizeLine ∧ Vals xs its.toList
mutual
inductive Rep (G : Cn) (B : Addr → Prop) (W : Wd) : V → D → Prop
  | non : Rep G B W .non .non
  | bl (b : Bool) : Rep G B W (.bl b) (.bl b)
  | int (i : Int) : Rep G B W (.int i) (.int i)
  | str (x : Str) : Rep G B W (.str x) (.str x)
  | tup {a : Addr} {vs : List V} {ds : List D} (h : SqT G.K W.H a vs) (t : Reps G B W vs ds) : Rep G B W (.ref a) (.tup ds)
  | lst {a : Addr} {vs : List V} {ds : List D} (h : W.H a = some (.lst vs)) (n : ¬ Mu B W a) (t : Reps G B W vs ds) : Rep G B W (.ref a) (.lst ds)
  | fro {a : Addr} {vs : List V} {ds : List D} (h : (∃ o, W.H a = some (.frz o (.lst vs))) ∨ Kl G.K a vs) (t : Reps G B W vs ds) : Rep G B W (.ref a) (.fro ds)
  | dct {a : Addr} {kvs : List (Key × V)} {ks : List Key} {ds : List D} (h : W.H a = some (.dK kvs)) (n : ¬ Mu B W a) (e : kvs.map (·.1) = ks) (t : Reps G B W (kvs.map (·.2)) ds) : Rep G B W (.ref a) (.dct ks ds)
  | obj {a dx : Addr} {c : Str} {fs : List (Str × V)} {ns : List Str} {ds : List D} (h : W.H a = some (.ins (G.cl c) dx fs)) (n : ¬ Mu B W a) (e : fs.map (·.1) = ns) (t : Reps G B W (fs.map (·.2)) ds) : Rep G B W (.ref a) (.obj c ns ds)
  | loc {a : Addr} {n : Nat} (h : W.r[n]? = some a) : Rep G B W (.ref a) (.loc n)
  | exn0 {a : Addr} {c : Str} (h : G.ex a = some (.ref (G.cl c), none)) : Rep G B W (.ref a) (.exn c [] [])
  | exn1 {a d : Addr} {c : Str} {fs : List (Str × V)} {ns : List Str} {ds : List D} (h : G.ex a = some (.ref (G.cl c), some d)) (hx : W.H d = some (.xd fs)) (e : fs.map (·.1) = ns) (t : Reps G B W (fs.map (·.2)) ds) : Rep G B W (.ref a) (.exn c ns ds)
inductive Reps (G : Cn) (B : Addr → Prop) (W : Wd) : List V → List D → Prop
  | nil : Reps G B W [] []
  | cons {v : V} {d : D} {vs : List V} {ds : List D} (h : Rep G B W v d) (t : Reps G B W vs ds) : Reps G B W (v :: vs) (d :: ds)
end
def CellOk (G : Cn) (B : Addr → Prop) (W : Wd) (a : Addr) : Cell → Prop
  | .lst ds => ∃ vs, W.H a = some (.lst vs) ∧ Reps G B W vs ds
  | .dct ks ds => ∃ kvs : List (Key × V), W.H a = some (.dK kvs) ∧ kvs.map (·.1) = ks ∧ Reps G B W (kvs.map (·.2)) ds
  | .ins c ns ds => ∃ (dx : Addr) (fs : List (Str × V)), W.H a = some (.ins (G.cl c) dx fs) ∧ fs.map (·.1) = ns ∧ Reps G B W (fs.map (·.2)) ds
  | .dead => ∃ o, W.H a = some o
/-- the heap bears the cells -/
structure Rel (G : Cn) (B : Addr → Prop) (W : Wd) : Prop where
  len : W.r.length = W.st.length
  nd : W.r.Nodup
  ban : ∀ a, B a → ∃ o, W.H a = some o
  sep : ∀ (n : Nat) (a : Addr) (c : Cell), W.r[n]? = some a → W.st[n]? = some c → c ≠ Cell.dead → ¬ B a
  cell : ∀ (n : Nat) (a : Addr) (c : Cell), W.r[n]? = some a → W.st[n]? = some c → CellOk G B W a c
/-- how a world goes on -/
structure Ext (W W' : Wd) : Prop where
  l0 : W.r.length = W.st.length
  len : W.st.length ≤ W'.st.length
  more : ∃ m, W'.r = W.r ++ m ∧ ∀ a ∈ m, W.H a = none
  dead : ∀ n : Nat, W.st[n]? = some Cell.dead → W'.st[n]? = some Cell.dead
  keep : ∀ a o, W.H a = some o → ¬ Al W a → W'.H a = some o
  dom : ∀ a o, W.H a = some o → ∃ o', W'.H a = some o'
theorem Ext.refl {W : Wd} (h : W.r.length = W.st.length) : Ext W W := ⟨h, Nat.le_refl _, ⟨[], by simp, by simp⟩, fun _ h => h, fun _ _ h _ => h, fun _ o h => ⟨o, h⟩⟩
theorem Ext.al {W W' : Wd} (x : Ext W W') {a : Addr} {o : HO} (h : W.H a = some o) (q : Al W' a) : Al W a := by
  obtain ⟨n, c, h1, h2, h3⟩ := q
  obtain ⟨m, e, hm⟩ := x.more
  rw [e] at h1
  by_cases hn : n < W.r.length
  · rw [List.getElem?_append_left hn] at h1
    have hn2 : n < W.st.length := by rw [← x.l0]; exact hn
    obtain ⟨c0, hc0⟩ : ∃ c0, W.st[n]? = some c0 := ⟨W.st[n], List.getElem?_eq_getElem hn2⟩
    refine ⟨n, c0, h1, hc0, fun z => ?_⟩
    subst z
    rw [x.dead n hc0] at h2
    exact h3 (Option.some.inj h2).symm
  · rw [List.getElem?_append_right (by omega)] at h1
    have := hm a (List.mem_of_getElem? h1)
    rw [h] at this
    cases this
theorem Ext.mu {W W' : Wd} (x : Ext W W') {B : Addr → Prop} {a : Addr} {o : HO} (h : W.H a = some o) (q : Mu B W' a) : Mu B W a := by
  rcases q with q | q
  · exact .inl q
  · exact .inr (x.al h q)
theorem Ext.trans {W W1 W2 : Wd} (x : Ext W W1) (y : Ext W1 W2) : Ext W W2 := by
  refine ⟨x.l0, Nat.le_trans x.len y.len, ?_, fun n h => y.dead n (x.dead n h), fun a o h n => y.keep a o (x.keep a o h n) fun z => n (x.al h z), fun a o h => ?_⟩
  · obtain ⟨m, e, hm⟩ := x.more
    obtain ⟨m', e', hm'⟩ := y.more
    refine ⟨m ++ m', by rw [e', e, List.append_assoc], fun a ha => ?_⟩
    rcases List.mem_append.mp ha with ha | ha
    · exact hm a ha
    · cases q : W.H a with
      | none => rfl
      | some o =>
        obtain ⟨o', e2⟩ := x.dom a o q
        rw [hm' a ha] at e2
        cases e2
  · obtain ⟨o', h'⟩ := x.dom a o h
    exact y.dom a o' h'
/-- what stands at an alive cell -/
def isCell : HO → Bool
  | .lst _ => true
  | .dK _ => true
  | .ins _ _ _ => true
  | _ => false
theorem Rel.al {G : Cn} {B : Addr → Prop} {W : Wd} (R : Rel G B W) {a : Addr} (h : Al W a) : ∃ o, W.H a = some o ∧ isCell o = true := by
  obtain ⟨n, c, h1, h2, h3⟩ := h
  have q := R.cell n a c h1 h2
  cases c with
  | lst ds => obtain ⟨vs, e, _⟩ := q; exact ⟨_, e, rfl⟩
  | dct ks ds => obtain ⟨vs, e, _⟩ := q; exact ⟨_, e, rfl⟩
  | ins c ns ds => obtain ⟨dx, fs, e, _⟩ := q; exact ⟨_, e, rfl⟩
  | dead => exact (h3 rfl).elim
theorem Rel.there {G : Cn} {B : Addr → Prop} {W : Wd} (R : Rel G B W) {n : Nat} {a : Addr} (h : W.r[n]? = some a) : ∃ o, W.H a = some o := by
  have hn : n < W.st.length := by rw [← R.len]; exact (List.getElem?_eq_some_iff.mp h).1
  have q := R.cell n a W.st[n] h (List.getElem?_eq_getElem hn)
  cases e : W.st[n] with
  | lst ds => rw [e] at q; obtain ⟨vs, e, _⟩ := q; exact ⟨_, e⟩
  | dct ks ds => rw [e] at q; obtain ⟨vs, e, _⟩ := q; exact ⟨_, e⟩
  | ins c ns ds => rw [e] at q; obtain ⟨dx, fs, e, _⟩ := q; exact ⟨_, e⟩
  | dead => rw [e] at q; exact q
theorem Rel.notAl {G : Cn} {B : Addr → Prop} {W : Wd} (R : Rel G B W) {a : Addr} {o : HO} (h : W.H a = some o) (n : isCell o = false) : ¬ Al W a := fun z => by
  obtain ⟨o', e, t⟩ := R.al z
  rw [h] at e
  cases e
  rw [n] at t
  cases t
theorem Rel.free {G : Cn} {B : Addr → Prop} {W : Wd} (R : Rel G B W) {a : Addr} (h : W.H a = none) : ¬ Mu B W a := fun z => by
  rcases z with z | z
  · obtain ⟨o, e⟩ := R.ban a z
    rw [h] at e; cases e
  · obtain ⟨o, e, _⟩ := R.al z
    rw [h] at e; cases e
theorem SqT.ext {G : Cn} {B : Addr → Prop} {W W' : Wd} (R : Rel G B W) (x : Ext W W') {a : Addr} {vs : List V} (h : SqT G.K W.H a vs) : SqT G.K W'.H a vs := by
  rcases h with (h | ⟨o, h⟩) | h
  · exact .inl (.inl (x.keep a _ h (R.notAl h rfl)))
  · exact .inl (.inr ⟨o, x.keep a _ h (R.notAl h rfl)⟩)
  · exact .inr h
section
variable {G : Cn} {B : Addr → Prop} {W W' : Wd}
mutual
theorem Rep.ext (R : Rel G B W) (x : Ext W W') : ∀ (d : D) (v : V), Rep G B W v d → Rep G B W' v d
  | .non, _, h => by cases h; exact .non
  | .bl b, _, h => by cases h; exact .bl b
  | .int i, _, h => by cases h; exact .int i
  | .str i, _, h => by cases h; exact .str i
  | .tup ds, _, h => by
    cases h with
    | tup h t => exact .tup (SqT.ext R x h) (Reps.ext R x ds _ t)
  | .lst ds, _, h => by
    cases h with
    | lst h n t => exact .lst (x.keep _ _ h fun z => n (.inr z)) (fun z => n (x.mu h z)) (Reps.ext R x ds _ t)
  | .fro ds, _, h => by
    cases h with
    | fro h t =>
      refine .fro ?_ (Reps.ext R x ds _ t)
      rcases h with ⟨o, h⟩ | h
      · exact .inl ⟨o, x.keep _ _ h (R.notAl h rfl)⟩
      · exact .inr h
  | .dct ks ds, _, h => by
    cases h with
    | dct h n e t => exact .dct (x.keep _ _ h fun z => n (.inr z)) (fun z => n (x.mu h z)) e (Reps.ext R x ds _ t)
  | .obj c ns ds, _, h => by
    cases h with
    | obj h n e t => exact .obj (x.keep _ _ h fun z => n (.inr z)) (fun z => n (x.mu h z)) e (Reps.ext R x ds _ t)
  | .loc n, _, h => by
    cases h with
    | loc h =>
      obtain ⟨m, e, _⟩ := x.more
      exact .loc (by rw [e]; exact List.getElem?_append_left (List.getElem?_eq_some_iff.mp h).1 ▸ h)
  | .exn c ns ds, _, h => by
    cases h with
    | exn0 h => exact .exn0 h
    | exn1 h hx e t => exact .exn1 h (x.keep _ _ hx (R.notAl hx rfl)) e (Reps.ext R x ds _ t)
theorem Reps.ext (R : Rel G B W) (x : Ext W W') : ∀ (ds : List D) (vs : List V), Reps G B W vs ds → Reps G B W' vs ds
  | [], _, h => by cases h; exact .nil
  | d :: ds, _, h => by
    cases h with
    | cons h t => exact .cons (Rep.ext R x d _ h) (Reps.ext R x ds _ t)
end
theorem Reps.length : ∀ {vs : List V} {ds : List D}, Reps G B W vs ds → vs.length = ds.length
  | _, _, .nil => rfl
  | _, _, .cons _ t => congrArg (· + 1) (Reps.length t)
theorem Reps.get : ∀ {vs : List V} {ds : List D} {i : Nat} {d : D}, Reps G B W vs ds → ds[i]? = some d → ∃ v, vs[i]? = some v ∧ Rep G B W v d
  | _, _, _, _, .nil, e => by simp at e
  | _, _, 0, _, .cons h t, e => by simp at e; subst e; exact ⟨_, rfl, h⟩
  | _, _, i + 1, _, .cons h t, e => by
    obtain ⟨v, h1, h2⟩ := Reps.get (i := i) t (by simpa using e)
    exact ⟨v, by simpa using h1, h2⟩
theorem Reps.getV : ∀ {vs : List V} {ds : List D} {i : Nat} {v : V}, Reps G B W vs ds → vs[i]? = some v → ∃ d, ds[i]? = some d ∧ Rep G B W v d
  | _, _, _, _, .nil, e => by simp at e
  | _, _, 0, _, .cons h t, e => by simp at e; subst e; exact ⟨_, rfl, h⟩
  | _, _, i + 1, _, .cons h t, e => by
    obtain ⟨v, h1, h2⟩ := Reps.getV (i := i) t (by simpa using e)
    exact ⟨v, by simpa using h1, h2⟩
theorem Reps.append : ∀ {vs us : List V} {ds es : List D}, Reps G B W vs ds → Reps G B W us es → Reps G B W (vs ++ us) (ds ++ es)
  | _, _, _, _, .nil, s => s
  | _, _, _, _, .cons h t, s => .cons h (Reps.append t s)
theorem Reps.take : ∀ {vs : List V} {ds : List D} (n : Nat), Reps G B W vs ds → Reps G B W (vs.take n) (ds.take n)
  | _, _, 0, _ => .nil
  | _, _, _ + 1, .nil => .nil
  | _, _, n + 1, .cons h t => .cons h (Reps.take n t)
theorem Reps.drop : ∀ {vs : List V} {ds : List D} (n : Nat), Reps G B W vs ds → Reps G B W (vs.drop n) (ds.drop n)
  | _, _, 0, h => h
  | _, _, _ + 1, .nil => .nil
  | _, _, n + 1, .cons _ t => Reps.drop n t
theorem Reps.set {v : V} {d : D} (r : Rep G B W v d) : ∀ {vs : List V} {ds : List D} (i : Nat), Reps G B W vs ds → Reps G B W (vs.set i v) (ds.set i d)
  | _, _, _, .nil => .nil
  | _, _, 0, .cons _ t => .cons r t
  | _, _, i + 1, .cons h t => .cons h (Reps.set r i t)
theorem Reps.erase : ∀ {vs : List V} {ds : List D} (i : Nat), Reps G B W vs ds → Reps G B W (vs.eraseIdx i) (ds.eraseIdx i)
  | _, _, _, .nil => .nil
  | _, _, 0, .cons _ t => t
  | _, _, i + 1, .cons h t => .cons h (Reps.erase i t)
theorem Reps.lookup : ∀ {fs : List (Str × V)} {ds : List D} {f : Str} {d : D}, Reps G B W (fs.map (·.2)) ds → ((fs.map (·.1)).zip ds).lookup f = some d → ∃ v, fs.lookup f = some v ∧ Rep G B W v d
  | [], _, _, _, h, e => by cases h; simp at e
  | (g, x) :: fs, _, f, d, h, e => by
    cases h with
    | cons h t =>
      simp only [List.map_cons, List.zip_cons_cons, List.lookup_cons] at e ⊢
      cases q : f == g with
      | true => rw [q] at e; cases e; exact ⟨_, rfl, h⟩
      | false => rw [q] at e; exact Reps.lookup t e
theorem lookup_none : ∀ {fs : List (Str × V)} {f : Str}, f ∉ fs.map (·.1) → fs.lookup f = none
  | [], _, _ => rfl
  | (g, x) :: fs, f, h => by
    simp only [List.map_cons, List.mem_cons, not_or] at h
    rw [List.lookup_cons]
    cases q : f == g with
    | true => exact (h.1 (eq_of_beq q)).elim
    | false => exact lookup_none h.2
end
end DL

set_option maxHeartbeats 2000000
/-! DL2: what an expression gives, over trees; one rule a construct. -/
namespace DL
open PySem PySem.Spec PyProof.Rows L2

structure Ex where
  c : Str
  ns : List Str
  vs : List D
inductive R (α : Type) where
  | ok (a : α) (s : Store) | exc (e : Ex) (s : Store) | bad
def R.bind {α β : Type} : R α → (α → Store → R β) → R β
  | .ok a s, f => f a s
  | .exc e s, _ => .exc e s
  | .bad, _ => .bad
@[simp] theorem R.bind_ok {α β : Type} (a : α) (s : Store) (f : α → Store → R β) : (R.ok a s).bind f = f a s := rfl
@[simp] theorem R.bind_exc {α β : Type} (e : Ex) (s : Store) (f : α → Store → R β) : (R.exc e s : R α).bind f = .exc e s := rfl
@[simp] theorem R.bind_bad {α β : Type} (f : α → Store → R β) : (R.bad : R α).bind f = .bad := rfl
theorem R.bind_assoc {α β γ : Type} (r : R α) (f : α → Store → R β) (g : β → Store → R γ) : (r.bind f).bind g = r.bind fun a s => (f a s).bind g := by cases r <;> rfl
/-- slots; what an expression means -/
abbrev Sl := List (Option D)
abbrev M (α : Type) := Sl → Store → R α
def RepX (G : Cn) (B : Addr → Prop) (W : Wd) (cls : Value) (dd : Option Addr) (e : Ex) : Prop :=
  cls = .ref (G.cl e.c) ∧ ((e.ns = [] ∧ e.vs = [] ∧ dd = none) ∨ ∃ (a : Addr) (fs : List (Str × V)), dd = some a ∧ W.H a = some (.xd fs) ∧ fs.map (·.1) = e.ns ∧ Reps G B W (fs.map (·.2)) e.vs)
def Out {α : Type} (G : Cn) (B : Addr → Prop) (W : Wd) (E : XK) (r : R α) (Q : α → Wd → Prop) : Prop := match r with
  | .ok a s => ∀ W', Ext W W' → Rel G B W' → W'.st = s → Q a W'
  | .exc e s => ∀ cls dd W', Ext W W' → Rel G B W' → W'.st = s → RepX G B W' cls dd e → E cls dd W'.H
  | .bad => False
section
variable {G : Cn} {B : Addr → Prop} {W W' : Wd} {E : XK} {α β : Type} {r : R α} {Q Q' : α → Wd → Prop}
theorem Rel.refl (R : Rel G B W) : Ext W W := Ext.refl R.len
theorem Out.imp (h : Out G B W E r Q) (i : ∀ a W', Ext W W' → Rel G B W' → Q a W' → Q' a W') : Out G B W E r Q' := by
  cases r with
  | ok a s => exact fun W' x R e => i a W' x R (h W' x R e)
  | exc e s => exact h
  | bad => exact h
theorem Out.bind {k : α → Store → R β} {Qf : β → Wd → Prop} (h : Out G B W E (r.bind k) Qf) : Out G B W E r fun a W1 => Out G B W1 E (k a W1.st) Qf := by
  cases r with
  | ok a s =>
    intro W1 x R e
    subst e
    have h' : Out G B W E (k a W1.st) Qf := h
    cases q : k a W1.st with
    | ok b s2 => rw [q] at h'; exact fun W2 x2 R2 e2 => h' W2 (x.trans x2) R2 e2
    | exc e s2 => rw [q] at h'; exact fun cls dd W2 x2 R2 e2 => h' cls dd W2 (x.trans x2) R2 e2
    | bad => rw [q] at h'; exact h'
  | exc e s => exact h
  | bad => exact h
theorem Out.ret {a : α} (h : Out G B W E (.ok a W.st) Q) (R : Rel G B W) : Q a W := h W R.refl R rfl
theorem Out.retB {a : α} {k : α → Store → DL.R β} {Qf : β → Wd → Prop} (h : Out G B W E ((R.ok a W.st).bind k) Qf) : Out G B W E (k a W.st) Qf := h
theorem Out.at_ {a : α} {s : Store} (h : Out G B W E (.ok a s) Q) (x : Ext W W') (R : Rel G B W') (e : W'.st = s) : Q a W' := h W' x R e
/-- later -/
theorem Out.ext (h : Out G B W E r Q) (x : Ext W W') : Out G B W' E r Q := by
  cases r with
  | ok a s => exact fun W2 x2 R e => h W2 (x.trans x2) R e
  | exc e s => exact fun cls dd W2 x2 R e => h cls dd W2 (x.trans x2) R e
  | bad => exact h
end
def Slots (G : Cn) (B : Addr → Prop) (W : Wd) (σ : L2.St) (env : Sl) : Prop := σ.length = env.length ∧ ∀ (i : Nat) (d : D), env[i]? = some (some d) → ∃ v, σ[i]? = some (some v) ∧ Rep G B W v d
section
variable {G : Cn} {B : Addr → Prop} {W W' : Wd} {σ : L2.St} {env : Sl} {E : XK}
theorem Slots.ext (S : Slots G B W σ env) (R : Rel G B W) (x : Ext W W') : Slots G B W' σ env := ⟨S.1, fun i d e => by
  obtain ⟨v, h1, h2⟩ := S.2 i d e
  exact ⟨v, h1, Rep.ext R x _ _ h2⟩⟩
theorem Slots.set (S : Slots G B W σ env) {v : V} {d : D} (i : Nat) (r : Rep G B W v d) : Slots G B W (σ.set i (some v)) (env.set i (some d)) := ⟨by simp [S.1], fun j d' e => by
  by_cases h : i = j
  · subst h
    by_cases hi : i < env.length
    · rw [List.getElem?_set_self hi] at e
      cases e
      exact ⟨v, List.getElem?_set_self (by rw [S.1]; exact hi), r⟩
    · rw [List.getElem?_eq_none (by simpa using hi)] at e
      cases e
  · rw [List.getElem?_set_ne h] at e
    rw [List.getElem?_set_ne h]
    exact S.2 j d' e⟩
theorem Slots.clear (S : Slots G B W σ env) (i : Nat) (o : Option V) : Slots G B W (σ.set i o) (env.set i none) := ⟨by simp [S.1], fun j d' e => by
  by_cases h : i = j
  · subst h
    by_cases hi : i < env.length
    · rw [List.getElem?_set_self hi] at e
      cases e
    · rw [List.getElem?_eq_none (by simpa using hi)] at e
      cases e
  · rw [List.getElem?_set_ne h] at e
    rw [List.getElem?_set_ne h]
    exact S.2 j d' e⟩
end
/-- the readings; E: what is wished of an exception, by the slots -/
abbrev ES := L2.St → XK
def tE (G : Cn) (E : ES) (m : M D) : TE := fun σ H Q => ∃ B W env, W.H = H ∧ Rel G B W ∧ Slots G B W σ env ∧ Out G B W (E σ) (m env W.st) fun d W' => ∀ v, Rep G B W' v d → Q v W'.H
def tT (G : Cn) (E : ES) (m : M Bool) : TT := fun σ H Q => ∃ B W env, W.H = H ∧ Rel G B W ∧ Slots G B W σ env ∧ Out G B W (E σ) (m env W.st) fun b W' => Q b W'.H
def tA (G : Cn) (E : ES) (m : M (List D)) : TA := fun σ H Q => ∃ B W env, W.H = H ∧ Rel G B W ∧ Slots G B W σ env ∧ Out G B W (E σ) (m env W.st) fun ds W' => ∀ vs, Reps G B W' vs ds → Q vs W'.H
section
variable {G : Cn} {B : Addr → Prop} {W W' : Wd} {σ : L2.St} {env : Sl} {E : ES} {β : Type}
theorem tE_of {m : M D} {Q : VK} {k : D → Store → R β} {Qf : β → Wd → Prop} (R : Rel G B W) (S : Slots G B W σ env) (h : Out G B W (E σ) ((m env W.st).bind k) Qf)
    (q : ∀ d W' v, Ext W W' → Rel G B W' → Slots G B W' σ env → Rep G B W' v d → Out G B W' (E σ) (k d W'.st) Qf → Q v W'.H) : tE G E m σ W.H Q :=
  ⟨B, W, env, rfl, R, S, h.bind.imp fun d W' x R' o v rv => q d W' v x R' (S.ext R x) rv o⟩
theorem tT_of {m : M Bool} {Q : Bool → Hp → Prop} {k : Bool → Store → R β} {Qf : β → Wd → Prop} (R : Rel G B W) (S : Slots G B W σ env) (h : Out G B W (E σ) ((m env W.st).bind k) Qf)
    (q : ∀ b W', Ext W W' → Rel G B W' → Slots G B W' σ env → Out G B W' (E σ) (k b W'.st) Qf → Q b W'.H) : tT G E m σ W.H Q :=
  ⟨B, W, env, rfl, R, S, h.bind.imp fun b W' x R' o => q b W' x R' (S.ext R x) o⟩
theorem tA_of {m : M (List D)} {Q : List V → Hp → Prop} {k : List D → Store → R β} {Qf : β → Wd → Prop} (R : Rel G B W) (S : Slots G B W σ env) (h : Out G B W (E σ) ((m env W.st).bind k) Qf)
    (q : ∀ ds W' vs, Ext W W' → Rel G B W' → Slots G B W' σ env → Reps G B W' vs ds → Out G B W' (E σ) (k ds W'.st) Qf → Q vs W'.H) : tA G E m σ W.H Q :=
  ⟨B, W, env, rfl, R, S, h.bind.imp fun d W' x R' o v rv => q d W' v x R' (S.ext R x) rv o⟩
end
/-! ### weaker readings -/
section
variable {X : Cx}
theorem PE.weak {e : Expr} {t t' : TE} (h : PE X e t) (i : ∀ σ H Q, t' σ H Q → t σ H Q) : PE X e t' := ⟨fun pins s σ H Q I q => h.run pins s σ H Q I (i σ H Q q)⟩
theorem PT.weak {e : Expr} {t t' : TT} (h : PT X e t) (i : ∀ σ H Q, t' σ H Q → t σ H Q) : PT X e t' := ⟨fun pins s σ H Q I q => h.run pins s σ H Q I (i σ H Q q)⟩
theorem PA.weak {e : List Expr} {t t' : TA} (h : PA X e t) (i : ∀ σ H Q, t' σ H Q → t σ H Q) : PA X e t' := ⟨fun pos pins s σ H Q I q => h.run pos pins s σ H Q I (i σ H Q q)⟩
theorem PS.weak {e : Stmt} {t t' : TS} (h : PS X e t) (i : ∀ D σ H, t' D σ H → t D σ H) : PS X e t' := ⟨fun pins s σ H D I q => h.run pins s σ H D I (i D σ H q)⟩
theorem PSs.weak {e : List Stmt} {t t' : TS} (h : PSs X e t) (i : ∀ D σ H, t' D σ H → t D σ H) : PSs X e t' := ⟨fun pins s σ H D I q => h.run pins s σ H D I (i D σ H q)⟩
theorem PI.weak {tg e : Expr} {t t' : TI} (h : PI X tg e t) (i : ∀ σ H Q, t' σ H Q → t σ H Q) : PI X tg e t' := ⟨fun pins s σ H Q I q => h.run pins s σ H Q I (i σ H Q q)⟩
end
/-! ### new objects -/
section
variable {G : Cn} {B : Addr → Prop} {W : Wd}
def Wd.new (W : Wd) (p : Addr) (o : HO) : Wd := ⟨W.r, W.st, upd W.H p o⟩
theorem Ext.new {p : Addr} {o : HO} (l : W.r.length = W.st.length) (h : W.H p = none) : Ext W (W.new p o) := by
  have k : ∀ a u, W.H a = some u → (W.new p o).H a = some u := fun a u e => (upd_ne (ne_of_none e h)).trans e
  exact ⟨l, Nat.le_refl _, ⟨[], by simp [Wd.new], by simp⟩, fun _ q => q, fun a u e _ => k a u e, fun a u e => ⟨u, k a u e⟩⟩
theorem CellOk.ext {W' : Wd} (R : Rel G B W) (x : Ext W W') {a : Addr} {c : Cell} (h : CellOk G B W a c) (e : W'.H a = W.H a) : CellOk G B W' a c := by
  cases c with
  | lst ds =>
    obtain ⟨vs, h1, h2⟩ := h
    exact ⟨vs, e.trans h1, Reps.ext R x _ _ h2⟩
  | dct ks ds =>
    obtain ⟨vs, h1, h2, h3⟩ := h
    exact ⟨vs, e.trans h1, h2, Reps.ext R x _ _ h3⟩
  | ins c ns ds =>
    obtain ⟨dx, vs, h1, h2, h3⟩ := h
    exact ⟨dx, vs, e.trans h1, h2, Reps.ext R x _ _ h3⟩
  | dead =>
    obtain ⟨o, h1⟩ := h
    exact ⟨o, e.trans h1⟩
theorem Rel.new {p : Addr} {o : HO} (R : Rel G B W) (h : W.H p = none) : Rel G B (W.new p o) := by
  refine ⟨R.len, R.nd, fun a ha => ?_, R.sep, fun n a c h1 h2 => ?_⟩
  · obtain ⟨u, e⟩ := R.ban a ha
    exact ⟨u, (upd_ne (ne_of_none e h)).trans e⟩
  · have q := R.cell n a c h1 h2
    obtain ⟨u, e⟩ := R.there h1
    exact q.ext R (Ext.new R.len h) (upd_ne (ne_of_none e h))
theorem Rel.notMu {p : Addr} {o : HO} (R : Rel G B W) (h : W.H p = none) : ¬ Mu B (W.new p o) p := fun z => R.free h z
theorem Reps.new {p : Addr} {o : HO} (R : Rel G B W) (h : W.H p = none) {vs : List V} {ds : List D} (r : Reps G B W vs ds) : Reps G B (W.new p o) vs ds := Reps.ext R (Ext.new R.len h) _ _ r
theorem Rep.newT {p : Addr} (R : Rel G B W) (h : W.H p = none) {vs : List V} {ds : List D} (r : Reps G B W vs ds) : Rep G B (W.new p (.tup vs)) (.ref p) (.tup ds) := .tup (SqT.of upd_same) (r.new R h)
theorem Rep.newL {p : Addr} (R : Rel G B W) (h : W.H p = none) {vs : List V} {ds : List D} (r : Reps G B W vs ds) : Rep G B (W.new p (.lst vs)) (.ref p) (.lst ds) := .lst upd_same (R.notMu h) (r.new R h)
/-- an end that is a new tuple, a new list -/
theorem Out.tupN {E : XK} {Q : D → Wd → Prop} {ds : List D} (o : Out G B W E (.ok (.tup ds) W.st) Q) (R : Rel G B W) {p : Addr} (h : W.H p = none) (vs : List V) : Q (.tup ds) (W.new p (.tup vs)) := o _ (Ext.new R.len h) (R.new h) rfl
theorem Out.lstN {E : XK} {Q : D → Wd → Prop} {ds : List D} (o : Out G B W E (.ok (.lst ds) W.st) Q) (R : Rel G B W) {p : Addr} (h : W.H p = none) (vs : List V) : Q (.lst ds) (W.new p (.lst vs)) := o _ (Ext.new R.len h) (R.new h) rfl
end
/-! ### lists and tuples that are read -/
def asL (st : Store) : D → Option (List D)
  | .lst xs => some xs
  | .fro xs => some xs
  | .loc n => match st[n]? with
    | some (.lst xs) => some xs
    | _ => none
  | _ => none
def asT : D → Option (List D)
  | .tup xs => some xs
  | _ => none
def asS (st : Store) : D → Option (List D)
  | .tup xs => some xs
  | d => asL st d
section
variable {G : Cn} {B : Addr → Prop} {W : Wd}
theorem Rep.asL (R : Rel G B W) {v : V} {d : D} {xs : List D} (h : Rep G B W v d) (e : asL W.st d = some xs) : ∃ a vs, v = .ref a ∧ SqL G.K W.H a vs ∧ Reps G B W vs xs := by
  cases h with
  | lst h n t => cases e; exact ⟨_, _, rfl, SqL.of h, t⟩
  | fro h t =>
    cases e
    rcases h with ⟨o, h⟩ | ⟨o, its, n, k⟩
    · exact ⟨_, _, rfl, .inl (.inr ⟨o, h⟩), t⟩
    · exact ⟨_, _, rfl, .inr ⟨o, its, n, k⟩, t⟩
  | @loc a n h =>
    cases q : W.st[n]? with
    | none => simp only [DL.asL, q] at e; cases e
    | some c =>
      cases c with
      | lst ds =>
        simp only [DL.asL, q] at e
        cases e
        obtain ⟨vs, h1, h2⟩ := R.cell n a _ h q
        exact ⟨_, vs, rfl, SqL.of h1, h2⟩
      | _ => simp only [DL.asL, q] at e; cases e
  | _ => cases e
/-- .. of the call's own: not a locked one, not the text's -/
def asO (st : Store) : D → Option (List D)
  | .fro _ => none
  | d => DL.asL st d
theorem Rep.asO (R : Rel G B W) {v : V} {d : D} {xs : List D} (h : Rep G B W v d) (e : DL.asO W.st d = some xs) : ∃ a vs, v = .ref a ∧ W.H a = some (.lst vs) ∧ Reps G B W vs xs := by
  cases h with
  | lst h n t => cases e; exact ⟨_, _, rfl, h, t⟩
  | @loc a n h =>
    cases q : W.st[n]? with
    | none => simp only [DL.asO, DL.asL, q] at e; cases e
    | some c =>
      cases c with
      | lst ds =>
        simp only [DL.asO, DL.asL, q] at e
        cases e
        obtain ⟨vs, h1, h2⟩ := R.cell n a _ h q
        exact ⟨_, vs, rfl, h1, h2⟩
      | _ => simp only [DL.asO, DL.asL, q] at e; cases e
  | _ => cases e
theorem Rep.asT {v : V} {d : D} {xs : List D} (h : Rep G B W v d) (e : asT d = some xs) : ∃ a vs, v = .ref a ∧ SqT G.K W.H a vs ∧ Reps G B W vs xs := by
  cases h with
  | tup h t => cases e; exact ⟨_, _, rfl, h, t⟩
  | _ => cases e
theorem Rep.asS (R : Rel G B W) {v : V} {d : D} {xs : List D} (h : Rep G B W v d) (e : asS W.st d = some xs) : ∃ a vs, v = .ref a ∧ (SqL G.K W.H a vs ∨ SqT G.K W.H a vs) ∧ Reps G B W vs xs := by
  cases h with
  | tup h t => cases e; exact ⟨_, _, rfl, .inr h, t⟩
  | lst h n t =>
    obtain ⟨a, vs, e1, h1, h2⟩ := Rep.asL R (.lst h n t) (show DL.asL W.st _ = some xs from e)
    exact ⟨a, vs, e1, .inl h1, h2⟩
  | fro h t =>
    obtain ⟨a, vs, e1, h1, h2⟩ := Rep.asL R (.fro h t) (show DL.asL W.st _ = some xs from e)
    exact ⟨a, vs, e1, .inl h1, h2⟩
  | loc h =>
    obtain ⟨a, vs, e1, h1, h2⟩ := Rep.asL R (.loc h) (show DL.asL W.st _ = some xs from e)
    exact ⟨a, vs, e1, .inl h1, h2⟩
  | _ => cases e
end
/-! ### names, constants -/
def mVar (i : Nat) : M D := fun env st => match env[i]? with
  | some (some d) => .ok d st
  | _ => .bad
def mC (d : D) : M D := fun _ st => .ok d st
section
variable {X : Cx} {G : Cn} {E : ES}
theorem je_var (i : Nat) {x : Str} {pos : Pos} (h : PE X (.Name x pos) (tVar i)) : PE X (.Name x pos) (tE G E (mVar i)) := by
  refine PE.weak h fun σ H Q q => ?_
  obtain ⟨B, W, env, rfl, R, S, o⟩ := q
  unfold mVar at o
  cases e : env[i]? with
  | none => rw [e] at o; exact o.elim
  | some od =>
    cases od with
    | none => rw [e] at o; exact o.elim
    | some d =>
      rw [e] at o
      obtain ⟨v, h1, h2⟩ := S.2 i d e
      exact ⟨v, h1, o.ret R v h2⟩
/-- a constant -/
theorem je_c {e : Expr} {v : V} {d : D} (h : PE X e (tC v)) (r : ∀ B W, Rel G B W → Rep G B W v d) : PE X e (tE G E (mC d)) := by
  refine PE.weak h fun σ H Q q => ?_
  obtain ⟨B, W, env, rfl, R, S, o⟩ := q
  exact o.ret R v (r B W R)
theorem je_int {i : Int} {j pos} : PE X (.Constant (.int i) j pos) (tE G E (mC (.int i))) := je_c pe_int fun _ _ _ => .int i
theorem je_bl {i : Bool} {j pos} : PE X (.Constant (.bool i) j pos) (tE G E (mC (.bl i))) := je_c pe_bl fun _ _ _ => .bl i
theorem je_non {j pos} : PE X (.Constant .none j pos) (tE G E (mC .non)) := je_c pe_non fun _ _ _ => .non
theorem je_str {i : Str} {j pos} : PE X (.Constant (.str i) j pos) (tE G E (mC (.str i))) := je_c pe_str fun _ _ _ => .str i
/-- a module's number or text; a module's tuple -/
theorem je_gint {x : Str} {i : Int} {u : Value} {pos : Pos} (hg : Gl X x) (hm : X.mg x = some u) (r : RelV (.int i) u) (hd : (x == ("__debug__" : Str)) = false := by decide) : PE X (.Name x pos) (tE G E (mC (.int i))) := je_c (pe_glob hg hm r hd) fun _ _ _ => .int i
theorem je_gtup {x : Str} {a : Addr} {vs : List V} {ds : List D} {pos : Pos} (hg : Gl X x) (hm : X.mg x = some (.ref a)) (h : ∀ H, SqT G.K H a vs) (r : ∀ B W, Reps G B W vs ds) (hd : (x == ("__debug__" : Str)) = false := by decide) : PE X (.Name x pos) (tE G E (mC (.tup ds))) :=
  je_c (v := .ref a) (pe_glob hg hm rfl hd) fun _ _ _ => .tup (h _) (r _ _)
/-- never come to -/
def mBad {α : Type} : M α := fun _ _ => .bad
theorem je_bad {e : Expr} : PE X e (tE G E mBad) := ⟨fun _ _ _ _ _ _ ⟨_, _, _, _, _, _, o⟩ => o.elim⟩
theorem jt_bad {e : Expr} : PT X e (tT G E mBad) := ⟨fun _ _ _ _ _ _ ⟨_, _, _, _, _, _, o⟩ => o.elim⟩
/-! ### two operands -/
def mOp (f : D → D → Store → R D) (ma mb : M D) : M D := fun env st => (ma env st).bind fun x s1 => (mb env s1).bind fun y s2 => f x y s2
def OpS (G : Cn) (r : R2) (f : D → D → Store → R D) : Prop := ∀ ⦃B : Addr → Prop⦄ ⦃W : Wd⦄ ⦃E : XK⦄ ⦃x y : D⦄ ⦃v u : V⦄ ⦃Q : VK⦄, Rel G B W → Rep G B W v x → Rep G B W u y →
  Out G B W E (f x y W.st) (fun d W' => ∀ z, Rep G B W' z d → Q z W'.H) → r v u W.H Q
theorem op2 {r : R2} {f : D → D → Store → R D} {ma mb : M D} (hs : OpS G r f) {σ : L2.St} {H : Hp} {Q : VK} (h : tE G E (mOp f ma mb) σ H Q) : tOp r (tE G E ma) (tE G E mb) σ H Q := by
  obtain ⟨B, W, env, rfl, R, S, o⟩ := h
  exact tE_of R S o fun x W1 v x1 R1 S1 r1 o1 => tE_of R1 S1 o1 fun y W2 u x2 R2 S2 r2 o2 => hs R2 (Rep.ext R1 x2 _ _ r1) r2 o2
theorem je_op {op : Operator} {a b : Expr} {pos : Pos} {r : R2} {f : D → D → Store → R D} {ma mb : M D} (ho : OpR X (binaryOp op) r) (hs : OpS G r f) (ha : PE X a (tE G E ma)) (hb : PE X b (tE G E mb)) : PE X (.BinOp a op b pos) (tE G E (mOp f ma mb)) :=
  PE.weak (pe_op ho ha hb) fun _ _ _ h => op2 hs h
theorem je_cmp {op : CmpOp} {a b : Expr} {pos : Pos} {r : R2} {f : D → D → Store → R D} {ma mb : M D} (ho : OpR X (compareOp op) r) (hs : OpS G r f) (ha : PE X a (tE G E ma)) (hb : PE X b (tE G E mb)) (hm : behindInMarks op b = false) : PE X (.Compare a [op] [b] pos) (tE G E (mOp f ma mb)) :=
  PE.weak (pe_cmpR ho ha hb hm) fun _ _ _ h => op2 hs h
theorem je_ix {a b : Expr} {pos : Pos} {r : R2} {f : D → D → Store → R D} {ma mb : M D} (ho : IxR X r) (hs : OpS G r f) (ha : PE X a (tE G E ma)) (hb : PE X b (tE G E mb)) (hp : PlainIx b) : PE X (.Subscript a b pos) (tE G E (mOp f ma mb)) :=
  PE.weak (pe_ix ho ha hb hp) fun _ _ _ h => op2 hs h
/-- a value as a test: it is a bool -/
def mTest (m : M D) : M Bool := fun env st => (m env st).bind fun d s => match d with
  | .bl b => .ok b s
  | _ => .bad
theorem jt_cmp {op : CmpOp} {a b : Expr} {pos : Pos} {r : R2} {f : D → D → Store → R D} {ma mb : M D} (ho : OpR X (compareOp op) r) (hs : OpS G r f) (ha : PE X a (tE G E ma)) (hb : PE X b (tE G E mb)) (hm : behindInMarks op b = false) : PT X (.Compare a [op] [b] pos) (tT G E (mTest (mOp f ma mb))) := by
  refine PT.weak (pt_cmpR ho ha hb hm) fun σ H Q h => ?_
  obtain ⟨B, W, env, rfl, R, S, o⟩ := h
  refine op2 (f := f) hs ?_
  refine tE_of R S o fun d W1 v x1 R1 S1 r1 o1 => ?_
  cases d with
  | bl b => cases r1; exact ⟨b, rfl, o1.ret R1⟩
  | _ => exact o1.elim
end
end DL

set_option maxHeartbeats 2000000
/-! DG: a def's promise where no repr or == of a container is on the way (guards []), and the rules of its calls. -/
namespace DL
open PySem PySem.Spec PyProof.Rows L2

structure Rm (k : Nat) (A : Around) : Prop where
  r : Room k A
  g : A.guards = some []
theorem Rm.mono {j k : Nat} {A : Around} (h : Rm k A) (l : j ≤ k) : Rm j A := ⟨h.r.mono l, h.g⟩
theorem Rm.make {k : Nat} {A : Around} (h : Rm (k + 1) A) (C : Addr) (us : List Value) (kw : List (Str × Value)) : Rm k (A.under (.builtin "type.__call__" ⟨.ref C :: us, kw⟩)) := ⟨h.r.make C us kw, by
  show pushGuards (Code.guards (.builtin "type.__call__" ⟨.ref C :: us, kw⟩)) A.guards = some []
  rw [h.g]
  rfl⟩
theorem Rm.in1 {k : Nat} {A : Around} (h : Rm (k + 1) A) : Rm k A.in1 := ⟨h.r.in1, h.g⟩
theorem Rm.units {k : Nat} {A : Around} (h : Rm k A) : A.units + 64 < cLine := h.r.units
structure FnG (P : Program) (w : World) (K : PySem.W.Frag) (mg : Str → Option Value) (base : Heap) (k : Nat) (f : Addr) (fd : FuncData) (ps : List Str) (sp : Sp) : Prop where
  len : ∀ vs H Q E, sp vs H Q E → vs.length = ps.length
  go : ∀ (A : Around) (outer : List Env) (s : Shared) (H : Hp) (args : Args) (us : List Value) (vs : List V) (Q : VK) (E : XK), Rm k A → Env0 P w K mg base A outer s H → BindsTo s fd args (ps.zip us) → Vals vs us → sp vs H Q E →
    codeAny (model P w) A (.call (.ref f) args) (CR (L2.CX P w) outer P w H s Q E) s
theorem FnG.mono {P : Program} {w : World} {K : PySem.W.Frag} {mg : Str → Option Value} {base : Heap} {j k : Nat} {f : Addr} {fd : FuncData} {ps : List Str} {sp : Sp} (F : FnG P w K mg base j f fd ps sp) (h : j ≤ k) : FnG P w K mg base k f fd ps sp :=
  ⟨F.len, fun A outer s H args us vs Q E r => F.go A outer s H args us vs Q E (r.mono h)⟩
theorem FnG.imp {P : Program} {w : World} {K : PySem.W.Frag} {mg : Str → Option Value} {base : Heap} {k : Nat} {f : Addr} {fd : FuncData} {ps : List Str} {sp sp' : Sp} (F : FnG P w K mg base k f fd ps sp) (h : ∀ vs H Q E, sp' vs H Q E → sp vs H Q E) : FnG P w K mg base k f fd ps sp' :=
  ⟨fun vs H Q E q => F.len vs H Q E (h vs H Q E q), fun A outer s H args us vs Q E r e b v q => F.go A outer s H args us vs Q E r e b v (h vs H Q E q)⟩
theorem FnG.ofOk {P : Program} {w : World} {K : PySem.W.Frag} {mg : Str → Option Value} {base : Heap} {k : Nat} {f : Addr} {fd : FuncData} {ps : List Str} {sp : Sp} (F : FnOk P w K mg base (L2.CX P w) k f fd ps sp) : FnG P w K mg base k f fd ps sp :=
  ⟨F.len, fun A outer s H args us vs Q E r e b v q => F.run A outer s H args us vs Q E r.r e b v q⟩
section
variable {P : Program} {w : World} {K : PySem.W.Frag} {mg : Str → Option Value} {base : Heap}
/-- a def by its body -/
theorem fng_of {x qual : Str} {st : Stmt} {f : Addr} {fd : FuncData} {N ps : List Str} {k : Nat} {sp : Sp} (F : Fun K x qual st f fd) (S : FnScope N ps (defScope st)) (len : ∀ vs H Q E, sp vs H Q E → vs.length = ps.length)
    (body : ∀ (cdv : Value) (A : Around) (outer : List Env) (s : Shared) (H : Hp) (vs : List V) (Q : VK) (E : XK), Rm k (A.deeper (envOfC qual (defScope st) s.heap.objs.size f cdv)) → sp vs H Q E →
      ∃ t, PSs (cxOf (L2.CX P w) P w K mg base N qual (defScope st) f cdv A outer s H E) (defBody st) t ∧ t { nx := fun _ H' => Q .non H', rt := Q } (start N vs) H) : FnG P w K mg base (k + 1) f fd ps sp := by
  obtain ⟨oc, od, kV, doc, pm, an, cdv, ct, osl, rfl, lk, hcd⟩ := F.ex
  refine ⟨len, fun A outer s H args us vs Q E rm e0 hb rv hsp => ?_⟩
  have hl : vs.length = ps.length := len _ _ _ _ hsp
  have kx : K.In s.heap := e0.mod.kin.keeps fun b o e => (e0.bs b o e).1
  have lm : s.heap.NoLimit := e0.mod.nolimit.keeps fun b o e => (e0.bs b o e).1
  have kinds : ∀ y ∈ ps.zip us, (defScope st).names.lookup y.1 = some .local ∨ ((defScope st).names.lookup y.1 = some .cell ∧ ((cellsFrom (s.heap.objs.size + 1) (defScope st).names []).lookup y.1).isSome = true) := by
    intro y hy
    rcases S.par y.1 (List.of_mem_zip (show (y.1, y.2) ∈ ps.zip us from hy)).1 with q | q
    · exact .inl q
    · exact .inr ⟨q, PySem.W.cellsFrom_some _ _ _ (.inl q)⟩
  refine codeAny_call_function rm.r.depth (kx _ _ lk) rfl S.co S.gen rfl (PySem.W.codeRec_of kx hcd) (hb _ _ _ _ ?_)
  refine wpAny_newFunctionEnv_cells S.kind kinds fun env he s1 xin => ?_
  subst he
  refine ⟨lm.keeps xin.toInCall.keep, codeAny_func ?_⟩
  obtain ⟨t, ht, hq⟩ := body cdv A outer s H vs Q E ⟨rm.r.deeper _, rm.g⟩ hsp
  have J0 : Inv (cxOf (L2.CX P w) P w K mg base N qual (defScope st) f cdv A outer s H E) [] (start N vs) H s1 := inv_start S rm.r.hd e0 hl rv xin
  refine wpAny_mono (ht.run [] s1 (start N vs) H _ J0 hq) (fun fl s' hs => ?_) fun _ _ hs => hs
  match fl, hs with
  | .ret u, ⟨v, σ', H', J, ru, q⟩ => exact ⟨v, H', J.os, J.bare, J.base, J.hok, ru, q⟩
  | .next, ⟨σ', H', J, q⟩ => exact ⟨V.non, H', J.os, J.bare, J.base, J.hok, rfl, q⟩
  | .brk, ⟨_, _, _, q⟩ => exact q.elim
  | .cont, ⟨_, _, _, q⟩ => exact q.elim
end
section
variable {X : Cx} {k : Nat} {f C : Addr} {fd : FuncData} {ps : List Str} {sp : Sp} {dvs : List V} {ds : List Value} {E : ES} {x m : Str} {p pos apos : Pos} {e o : Expr} {es : List Expr} {ta : TE} {t : TA}
/-- readings of calls -/
def tCallG (sp : Sp) (dvs : List V) (E : ES) (t : TA) : TE := fun σ H Q => t σ H fun vs H1 => sp (vs ++ dvs) H1 Q (E σ)
def tMethG (C : Addr) (m : Str) (sp : Sp) (dvs : List V) (E : ES) (ta : TE) (t : TA) : TE := fun σ H Q => ta σ H fun x H1 => ∃ a dx fs, x = .ref a ∧ H1 a = some (.ins C dx fs) ∧ fs.lookup m = none ∧ t σ H1 fun vs H2 => sp (x :: (vs ++ dvs)) H2 Q (E σ)
def tMakeG (C : Addr) (sp : Sp) (dvs : List V) (E : ES) (t : TA) : TE := fun σ H Q => t σ H fun vs H1 => ∀ x dx, H1 x = none → H1 dx = none → dx ≠ x → sp (.ref x :: (vs ++ dvs)) (upd (upd H1 dx (.own x)) x (.ins C dx [])) (fun v H2 => v = .non ∧ Q (.ref x) H2) (E σ)
/-- how what is raised goes on here -/
def Pss (X : Cx) (E : ES) : Prop := ∀ (pins : List (Addr × Obj)) (σ : L2.St) (H : Hp) (s : Shared) (e : Value) (s' : Shared), Inv X pins σ H s → L2.CX X.prog X.w X.stack H s (E σ) e s' → X.xe e s'
theorem pss_takes {W : WX} (tk : Takes X W) : Pss X (fun σ cls d H => W cls d σ H) := fun pins σ H s e s' I h => passAt tk σ pins H s e s' I h
theorem pss_body {P : Program} {w : World} {K : PySem.W.Frag} {mg : Str → Option Value} {base : Heap} {N : List Str} {qual : Str} {scope : Scope} {cd : Value} {A : Around} {outer : List Env} {s : Shared} {H : Hp} {E : XK} : Pss (cxOf (L2.CX P w) P w K mg base N qual scope f cd A outer s H E) (fun _ => E) :=
  pss_takes (takes_of rfl rfl rfl rfl)
theorem gRun {pins : List (Addr × Obj)} {σ : L2.St} {H : Hp} {s : Shared} {Q : VK} {us : List Value} {vs : List V} (F : FnG X.prog X.w X.K X.mg X.base k f fd ps sp) (rm : Rm k X.A) (hb : Binds X.K fd ps ds) (hd : Vals dvs ds) (hx : Pss X E)
    (I : Inv X pins σ H s) (rv : Vals vs us) (h : sp (vs ++ dvs) H Q (E σ)) : wpAny (model X.prog X.w) X.A (call (.ref f) us) (EP X pins σ Q) X.xe s := by
  have r2 := rv.append hd
  have hl : (us ++ ds).length = ps.length := r2.length.symm.trans (F.len _ _ _ _ h)
  refine wpAny_call (codeAny_mono (F.go X.A X.stack s H ⟨us, []⟩ (us ++ ds) (vs ++ dvs) Q (E σ) rm I.env0 (hb s us I.kIn hl) r2 h) fun r s' hq => ?_)
  match r, hq with
  | .error er, hq => exact hx pins σ H s er s' I hq
  | .ok (.ret u), hq => exact I.after hq
  | .ok .next, hq => exact hq.elim
  | .ok .brk, hq => exact hq.elim
  | .ok .cont, hq => exact hq.elim
theorem gCall (F : FnG X.prog X.w X.K X.mg X.base k f fd ps sp) (rm : Rm k X.A) (hg : Gl X x) (hm : X.mg x = some (.ref f)) (hk : PySem.W.keepIn X.K (.ref f) = true) (hb : Binds X.K fd ps ds) (hd : Vals dvs ds) (hx : Pss X E) (ha : PA X (e :: es) t)
    (hdb : (x == ("__debug__" : Str)) = false := by decide) (he : starEach (e :: es) X.env = (false, eval e X.env) :: starEach es X.env := by rfl) (hpl : (backTo pos (starEach es X.env)).any (·.1) = false := by rfl) : PE X (.Call (.Name x p) (e :: es) [] pos) (tCallG sp dvs E t) :=
  ⟨fun pins s σ H Q I h => wpAny_Call_Name_kw (ld_glob I hg hm
    (PySem.W.callWith_K (h₀ := X.base) I.ok.mod.kin hk (thn (ha.run pos pins s σ H _ I h) fun us s1 ⟨_, _, I1, r, q⟩ => ⟨I1.kIn, gRun F rm hb hd hx I1 r q⟩) he hpl) hdb)⟩
theorem gCall0 (F : FnG X.prog X.w X.K X.mg X.base k f fd ps sp) (rm : Rm k X.A) (hg : Gl X x) (hm : X.mg x = some (.ref f)) (hk : PySem.W.keepIn X.K (.ref f) = true) (hb : Binds X.K fd ps ds) (hd : Vals dvs ds) (hx : Pss X E)
    (hdb : (x == ("__debug__" : Str)) = false := by decide) : PE X (.Call (.Name x p) [] [] pos) (tCallG sp dvs E tNil) :=
  ⟨fun pins s σ H Q I h => wpAny_Call_Name_kw (ld_glob I hg hm (PySem.W.callWith_K0 I.kIn hk (gRun (us := []) F rm hb hd hx I .nil h)) hdb)⟩
/-- o.m(e, ..) -/
theorem gMeth {pl : Sem Bool} (he : PE X o ta) (c : Cls X.K C) (hm : Meth X.K C m f) (F : FnG X.prog X.w X.K X.mg X.base k f fd ps sp) (rm : Rm k X.A) (hb : Binds X.K fd ps ds) (hd : Vals dvs ds) (hx : Pss X E) (ha : PA X (e :: es) t)
    (hst : starEach (e :: es) X.env = (false, eval e X.env) :: starEach es X.env := by rfl) (hpl : (backTo pos (starEach es X.env)).any (·.1) = false := by rfl)
    (ht : eval (.Call (.Attribute o m apos) (e :: es) [] pos) X.env = (do
      let ov ← eval o X.env
      standAt apos.atName
      let (g, first) ← holding [ov] (getMethod ov m pl)
      callWith pos g first (backTo pos (starEach (e :: es) X.env)) (backToKw pos (keywordEach [] X.env))) := by rfl) : PE X (.Call (.Attribute o m apos) (e :: es) [] pos) (tMethG C m sp dvs E ta t) := by
  refine ⟨fun pins s σ H Q I h => PySem.W.methodCall_KW (pl := pl) (thn (he.run pins s σ H _ I h) fun u s1 h1 => ?_) ht⟩
  obtain ⟨xv, H1, I1, rx, a, dx, fs, rfl, ea, l, q⟩ := h1
  cases rx
  exact getmeth_ok I1 ea c hm l (PySem.W.callWith_K (first := [.ref a]) (h₀ := X.base) I.ok.mod.kin hm.kp (thn (ha.run pos pins s1 σ H1 _ I1 q) fun us s2 ⟨vs, H2, I2, r, q2⟩ =>
    ⟨I2.kIn, gRun (us := .ref a :: us) (vs := .ref a :: vs) F rm hb hd hx I2 (.cons rfl r) q2⟩) hst hpl)
theorem gMeth0 {pl : Sem Bool} (he : PE X o ta) (c : Cls X.K C) (hm : Meth X.K C m f) (F : FnG X.prog X.w X.K X.mg X.base k f fd ps sp) (rm : Rm k X.A) (hb : Binds X.K fd ps ds) (hd : Vals dvs ds) (hx : Pss X E)
    (ht : eval (.Call (.Attribute o m apos) [] [] pos) X.env = (do
      let ov ← eval o X.env
      standAt apos.atName
      let (g, first) ← holding [ov] (getMethod ov m pl)
      callWith pos g first (backTo pos (starEach [] X.env)) (backToKw pos (keywordEach [] X.env))) := by rfl) : PE X (.Call (.Attribute o m apos) [] [] pos) (tMethG C m sp dvs E ta tNil) := by
  refine ⟨fun pins s σ H Q I h => PySem.W.methodCall_KW (pl := pl) (thn (he.run pins s σ H _ I h) fun u s1 h1 => ?_) ht⟩
  obtain ⟨xv, H1, I1, rx, a, dx, fs, rfl, ea, l, q⟩ := h1
  cases rx
  exact getmeth_ok I1 ea c hm l (PySem.W.callWith_K0 (first := [.ref a]) I1.kIn hm.kp (gRun (us := [.ref a]) (vs := [.ref a]) F rm hb hd hx I1 (.cons rfl .nil) q))
/-- a new instance -/
theorem gMakeRun {pins : List (Addr × Obj)} {σ : L2.St} {H : Hp} {s : Shared} {Q : VK} {us : List Value} {vs : List V} (Mk0 : Mk X.K C f) (F : FnG X.prog X.w X.K X.mg X.base k f fd ps sp) (rm : Rm (k + 1) X.A) (hb : Binds X.K fd ps ds) (hd : Vals dvs ds) (hx : Pss X E)
    (I : Inv X pins σ H s) (rv : Vals vs us)
    (h : ∀ y dx, H y = none → H dx = none → dx ≠ y → sp (.ref y :: (vs ++ dvs)) (upd (upd H dx (.own y)) y (.ins C dx [])) (fun v H2 => v = .non ∧ Q (.ref y) H2) (E σ)) : wpAny (model X.prog X.w) X.A (call (.ref C) us) (EP X pins σ Q) X.xe s := by
  have n1 : H (s.heap.objs.size + 1) = none := I.hok.fresh (Nat.le_succ _)
  have n0 : H s.heap.objs.size = none := I.hok.fresh (Nat.le_refl _)
  have hq := h (s.heap.objs.size + 1) s.heap.objs.size n1 n0 (Nat.ne_of_lt (Nat.lt_succ_self _))
  have J := Inv.made (C := C) I
  have r2 : Vals (V.ref (s.heap.objs.size + 1) :: (vs ++ dvs)) (Value.ref (s.heap.objs.size + 1) :: (us ++ ds)) := .cons rfl (rv.append hd)
  have hl : (Value.ref (s.heap.objs.size + 1) :: us ++ ds).length = ps.length := r2.length.symm.trans (F.len _ _ _ _ hq)
  have go := F.go _ X.stack _ _ ⟨Value.ref (s.heap.objs.size + 1) :: us, []⟩ (Value.ref (s.heap.objs.size + 1) :: (us ++ ds)) _ _ (E σ) (rm.make C us []) (J.env0.make C us []) (hb _ (Value.ref (s.heap.objs.size + 1) :: us) J.kIn hl) r2 hq
  refine wpAny_call (make_map (f := f) I.kIn Mk0.makes Mk0.init (beq_iff_eq.mp Mk0.fn) (codeAny_mono go fun r s' hr => ?_))
  match r, hr with
  | .error er, hr => exact hx pins σ _ _ er s' J hr
  | .ok (.ret u), hr =>
    obtain ⟨v, H', J3, ru, ev, q3⟩ := J.after hr
    subst ev
    exact ⟨ru, ⟨V.ref (s.heap.objs.size + 1), H', J3, rfl, q3⟩⟩
  | .ok .next, hr => exact hr.elim
  | .ok .brk, hr => exact hr.elim
  | .ok .cont, hr => exact hr.elim
theorem gMake (Mk0 : Mk X.K C f) (F : FnG X.prog X.w X.K X.mg X.base k f fd ps sp) (rm : Rm (k + 1) X.A) (hg : Gl X x) (hm : X.mg x = some (.ref C)) (hb : Binds X.K fd ps ds) (hd : Vals dvs ds) (hx : Pss X E) (ha : PA X (e :: es) t)
    (hdb : (x == ("__debug__" : Str)) = false := by decide) (he : starEach (e :: es) X.env = (false, eval e X.env) :: starEach es X.env := by rfl) (hpl : (backTo pos (starEach es X.env)).any (·.1) = false := by rfl) : PE X (.Call (.Name x p) (e :: es) [] pos) (tMakeG C sp dvs E t) :=
  ⟨fun pins s σ H Q I h => wpAny_Call_Name_kw (ld_glob I hg hm
    (PySem.W.callWith_K (h₀ := X.base) I.ok.mod.kin Mk0.kp (thn (ha.run pos pins s σ H _ I h) fun us s1 ⟨_, _, I1, r, q⟩ => ⟨I1.kIn, gMakeRun Mk0 F rm hb hd hx I1 r q⟩) he hpl) hdb)⟩
theorem gMake0 (Mk0 : Mk X.K C f) (F : FnG X.prog X.w X.K X.mg X.base k f fd ps sp) (rm : Rm (k + 1) X.A) (hg : Gl X x) (hm : X.mg x = some (.ref C)) (hb : Binds X.K fd ps ds) (hd : Vals dvs ds) (hx : Pss X E)
    (hdb : (x == ("__debug__" : Str)) = false := by decide) : PE X (.Call (.Name x p) [] [] pos) (tMakeG C sp dvs E tNil) :=
  ⟨fun pins s σ H Q I h => wpAny_Call_Name_kw (ld_glob I hg hm (PySem.W.callWith_K0 I.kIn Mk0.kp (gMakeRun (us := []) (vs := []) Mk0 F rm hb hd hx I .nil h)) hdb)⟩
/-- a property read -/
theorem gProp {pp : Addr} {fl : Str} (he : PE X o ta) (c : Cls X.K C) (hp : PropOf X.K C fl pp f) (F : FnG X.prog X.w X.K X.mg X.base k f fd ps sp) (rm : Rm (k + 1) X.A) (hb : Binds X.K fd ps ds) (hd : Vals dvs ds)
    (hab : attributeBase o fl X.env (eval o X.env) = eval o X.env := by rfl) : PE X (.Attribute o fl pos) (tProp C sp dvs (fun _ _ _ => False) ta) := by
  refine ⟨fun pins s σ H Q I h => attr_of hab (thn (he.run pins s σ H _ I h) fun u s1 h1 => ?_)⟩
  obtain ⟨xv, H1, I1, rx, a, dx, fs, rfl, ea, q⟩ := h1
  cases rx
  obtain ⟨mA, O, _, _, _, _⟩ := ins_get I1.hok ea
  obtain ⟨od, J, _⟩ := O.look
  obtain ⟨rest, hrec⟩ := hp.rec_
  have I2 := I1.tok (s1.toks + 1)
  have hl : ([Value.ref a] ++ ds).length = ps.length := by
    have := F.len _ _ _ _ q
    have e2 := hd.length
    simp only [List.length_cons, List.length_append, List.length_nil] at this ⊢
    omega
  have hc : (PySem.W.clsIn X.K C).isSome = true := by
    obtain ⟨cd, hc, _⟩ := PySem.W.any_some c.hd
    rw [hc]; rfl
  have go := F.go X.A.in1 X.stack { s1 with toks := s1.toks + 1 } H1 ⟨[.ref a], []⟩ (.ref a :: ds) (.ref a :: dvs) Q _ rm.in1 I2.env0.in1 (hb _ [.ref a] I2.kIn hl) (.cons rfl hd) q
  refine PySem.W.get_bind I1.kIn J (PySem.W.plainGet_of (c.get fl)).1 (PySem.W.findObj_data hc hp.at_ hp.get hp.tak) (PySem.W.plainGet_of (c.get fl)).2 (wpAny_call (PySem.W.prop_get (s := { s1 with toks := s1.toks + 1 }) I1.kIn hrec (codeAny_mono go fun r s' hr => ?_)))
  match r, hr with
  | .error er, hr =>
    obtain ⟨_, _, _, _, _, _, _, _, _, _, _, _, z⟩ := hr
    exact z.elim
  | .ok (.ret u), hr =>
    obtain ⟨v, H', I3, ru, q3⟩ := I2.after hr
    show wpAny _ _ (handedOut u) _ _ _
    rw [PySem.W.handedOut_of (handed_of ru)]
    exact wpAny_pure ⟨v, H', I3, ru, q3⟩
  | .ok .next, hr => exact hr.elim
  | .ok .brk, hr => exact hr.elim
  | .ok .cont, hr => exact hr.elim
/-- C.m(): m a static method of the class of the text that the name x stands for -/
structure Stat (K : PySem.W.Frag) (C : Addr) (m : Str) (pp f : Addr) : Prop where
  ga : PySem.W.specialIn K (.ref C) "__getattribute__" = some (some (.builtin "type.__getattribute__"))
  rd : PySem.W.readsIn K C (.type "type") = true
  at_ : PySem.W.findCls K (.ref C) (.type "type") m = some (.get (.builtin "staticmethod.__get__") (.ref pp) .none (.ref C))
  rc : ∃ rest, PySem.W.recIn K pp "staticmethod" = some (.ref f :: rest)
  kp : PySem.W.keepIn K (.ref f) = true
theorem gStat0 {pl : Sem Bool} {pp : Addr} {p2 : Pos} (hg : Gl X x) (hm : X.mg x = some (.ref C)) (T : Stat X.K C m pp f) (F : FnG X.prog X.w X.K X.mg X.base k f fd ps sp) (rm : Rm k X.A) (hb : Binds X.K fd ps ds) (hd : Vals dvs ds) (hx : Pss X E)
    (ht : eval (.Call (.Attribute (.Name x p2) m apos) [] [] pos) X.env = (do
      let ov ← eval (.Name x p2) X.env
      standAt apos.atName
      let (g, first) ← holding [ov] (getMethod ov m pl)
      callWith pos g first (backTo pos (starEach [] X.env)) (backToKw pos (keywordEach [] X.env))) := by rfl) (hdb : (x == ("__debug__" : Str)) = false := by decide) : PE X (.Call (.Attribute (.Name x p2) m apos) [] [] pos) (tCallG sp dvs E tNil) := by
  refine ⟨fun pins s σ H Q I h => PySem.W.methodCall_KW (pl := pl) (ld_glob I hg hm ?_ hdb) ht⟩
  obtain ⟨rest, hr⟩ := T.rc
  refine PySem.W.method_cls I.kIn T.ga (PySem.W.cls_bind I.kIn T.rd T.at_ (wpAny_call (PySem.W.sm_get (s := { s with toks := s.toks + 1 }) I.kIn hr (PySem.W.handed_on rfl ?_))))
  have I2 := I.tok (s.toks + 1)
  exact PySem.W.callWith_K0 I2.kIn T.kp (gRun (us := []) F rm hb hd hx I2 .nil h)
end
end DL

set_option maxHeartbeats 2000000
/-! DL3: the operations on trees, each with its rule. -/
namespace DL
open PySem PySem.Spec PyProof.Rows L2

/-! ### + - * // % ** -/
def catL (st : Store) (x y : D) : R D := match asO st x, asO st y with
  | some xs, some ys => if xs.length + ys.length ≤ sizeLine then .ok (.lst (xs ++ ys)) st else .bad
  | _, _ => .bad
def opAdd (x y : D) (st : Store) : R D := match x with
  | .int i => (match y with
    | .int j => .ok (.int (i + j)) st
    | _ => .bad)
  | .str a => (match y with
    | .str b => if a.length + b.length ≤ sizeLine then .ok (.str (a ++ b)) st else .bad
    | _ => .bad)
  | .tup xs => (match y with
    | .tup ys => if xs.length + ys.length ≤ sizeLine then .ok (.tup (xs ++ ys)) st else .bad
    | _ => .bad)
  | x => catL st x y
def opI (f : Int → Int → R D) (x y : D) : R D := match x with
  | .int i => (match y with
    | .int j => f i j
    | _ => .bad)
  | _ => .bad
def opSub (x y : D) (st : Store) : R D := opI (fun i j => .ok (.int (i - j)) st) x y
instance {i j : Int} : Decidable (CMul i j) := inferInstanceAs (Decidable (_ ∨ _))
def CMulB (i j : Int) : Prop := CMul i j ∨ CMulW i j
instance {i j : Int} : Decidable (CMulW i j) := inferInstanceAs (Decidable (_ < _))
instance {i j : Int} : Decidable (CMulB i j) := inferInstanceAs (Decidable (_ ∨ _))
instance {i j : Int} : Decidable (CDiv i j) := inferInstanceAs (Decidable (_ ∧ _))
instance {i j : Int} : Decidable (CPow i j) := inferInstanceAs (Decidable (_ ∧ _))
def opMul (x y : D) (st : Store) : R D := opI (fun i j => if CMulB i j then .ok (.int (i * j)) st else .bad) x y
def opDiv (x y : D) (st : Store) : R D := opI (fun i j => if CDiv i j then .ok (.int (i / j)) st else .bad) x y
def opMod (x y : D) (st : Store) : R D := opI (fun i j => if 0 < j then .ok (.int (i % j)) st else .bad) x y
def opPow (x y : D) (st : Store) : R D := opI (fun i j => if CPow i j then .ok (.int (i ^ j.toNat)) st else .bad) x y
def rInt2 (C : Int → Int → Prop) (g : Int → Int → V) : R2 := rI C g
section
variable {G : Cn} {X : Cx}
theorem opI_ok {r : R2} (f : Store → Int → Int → R D) (h : ∀ (B : Addr → Prop) (W : Wd) (E : XK) (i j : Int) (Q : VK), Rel G B W → Out G B W E (f W.st i j) (fun d W' => ∀ z, Rep G B W' z d → Q z W'.H) → r (.int i) (.int j) W.H Q) : OpS G r fun x y st => opI (f st) x y := by
  intro B W E x y v u Q R rx ry o
  cases x with
  | int i =>
    cases y with
    | int j => cases rx; cases ry; exact h B W E i j Q R o
    | _ => exact o.elim
  | _ => exact o.elim
theorem os_sub : OpS G (rI0 fun i j => .int (i - j)) opSub := opI_ok (fun st i j => .ok (.int (i - j)) st) fun _ _ _ _ _ _ R o => ⟨_, _, rfl, rfl, o.ret R _ (.int _)⟩
theorem opI_if {C : Int → Int → Prop} [∀ i j, Decidable (C i j)] {g : Int → Int → Int} : OpS G (rI C fun i j => .int (g i j)) fun x y st => opI (fun i j => if C i j then .ok (.int (g i j)) st else .bad) x y := opI_ok (fun st i j => if C i j then .ok (.int (g i j)) st else .bad) fun B W E i j Q R o => by
  by_cases c : C i j
  · rw [if_pos c] at o
    exact ⟨i, j, rfl, rfl, c, o.ret R _ (.int _)⟩
  · rw [if_neg c] at o
    exact o.elim
theorem op_mulB : OpR X (binaryOp .Mult) (rI CMulB fun i j => .int (i * j)) := by
  have h := OpR.or (op_mul (X := X)) (op_mulW (X := X))
  intro pins s σ H x y v u Q I r1 r2 q
  obtain ⟨i, j, e1, e2, c, q⟩ := q
  rcases c with c | c
  · exact h pins s σ H x y v u Q I r1 r2 (.inl ⟨i, j, e1, e2, c, q⟩)
  · exact h pins s σ H x y v u Q I r1 r2 (.inr ⟨i, j, e1, e2, c, q⟩)
theorem os_mul : OpS G (rI CMulB fun i j => .int (i * j)) opMul := opI_if
theorem os_div : OpS G (rI CDiv fun i j => .int (i / j)) opDiv := opI_if
theorem os_mod : OpS G (rI (fun _ j => 0 < j) fun i j => .int (i % j)) opMod := opI_if
theorem os_pow : OpS G (rI CPow fun i j => .int (i ^ j.toNat)) opPow := opI_if
/-- a new list's, tuple's end -/
theorem catL_ok {B : Addr → Prop} {W : Wd} {E : XK} {x y : D} {v u : V} {Q : VK} (R : Rel G B W) (rx : Rep G B W v x) (ry : Rep G B W u y) (o : Out G B W E (catL W.st x y) fun d W' => ∀ z, Rep G B W' z d → Q z W'.H) : rCat v u W.H Q := by
  unfold catL at o
  cases e1 : asO W.st x with
  | none => rw [e1] at o; exact o.elim
  | some xs =>
    cases e2 : asO W.st y with
    | none => rw [e1, e2] at o; exact o.elim
    | some ys =>
      rw [e1, e2] at o
      obtain ⟨a, vs, rfl, h1, t1⟩ := rx.asO R e1
      obtain ⟨b, us, rfl, h2, t2⟩ := ry.asO R e2
      by_cases c : xs.length + ys.length ≤ sizeLine
      · simp only [if_pos c] at o
        exact ⟨a, b, vs, us, rfl, rfl, h1, h2, by rw [t1.length, t2.length]; exact c, fun p hp => o.lstN R hp (vs ++ us) _ (.newL R hp (t1.append t2))⟩
      · simp only [if_neg c] at o
        exact o.elim
def rAddA (K : PySem.W.Frag) : R2 := fun x y H Q => (rI0 (fun i j => .int (i + j)) x y H Q ∨ (∃ i j, x = .str i ∧ y = .str j ∧ i.length + j.length ≤ sizeLine ∧ Q (.str (i ++ j)) H)) ∨ (rCatA K x y H Q ∨ rCat x y H Q)
theorem op_addA : OpR X (binaryOp .Add) (rAddA X.K) := (op_add.or op_add_str).or (op_catA.or op_cat)
theorem os_add : OpS G (rAddA G.K) opAdd := by
  intro B W E x y v u Q R rx ry o
  cases x with
  | int i =>
    cases y with
    | int j => cases rx; cases ry; exact .inl (.inl ⟨i, j, rfl, rfl, o.ret R _ (.int _)⟩)
    | _ => exact o.elim
  | str a =>
    cases y with
    | str b =>
      cases rx; cases ry
      unfold opAdd at o
      by_cases c : a.length + b.length ≤ sizeLine
      · simp only [if_pos c] at o
        exact .inl (.inr ⟨a, b, rfl, rfl, c, o.ret R _ (.str _)⟩)
      · simp only [if_neg c] at o
        exact o.elim
    | _ => exact o.elim
  | tup xs =>
    cases y with
    | tup ys =>
      cases rx with
      | @tup a vs _ h1 t1 =>
        cases ry with
        | @tup b us _ h2 t2 =>
          unfold opAdd at o
          by_cases c : xs.length + ys.length ≤ sizeLine
          · simp only [if_pos c] at o
            refine .inr (.inl ⟨a, b, vs, us, rfl, rfl, h1, h2, by rw [t1.length, t2.length]; exact c, fun e => ?_, fun _ e => ?_, fun _ _ p hp => o.tupN R hp (vs ++ us) _ (.newT R hp (t1.append t2))⟩)
            · subst e
              cases t1
              exact o.ret R _ (.tup h2 t2)
            · subst e
              cases t2
              rw [List.append_nil] at o
              exact o.ret R _ (.tup h1 t1)
          · simp only [if_neg c] at o
            exact o.elim
    | _ => exact o.elim
  | _ => exact .inr (.inr (catL_ok R rx ry o))
end
/-! ### order of ints -/
def opCmpI (p : Int → Int → Bool) (x y : D) (st : Store) : R D := opI (fun i j => .ok (.bl (p i j)) st) x y
def opLtI : D → D → Store → R D := opCmpI fun i j => decide (i < j)
def opLeI : D → D → Store → R D := opCmpI fun i j => decide (i ≤ j)
def opGtI : D → D → Store → R D := opCmpI fun i j => decide (j < i)
def opGeI : D → D → Store → R D := opCmpI fun i j => decide (j ≤ i)
theorem os_cmpI {G : Cn} {p : Int → Int → Bool} : OpS G (rI0 fun i j => .bl (p i j)) (opCmpI p) := opI_ok (fun st i j => .ok (.bl (p i j)) st) fun _ _ _ _ _ _ R o => ⟨_, _, rfl, rfl, o.ret R _ (.bl _)⟩
/-! ### is None, is True -/
def opIsN (neg : Bool) (x y : D) (st : Store) : R D := match y with
  | .non => .ok (.bl (neg ^^ (match x with
    | .non => true
    | _ => false))) st
  | _ => .bad
theorem os_isN {G : Cn} : OpS G (fun x y H Q => y = .non ∧ Q (.bl (decide (x = .non))) H) (opIsN false) := by
  intro B W E x y v u Q R rx ry o
  cases y with
  | non =>
    cases ry
    refine ⟨rfl, ?_⟩
    cases x <;> cases rx <;> exact o.ret R _ (.bl _)
  | _ => exact o.elim
theorem os_notN {G : Cn} : OpS G (fun x y H Q => y = .non ∧ Q (.bl (!decide (x = .non))) H) (opIsN true) := by
  intro B W E x y v u Q R rx ry o
  cases y with
  | non =>
    cases ry
    refine ⟨rfl, ?_⟩
    cases x <;> cases rx <;> exact o.ret R _ (.bl _)
  | _ => exact o.elim
/-! ### == of data -/
mutual
def D.py : D → Option PyData
  | .non => some .none
  | .bl b => some (.bool b)
  | .int i => some (.int i)
  | .str x => some (.str x)
  | .tup xs => (D.pys xs).map .tuple
  | .lst xs => (D.pys xs).map .list
  | .fro xs => (D.pys xs).map .list
  | .dct _ _ => none
  | .obj _ _ _ => none
  | .loc _ => none
  | .exn _ _ _ => none
def D.pys : List D → Option (List PyData)
  | [] => some []
  | d :: ds => (D.py d).bind fun p => (D.pys ds).map (p :: ·)
end
section
variable {G : Cn} {B : Addr → Prop} {W : Wd}
mutual
theorem Rep.dp : ∀ (d : D) (v : V) (p : PyData), Rep G B W v d → d.py = some p → Dp G.K W.H v p
  | .non, _, _, h, e => by cases h; cases e; exact .non
  | .bl b, _, _, h, e => by cases h; cases e; exact .bl b
  | .int i, _, _, h, e => by cases h; cases e; exact .int i
  | .str x, _, _, h, e => by cases h; cases e; exact .str x
  | .tup xs, _, _, h, e => by
    cases h with
    | tup h t =>
      obtain ⟨ps, e1, e2⟩ := Option.map_eq_some_iff.mp e
      subst e2
      exact .tup h (Reps.dp xs _ _ t e1)
  | .lst xs, _, _, h, e => by
    cases h with
    | lst h n t =>
      obtain ⟨ps, e1, e2⟩ := Option.map_eq_some_iff.mp e
      subst e2
      exact .lst (SqL.of h) (Reps.dp xs _ _ t e1)
  | .fro xs, _, _, h, e => by
    cases h with
    | fro h t =>
      obtain ⟨ps, e1, e2⟩ := Option.map_eq_some_iff.mp e
      subst e2
      rcases h with ⟨o, h⟩ | ⟨o, its, n, k⟩
      · exact .lst (.inl (.inr ⟨o, h⟩)) (Reps.dp xs _ _ t e1)
      · exact .lst (.inr ⟨o, its, n, k⟩) (Reps.dp xs _ _ t e1)
  | .dct _ _, _, _, _, e => by cases e
  | .obj _ _ _, _, _, _, e => by cases e
  | .loc _, _, _, _, e => by cases e
  | .exn _ _ _, _, _, _, e => by cases e
theorem Reps.dp : ∀ (ds : List D) (vs : List V) (ps : List PyData), Reps G B W vs ds → D.pys ds = some ps → DpAll G.K W.H vs ps
  | [], _, _, h, e => by cases h; cases e; exact .nil
  | d :: ds, _, _, h, e => by
    cases h with
    | cons h t =>
      obtain ⟨p, e1, e⟩ := Option.bind_eq_some_iff.mp e
      obtain ⟨ps, e2, e3⟩ := Option.map_eq_some_iff.mp e
      subst e3
      exact .cons (Rep.dp d _ _ h e1) (Reps.dp ds _ _ t e2)
end
/-- a cell that holds a list, read as a list -/
def res (st : Store) : D → D
  | .loc n => match st[n]? with
    | some (.lst xs) => .lst xs
    | _ => .loc n
  | d => d
theorem Rep.dpR (R : Rel G B W) {d : D} {v : V} {p : PyData} (h : Rep G B W v d) (e : (res W.st d).py = some p) : Dp G.K W.H v p := by
  cases d with
  | loc n =>
    cases q : W.st[n]? with
    | none => simp only [res, q] at e; cases e
    | some c =>
      cases c with
      | lst xs =>
        simp only [res, q] at e
        obtain ⟨ps, e1, e2⟩ := Option.map_eq_some_iff.mp e
        subst e2
        cases h with
        | loc h =>
          obtain ⟨vs, h1, h2⟩ := R.cell n _ _ h q
          exact .lst (SqL.of h1) (Reps.dp xs _ _ h2 e1)
      | _ => simp only [res, q] at e; cases e
  | _ => exact Rep.dp _ _ _ h e
end
def opEqD (neg : Bool) (x y : D) (st : Store) : R D := match (res st x).py, (res st y).py with
  | some p, some q => if SeqAt.shaped p = true ∧ SeqAt.shaped q = true then .ok (.bl (neg ^^ PyData.eqv p q)) st else .bad
  | _, _ => .bad
theorem opEqD_inv {G : Cn} {B : Addr → Prop} {W : Wd} {E : XK} {neg : Bool} {x y : D} {v u : V} {Q : D → Wd → Prop} (R : Rel G B W) (rx : Rep G B W v x) (ry : Rep G B W u y) (o : Out G B W E (opEqD neg x y W.st) Q) :
    ∃ p q, Dp G.K W.H v p ∧ Dp G.K W.H u q ∧ SeqAt.shaped p = true ∧ SeqAt.shaped q = true ∧ Q (.bl (neg ^^ PyData.eqv p q)) W := by
  unfold opEqD at o
  cases e1 : (res W.st x).py with
  | none => rw [e1] at o; exact o.elim
  | some p =>
    cases e2 : (res W.st y).py with
    | none => rw [e1, e2] at o; exact o.elim
    | some q =>
      rw [e1, e2] at o
      by_cases c : SeqAt.shaped p = true ∧ SeqAt.shaped q = true
      · simp only [if_pos c] at o
        exact ⟨p, q, rx.dpR R e1, ry.dpR R e2, c.1, c.2, o.ret R⟩
      · simp only [if_neg c] at o
        exact o.elim
theorem os_eqD {G : Cn} : OpS G (rEqD G.K) (opEqD false) := by
  intro B W E x y v u Q R rx ry o
  obtain ⟨p, q, h1, h2, h3, h4, h5⟩ := opEqD_inv R rx ry o
  exact ⟨p, q, h1, h2, h3, h4, by rw [Bool.false_xor] at h5; exact h5 _ (.bl _)⟩
theorem os_neD {G : Cn} : OpS G (rNeD G.K) (opEqD true) := by
  intro B W E x y v u Q R rx ry o
  obtain ⟨p, q, h1, h2, h3, h4, h5⟩ := opEqD_inv R rx ry o
  exact ⟨p, q, h1, h2, h3, h4, by rw [Bool.true_xor] at h5; exact h5 _ (.bl _)⟩
/-! ### x in seq, of flat data -/
def D.flat : D → Bool
  | .non => true
  | .bl _ => true
  | .int _ => true
  | .str _ => true
  | _ => false
/-- the value of a flat datum -/
def D.v : D → V
  | .bl b => .bl b
  | .int i => .int i
  | .str x => .str x
  | _ => .non
def opIn (neg : Bool) (x y : D) (st : Store) : R D := match asS st y with
  | some ys => if x.flat = true ∧ ys.all D.flat = true then .ok (.bl (neg ^^ inV x.v (ys.map D.v))) st else .bad
  | none => .bad
theorem Rep.flat {G : Cn} {B : Addr → Prop} {W : Wd} {v : V} {d : D} (h : Rep G B W v d) (f : d.flat = true) : v = d.v ∧ flatV v = true := by
  cases h <;> first | exact ⟨rfl, rfl⟩ | (cases f)
theorem Reps.flat {G : Cn} {B : Addr → Prop} {W : Wd} : ∀ {vs : List V} {ds : List D}, Reps G B W vs ds → ds.all D.flat = true → vs = ds.map D.v ∧ vs.all flatV = true
  | _, _, .nil, _ => ⟨rfl, rfl⟩
  | _, _, .cons h t, f => by
    rw [List.all_cons, Bool.and_eq_true] at f
    obtain ⟨e1, f1⟩ := h.flat f.1
    obtain ⟨e2, f2⟩ := Reps.flat t f.2
    exact ⟨by rw [List.map_cons, ← e1, ← e2], by rw [List.all_cons, f1, f2]; rfl⟩
theorem os_in {G : Cn} {neg : Bool} : OpS G (rIn G.K neg) (opIn neg) := by
  intro B W E x y v u Q R rx ry o
  unfold opIn at o
  cases e : asS W.st y with
  | none => rw [e] at o; exact o.elim
  | some ys =>
    rw [e] at o
    obtain ⟨a, vs, rfl, h, t⟩ := ry.asS R e
    by_cases c : x.flat = true ∧ ys.all D.flat = true
    · simp only [if_pos c] at o
      obtain ⟨e1, f1⟩ := rx.flat c.1
      obtain ⟨e2, f2⟩ := t.flat c.2
      refine ⟨a, vs, rfl, h, f1, f2, ?_⟩
      have q := o.ret R
      rw [← e1, ← e2] at q
      cases neg with
      | true => rw [Bool.true_xor] at q; exact q _ (.bl _)
      | false => rw [Bool.false_xor] at q; exact q _ (.bl _)
    · simp only [if_neg c] at o
      exact o.elim
/-! ### an item -/
def opIx (x y : D) (st : Store) : R D := match y with
  | .int i => (match x with
    | .str s => (match atI s.cps.toList i with
      | some c => if s.length ≤ sizeLine then .ok (.str ⟨#[c]⟩) st else .bad
      | none => .bad)
    | x => match (asS st x).bind fun xs => atI xs i with
      | some d => .ok d st
      | none => .bad)
  | _ => .bad
theorem atI_reps {G : Cn} {B : Addr → Prop} {W : Wd} {vs : List V} {ds : List D} {i : Int} {d : D} (t : Reps G B W vs ds) (h : atI ds i = some d) : ∃ v, atI vs i = some v ∧ Rep G B W v d := by
  unfold atI at h ⊢
  rw [t.length]
  cases e : ixN ds.length i with
  | none => rw [e] at h; cases h
  | some j =>
    rw [e] at h
    exact t.get h
theorem os_ix {G : Cn} : OpS G (rIx G.K) opIx := by
  intro B W E x y v u Q R rx ry o
  cases y with
  | int i =>
    cases ry
    have seq : ∀ (h : ∀ s, x ≠ .str s), rIx G.K v (.int i) W.H Q := by
      intro h
      have o' : Out G B W E (match (asS W.st x).bind fun xs => atI xs i with
        | some d => .ok d W.st
        | none => .bad) (fun d W' => ∀ z, Rep G B W' z d → Q z W'.H) := by
        cases x with
        | str s => exact (h s rfl).elim
        | _ => exact o
      cases e : (asS W.st x).bind fun xs => atI xs i with
      | none => rw [e] at o'; exact o'.elim
      | some d =>
        rw [e] at o'
        obtain ⟨xs, e1, e2⟩ := Option.bind_eq_some_iff.mp e
        obtain ⟨a, vs, rfl, hs, t⟩ := rx.asS R e1
        obtain ⟨z, h1, h2⟩ := atI_reps t e2
        rcases hs with hs | hs
        · exact .inl ⟨a, vs, i, z, rfl, rfl, hs, h1, o'.ret R z h2⟩
        · exact .inr (.inl ⟨a, vs, i, z, rfl, rfl, hs, h1, o'.ret R z h2⟩)
    cases x with
    | str s =>
      cases rx
      unfold opIx at o
      cases e : atI s.cps.toList i with
      | none => simp only [e] at o; exact o.elim
      | some c =>
        simp only [e] at o
        by_cases z : s.length ≤ sizeLine
        · simp only [if_pos z] at o
          exact .inr (.inr ⟨s, i, c, rfl, rfl, z, e, o.ret R _ (.str _)⟩)
        · simp only [if_neg z] at o
          exact o.elim
    | _ => exact seq (fun s e => by cases e)
  | _ => exact o.elim
end DL

set_option maxHeartbeats 2000000
/-! DL4: displays, tests, calls of built-ins, fields, calls of the text's own defs. -/
namespace DL
open PySem PySem.Spec PyProof.Rows L2

/-! ### argument lists, displays -/
def mNil : M (List D) := fun _ st => .ok [] st
def mCons (m : M D) (ms : M (List D)) : M (List D) := fun env st => (m env st).bind fun d s => (ms env s).bind fun ds s2 => .ok (d :: ds) s2
def mTup (ms : M (List D)) : M D := fun env st => (ms env st).bind fun ds s => if ds.length ≤ sizeLine then .ok (.tup ds) s else .bad
def mLst (ms : M (List D)) : M D := fun env st => (ms env st).bind fun ds s => if ds.length ≤ sizeLine then .ok (.lst ds) s else .bad
/-- a list that will change: a new cell -/
def mLstC (ms : M (List D)) : M D := fun env st => (ms env st).bind fun ds s => if ds.length ≤ sizeLine then .ok (.loc s.length) (s ++ [Cell.lst ds]) else .bad
section
variable {G : Cn} {B : Addr → Prop} {W : Wd}
def Wd.grow (W : Wd) (p : Addr) (c : Cell) (o : HO) : Wd := ⟨W.r ++ [p], W.st ++ [c], upd W.H p o⟩
theorem Ext.grow {p : Addr} {c : Cell} {o : HO} (l : W.r.length = W.st.length) (h : W.H p = none) : Ext W (W.grow p c o) := by
  have k : ∀ a u, W.H a = some u → (W.grow p c o).H a = some u := fun a u e => (upd_ne (ne_of_none e h)).trans e
  refine ⟨l, by simp [Wd.grow], ⟨[p], rfl, by simp [h]⟩, fun n q => ?_, fun a u e _ => k a u e, fun a u e => ⟨u, k a u e⟩⟩
  exact (List.getElem?_append_left (List.getElem?_eq_some_iff.mp q).1).trans q
theorem Rel.grow {p : Addr} {c : Cell} {o : HO} (R : Rel G B W) (h : W.H p = none) (new : CellOk G B (W.grow p c o) p c) : Rel G B (W.grow p c o) := by
  have x : Ext W (W.grow p c o) := Ext.grow R.len h
  have hp : p ∉ W.r := fun z => by
    obtain ⟨n, hn, e⟩ := List.mem_iff_getElem.mp z
    obtain ⟨u, e2⟩ := R.there (n := n) (a := p) (by rw [List.getElem?_eq_getElem hn, e])
    rw [h] at e2; cases e2
  have old : ∀ (n : Nat) (a : Addr) (c' : Cell), (W.grow p c o).r[n]? = some a → (W.grow p c o).st[n]? = some c' → (W.r[n]? = some a ∧ W.st[n]? = some c') ∨ (a = p ∧ c' = c) := fun n a c' h1 h2 => by
    have l := R.len
    by_cases hn : n < W.r.length
    · exact .inl ⟨(List.getElem?_append_left hn).symm.trans h1, (List.getElem?_append_left (by omega)).symm.trans h2⟩
    · have e1 : [p][n - W.r.length]? = some a := (List.getElem?_append_right (by omega)).symm.trans h1
      have e2 : [c][n - W.st.length]? = some c' := (List.getElem?_append_right (by omega)).symm.trans h2
      have z : n - W.r.length = 0 := by
        have := (List.getElem?_eq_some_iff.mp e1).1
        simp only [List.length_cons, List.length_nil] at this
        omega
      rw [z] at e1
      rw [← l, z] at e2
      exact .inr ⟨(Option.some.inj e1).symm, (Option.some.inj e2).symm⟩
  refine ⟨by simp [Wd.grow, R.len], ?_, fun a ha => ?_, fun n a c' h1 h2 h3 => ?_, fun n a c' h1 h2 => ?_⟩
  · exact List.nodup_append.mpr ⟨R.nd, by simp, fun a ha b hb e => hp (by rw [List.mem_singleton] at hb; rw [← hb, ← e]; exact ha)⟩
  · obtain ⟨u, e⟩ := R.ban a ha
    exact ⟨u, (upd_ne (ne_of_none e h)).trans e⟩
  · rcases old n a c' h1 h2 with ⟨q1, q2⟩ | ⟨rfl, rfl⟩
    · exact R.sep n a c' q1 q2 h3
    · exact fun z => R.free h (.inl z)
  · rcases old n a c' h1 h2 with ⟨q1, q2⟩ | ⟨rfl, rfl⟩
    · obtain ⟨u, e⟩ := R.there q1
      exact (R.cell n a c' q1 q2).ext R x (upd_ne (ne_of_none e h))
    · exact new
theorem Rel.growL {p : Addr} (R : Rel G B W) (h : W.H p = none) {vs : List V} {ds : List D} (t : Reps G B W vs ds) : Rel G B (W.grow p (.lst ds) (.lst vs)) := R.grow h ⟨vs, upd_same, Reps.ext R (Ext.grow R.len h) _ _ t⟩
theorem Rep.grown {p : Addr} {c : Cell} {o : HO} (l : W.r.length = W.st.length) : Rep G B (W.grow p c o) (.ref p) (.loc W.st.length) := .loc (by rw [← l]; exact List.getElem?_concat_length)
/-- a cell changes -/
def Wd.put (W : Wd) (n : Nat) (c : Cell) (a : Addr) (o : HO) : Wd := ⟨W.r, W.st.set n c, upd W.H a o⟩
theorem Ext.put {n : Nat} {a : Addr} {c c' : Cell} {o : HO} (l : W.r.length = W.st.length) (hr : W.r[n]? = some a) (hs : W.st[n]? = some c) (hc : c ≠ Cell.dead) : Ext W (W.put n c' a o) := by
  have al : Al W a := ⟨n, c, hr, hs, hc⟩
  refine ⟨l, by simp [Wd.put], ⟨[], by simp [Wd.put], by simp⟩, fun m q => ?_, fun b u e z => ?_, fun b u e => ?_⟩
  · by_cases h : n = m
    · subst h
      rw [hs] at q
      exact (hc (Option.some.inj q)).elim
    · exact (List.getElem?_set_ne h).trans q
  · exact (upd_ne fun w => z (by rw [w]; exact al)).trans e
  · by_cases h : b = a
    · exact ⟨o, by subst h; exact upd_same⟩
    · exact ⟨u, (upd_ne h).trans e⟩
theorem Rel.put {n : Nat} {a : Addr} {c c' : Cell} {o : HO} (R : Rel G B W) (hr : W.r[n]? = some a) (hs : W.st[n]? = some c) (hc : c ≠ Cell.dead) (new : CellOk G B (W.put n c' a o) a c') : Rel G B (W.put n c' a o) := by
  have x : Ext W (W.put n c' a o) := Ext.put R.len hr hs hc
  refine ⟨by simp [Wd.put, R.len], R.nd, fun b hb => ?_, fun m b c2 h1 h2 h3 => ?_, fun m b c2 h1 h2 => ?_⟩
  · obtain ⟨u, e⟩ := R.ban b hb
    exact x.dom b u e
  · by_cases h : n = m
    · subst h
      have e : b = a := Option.some.inj (h1.symm.trans hr)
      subst e
      exact R.sep n b c hr hs hc
    · exact R.sep m b c2 h1 ((List.getElem?_set_ne h).symm.trans h2) h3
  · by_cases h : n = m
    · subst h
      have e : b = a := Option.some.inj (h1.symm.trans hr)
      subst e
      have e2 : c2 = c' := by
        have hn := (List.getElem?_eq_some_iff.mp hs).1
        exact Option.some.inj (h2.symm.trans (List.getElem?_set_self hn))
      subst e2
      exact new
    · have nb : b ≠ a := fun e => h (nd_ix R.nd hr (by rw [← e]; exact h1))
      exact (R.cell m b c2 h1 ((List.getElem?_set_ne h).symm.trans h2)).ext R x (upd_ne nb)
theorem Rel.putL {n : Nat} {a : Addr} {c : Cell} (R : Rel G B W) (hr : W.r[n]? = some a) (hs : W.st[n]? = some c) (hc : c ≠ Cell.dead) {vs : List V} {ds : List D} (t : Reps G B W vs ds) : Rel G B (W.put n (.lst ds) a (.lst vs)) :=
  R.put hr hs hc ⟨vs, upd_same, Reps.ext R (Ext.put R.len hr hs hc) _ _ t⟩
end
section
variable {X : Cx} {G : Cn} {E : ES}
theorem ja_nil : PA X [] (tA G E mNil) := PA.weak pa_nil fun _ _ _ ⟨_, _, _, e, R, _, o⟩ => by subst e; exact o.ret R _ .nil
theorem ja_cons {e : Expr} {es : List Expr} {m : M D} {ms : M (List D)} (ha : PE X e (tE G E m)) (hr : PA X es (tA G E ms)) (hs : starEach (e :: es) X.env = (false, eval e X.env) :: starEach es X.env := by rfl) : PA X (e :: es) (tA G E (mCons m ms)) := by
  refine PA.weak (pa_cons ha hr hs) fun σ H Q ⟨B, W, env, e, R, S, o⟩ => ?_
  subst e
  refine tE_of R S o fun d W1 v x1 R1 S1 r1 o1 => ?_
  refine tA_of R1 S1 o1 fun ds W2 vs x2 R2 S2 r2 o2 => ?_
  exact o2.ret R2 _ (.cons (Rep.ext R1 x2 _ _ r1) r2)
theorem je_tup {es : List Expr} {ms : M (List D)} {x1 pos} (h : PA X es (tA G E ms)) : PE X (.Tuple es x1 pos) (tE G E (mTup ms)) := by
  refine PE.weak (pe_tup h) fun σ H Q ⟨B, W, env, e, R, S, o⟩ => ?_
  subst e
  refine tA_of R S o fun ds W1 vs x1 R1 S1 r1 o1 => ?_
  by_cases c : ds.length ≤ sizeLine
  · simp only [if_pos c] at o1
    exact ⟨by rw [r1.length]; exact c, fun p hp => o1.tupN R1 hp vs _ (.newT R1 hp r1)⟩
  · simp only [if_neg c] at o1
    exact o1.elim
theorem je_lst {es : List Expr} {ms : M (List D)} {pos} (h : PA X es (tA G E ms)) : PE X (.List es pos) (tE G E (mLst ms)) := by
  refine PE.weak (pe_lst h) fun σ H Q ⟨B, W, env, e, R, S, o⟩ => ?_
  subst e
  refine tA_of R S o fun ds W1 vs x1 R1 S1 r1 o1 => ?_
  by_cases c : ds.length ≤ sizeLine
  · simp only [if_pos c] at o1
    exact ⟨by rw [r1.length]; exact c, fun p hp => o1.lstN R1 hp vs _ (.newL R1 hp r1)⟩
  · simp only [if_neg c] at o1
    exact o1.elim
theorem je_lstC {es : List Expr} {ms : M (List D)} {pos} (h : PA X es (tA G E ms)) : PE X (.List es pos) (tE G E (mLstC ms)) := by
  refine PE.weak (pe_lst h) fun σ H Q ⟨B, W, env, e, R, S, o⟩ => ?_
  subst e
  refine tA_of R S o fun ds W1 vs x1 R1 S1 r1 o1 => ?_
  by_cases c : ds.length ≤ sizeLine
  · simp only [if_pos c] at o1
    exact ⟨by rw [r1.length]; exact c, fun p hp => o1 (W1.grow p (.lst ds) (.lst vs)) (Ext.grow R1.len hp) (R1.growL hp r1) rfl _ (.grown R1.len)⟩
  · simp only [if_neg c] at o1
    exact o1.elim
/-! ### truth -/
def tru (st : Store) (d : D) : Option Bool := match d with
  | .non => some false
  | .bl b => some b
  | .int i => some (i != 0)
  | .str x => if x.length ≤ sizeLine then some ((x.length : Int) != 0) else none
  | .dct ks _ => some (!ks.isEmpty)
  | d => (asS st d).map fun xs => !xs.isEmpty
theorem isEmpty_reps {B : Addr → Prop} {W : Wd} {vs : List V} {ds : List D} (t : Reps G B W vs ds) : (!vs.isEmpty) = !ds.isEmpty := by cases t <;> rfl
theorem Rep.tru {B : Addr → Prop} {W : Wd} {v : V} {d : D} {b : Bool} (R : Rel G B W) (r : Rep G B W v d) (e : DL.tru W.st d = some b) : TruV G.K v W.H b := by
  have seq : (DL.asS W.st d).map (fun xs => !xs.isEmpty) = some b → TruV G.K v W.H b := fun e => by
    obtain ⟨xs, e1, e2⟩ := Option.map_eq_some_iff.mp e
    obtain ⟨a, vs, rfl, h, t⟩ := r.asS R e1
    rcases h with h | h
    · exact .inl ⟨vs, h, by rw [isEmpty_reps t]; exact e2.symm⟩
    · exact .inr (.inl ⟨vs, h, by rw [isEmpty_reps t]; exact e2.symm⟩)
  cases d with
  | non => cases r; cases e; rfl
  | bl b => cases r; cases e; rfl
  | int i => cases r; cases e; rfl
  | str x =>
    cases r
    unfold DL.tru at e
    by_cases c : x.length ≤ sizeLine
    · simp only [if_pos c] at e
      exact ⟨c, (Option.some.inj e).symm⟩
    · simp only [if_neg c] at e
      cases e
  | dct ks ds =>
    cases r with
    | @dct a kvs _ _ h n e1 t =>
      cases e
      refine .inr (.inr ⟨kvs, h, ?_⟩)
      subst e1
      cases kvs <;> rfl
  | _ => exact seq e
def mTru (m : M D) : M Bool := fun env st => (m env st).bind fun d s => match tru s d with
  | some b => .ok b s
  | none => .bad
theorem jt_tru {e : Expr} {m : M D} (hK : G.K = X.K) (h : PE X e (tE G E m)) (he : ∀ whole, isTrue e X.env whole = (do let v ← whole; standAt e.pos; holding [v] (truthy v)) := by intro _; rfl) : PT X e (tT G E (mTru m)) := by
  refine PT.weak (pt_truth h he) fun σ H Q ⟨B, W, env, e, R, S, o⟩ => ?_
  subst e
  refine tE_of R S o fun d W1 v x1 R1 S1 r1 o1 => ?_
  cases q : tru W1.st d with
  | none => simp only [q] at o1; exact o1.elim
  | some b =>
    simp only [q] at o1
    exact ⟨b, by rw [← hK]; exact r1.tru R1 q, o1.ret R1⟩
/-! ### and, or, not -/
def mAndT (a b : M Bool) : M Bool := fun env st => (a env st).bind fun c s => if c then b env s else .ok false s
def mOrT (a b : M Bool) : M Bool := fun env st => (a env st).bind fun c s => if c then .ok true s else b env s
def mNotT (a : M Bool) : M Bool := fun env st => (a env st).bind fun c s => .ok (!c) s
section
variable {a b : Expr} {rest : List Expr} {pos : Pos} {ma mb : M Bool} {va vb : M D}
theorem PW.weak {e : Expr} {t t' : TT} (h : PW X e t) (i : ∀ σ H Q, t' σ H Q → t σ H Q) : PW X e t' := ⟨fun wh pins s σ H Q I q => h.run wh pins s σ H Q I (i σ H Q q)⟩
theorem jw_and1 (ha : PT X a (tT G E ma)) : PW X (.BoolOp .And [a] pos) (tT G E ma) := pw_and1 ha
theorem jw_or1 (ha : PT X a (tT G E ma)) : PW X (.BoolOp .Or [a] pos) (tT G E ma) := pw_or1 ha
theorem jw_and (ha : PT X a (tT G E ma)) (hb : PW X (.BoolOp .And (b :: rest) pos) (tT G E mb)) : PW X (.BoolOp .And (a :: b :: rest) pos) (tT G E (mAndT ma mb)) := by
  refine PW.weak (pw_and ha hb) fun σ H Q ⟨B, W, env, e, R, S, o⟩ => ?_
  subst e
  refine tT_of R S o fun c W1 x1 R1 S1 o1 => ?_
  cases c with
  | true => exact ⟨B, W1, env, rfl, R1, S1, o1⟩
  | false => exact o1.ret R1
theorem jw_or (ha : PT X a (tT G E ma)) (hb : PW X (.BoolOp .Or (b :: rest) pos) (tT G E mb)) : PW X (.BoolOp .Or (a :: b :: rest) pos) (tT G E (mOrT ma mb)) := by
  refine PW.weak (pw_or ha hb) fun σ H Q ⟨B, W, env, e, R, S, o⟩ => ?_
  subst e
  refine tT_of R S o fun c W1 x1 R1 S1 o1 => ?_
  cases c with
  | false => exact ⟨B, W1, env, rfl, R1, S1, o1⟩
  | true => exact o1.ret R1
theorem jt_not (ha : PT X a (tT G E ma)) : PT X (.UnaryOp .Not a pos) (tT G E (mNotT ma)) := by
  refine PT.weak (pt_not ha) fun σ H Q ⟨B, W, env, e, R, S, o⟩ => ?_
  subst e
  exact tT_of R S o fun c W1 x1 R1 S1 o1 => o1.ret R1
/-- .. as values: bools -/
def mAnd (a b : M D) : M D := fun env st => (a env st).bind fun x s => match x with
  | .bl true => b env s
  | .bl false => .ok (.bl false) s
  | _ => .bad
def mOr (a b : M D) : M D := fun env st => (a env st).bind fun x s => match x with
  | .bl true => .ok (.bl true) s
  | .bl false => b env s
  | _ => .bad
def mNot (a : M D) : M D := fun env st => (a env st).bind fun x s => match tru s x with
  | some b => .ok (.bl (!b)) s
  | none => .bad
theorem je_one {op} (h : PE X a (tE G E va)) : PE X (.BoolOp op [a] pos) (tE G E va) := pe_one h
theorem je_and (ha : PE X a (tE G E va)) (hb : PE X (.BoolOp .And (b :: rest) pos) (tE G E vb)) : PE X (.BoolOp .And (a :: b :: rest) pos) (tE G E (mAnd va vb)) := by
  refine PE.weak (pe_and ha hb) fun σ H Q ⟨B, W, env, e, R, S, o⟩ => ?_
  subst e
  refine tE_of R S o fun d W1 v x1 R1 S1 r1 o1 => ?_
  cases d with
  | bl c =>
    cases r1
    refine ⟨c, rfl, ?_⟩
    cases c with
    | true => exact ⟨B, W1, env, rfl, R1, S1, o1⟩
    | false => exact o1.ret R1 _ (.bl _)
  | _ => exact o1.elim
theorem je_or (ha : PE X a (tE G E va)) (hb : PE X (.BoolOp .Or (b :: rest) pos) (tE G E vb)) : PE X (.BoolOp .Or (a :: b :: rest) pos) (tE G E (mOr va vb)) := by
  refine PE.weak (pe_or ha hb) fun σ H Q ⟨B, W, env, e, R, S, o⟩ => ?_
  subst e
  refine tE_of R S o fun d W1 v x1 R1 S1 r1 o1 => ?_
  cases d with
  | bl c =>
    cases r1
    refine ⟨c, rfl, ?_⟩
    cases c with
    | false => exact ⟨B, W1, env, rfl, R1, S1, o1⟩
    | true => exact o1.ret R1 _ (.bl _)
  | _ => exact o1.elim
theorem je_not (hK : G.K = X.K) (ha : PE X a (tE G E va)) : PE X (.UnaryOp .Not a pos) (tE G E (mNot va)) := by
  refine PE.weak (pe_notT ha) fun σ H Q ⟨B, W, env, e, R, S, o⟩ => ?_
  subst e
  refine tE_of R S o fun d W1 v x1 R1 S1 r1 o1 => ?_
  cases q : tru W1.st d with
  | none => simp only [q] at o1; exact o1.elim
  | some b =>
    simp only [q] at o1
    exact ⟨b, by rw [← hK]; exact r1.tru R1 q, o1.ret R1 _ (.bl _)⟩
/-- -e -/
def mNeg (a : M D) : M D := fun env st => (a env st).bind fun x s => match x with
  | .int i => .ok (.int (-i)) s
  | _ => .bad
theorem je_neg (ha : PE X a (tE G E va)) : PE X (.UnaryOp .USub a pos) (tE G E (mNeg va)) := by
  refine PE.weak (pe_un un_neg ha) fun σ H Q ⟨B, W, env, e, R, S, o⟩ => ?_
  subst e
  refine tE_of R S o fun d W1 v x1 R1 S1 r1 o1 => ?_
  cases d with
  | int i => cases r1; exact ⟨i, rfl, o1.ret R1 _ (.int _)⟩
  | _ => exact o1.elim
/-- a if c else b -/
def mIf (c : M Bool) (a b : M D) : M D := fun env st => (c env st).bind fun k s => if k then a env s else b env s
theorem je_if {c : Expr} {mc : M Bool} (hc : PT X c (tT G E mc)) (ha : PE X a (tE G E va)) (hb : PE X b (tE G E vb)) : PE X (.IfExp c a b pos) (tE G E (mIf mc va vb)) := by
  refine PE.weak (pe_ifExp hc ha hb) fun σ H Q ⟨B, W, env, e, R, S, o⟩ => ?_
  subst e
  refine tT_of R S o fun k W1 x1 R1 S1 o1 => ?_
  cases k with
  | true => exact ⟨B, W1, env, rfl, R1, S1, o1⟩
  | false => exact ⟨B, W1, env, rfl, R1, S1, o1⟩
/-- a op b op' c -/
def mChain (f f' : D → D → Store → R D) (a b c : M D) : M D := fun env st => (a env st).bind fun x s1 => (b env s1).bind fun y s2 => (f x y s2).bind fun z s3 => match z with
  | .bl true => (c env s3).bind fun w s4 => f' y w s4
  | .bl false => .ok (.bl false) s3
  | _ => .bad
theorem chain2 {r r' : R2} {f f' : D → D → Store → R D} {vc : M D} (hs : OpS G r f) (hs' : OpS G r' f') {σ : L2.St} {H : Hp} {Q : VK} (h : tE G E (mChain f f' va vb vc) σ H Q) : tChain r r' (tE G E va) (tE G E vb) (tE G E vc) σ H Q := by
  obtain ⟨B, W, env, rfl, R, S, o⟩ := h
  refine tE_of R S o fun x W1 v x1 R1 S1 r1 o1 => ?_
  refine tE_of R1 S1 o1 fun y W2 u x2 R2 S2 r2 o2 => ?_
  have r1' := Rep.ext R1 x2 _ _ r1
  refine hs R2 r1' r2 (o2.bind.imp fun z W3 x3 R3 o3 zv rz => ?_)
  have S3 := S2.ext R2 x3
  cases z with
  | bl k =>
    cases rz
    refine ⟨k, rfl, ?_⟩
    cases k with
    | true => exact tE_of (Q := fun zz H4 => r' u zz H4 Q) R3 S3 o3 fun t W4 tv x4 R4 S4 r4 o4 => hs' R4 (Rep.ext R2 (x3.trans x4) _ _ r2) r4 o4
    | false => exact o3.ret R3 _ (.bl _)
  | _ => exact o3.elim
theorem je_chain {c : Expr} {op op' : CmpOp} {r r' : R2} {f f' : D → D → Store → R D} {vc : M D} (ho : OpR X (compareOp op) r) (ho' : OpR X (compareOp op') r') (hs : OpS G r f) (hs' : OpS G r' f') (ha : PE X a (tE G E va)) (hb : PE X b (tE G E vb)) (hc : PE X c (tE G E vc))
    (hm : lastMarks [op, op'] [b, c] = false := by with_unfolding_all rfl) : PE X (.Compare a [op, op'] [b, c] pos) (tE G E (mChain f f' va vb vc)) :=
  PE.weak (pe_chain ho ho' ha hb hc hm) fun _ _ _ h => chain2 hs hs' h
theorem jt_chain {c : Expr} {op op' : CmpOp} {r r' : R2} {f f' : D → D → Store → R D} {vc : M D} (ho : OpR X (compareOp op) r) (ho' : OpR X (compareOp op') r') (hs : OpS G r f) (hs' : OpS G r' f') (ha : PE X a (tE G E va)) (hb : PE X b (tE G E vb)) (hc : PE X c (tE G E vc))
    (hm : lastMarks [op, op'] [b, c] = false := by with_unfolding_all rfl) : PT X (.Compare a [op, op'] [b, c] pos) (tT G E (mTest (mChain f f' va vb vc))) := by
  refine PT.weak (pt_chain ho ho' ha hb hc hm) fun σ H Q ⟨B, W, env, e, R, S, o⟩ => ?_
  subst e
  refine chain2 (f := f) (f' := f') hs hs' ?_
  refine tE_of R S o fun d W1 v x1 R1 S1 r1 o1 => ?_
  cases d with
  | bl b => cases r1; exact ⟨b, rfl, o1.ret R1⟩
  | _ => exact o1.elim
end
end
end DL

set_option maxHeartbeats 2000000
/-! DL5: a def's promise over trees; calls, methods, fields, properties, new objects. -/
namespace DL
open PySem PySem.Spec PyProof.Rows L2

/-! ### data without cells -/
mutual
def D.noLoc : D → Bool
  | .tup xs => D.noLocs xs
  | .lst xs => D.noLocs xs
  | .fro xs => D.noLocs xs
  | .dct _ vs => D.noLocs vs
  | .obj _ _ vs => D.noLocs vs
  | .loc _ => false
  | .exn _ _ _ => false
  | .non => true
  | .bl _ => true
  | .int _ => true
  | .str _ => true
def D.noLocs : List D → Bool
  | [] => true
  | d :: ds => d.noLoc && D.noLocs ds
end
section
variable {G : Cn} {B B' : Addr → Prop} {W W' : Wd}
/- to another world that has all objects -/
mutual
theorem Rep.conv (h1 : ∀ a o, W.H a = some o → W'.H a = some o) (h2 : ∀ a o, W.H a = some o → ¬ Mu B W a → ¬ Mu B' W' a) : ∀ (d : D) (v : V), d.noLoc = true → Rep G B W v d → Rep G B' W' v d
  | .non, _, _, h => by cases h; exact .non
  | .bl b, _, _, h => by cases h; exact .bl b
  | .int i, _, _, h => by cases h; exact .int i
  | .str i, _, _, h => by cases h; exact .str i
  | .tup ds, _, n, h => by
    cases h with
    | tup h t =>
      refine .tup ?_ (Reps.conv h1 h2 ds _ n t)
      rcases h with (h | ⟨o, h⟩) | h
      · exact .inl (.inl (h1 _ _ h))
      · exact .inl (.inr ⟨o, h1 _ _ h⟩)
      · exact .inr h
  | .lst ds, _, n, h => by
    cases h with
    | lst h m t => exact .lst (h1 _ _ h) (h2 _ _ h m) (Reps.conv h1 h2 ds _ n t)
  | .fro ds, _, n, h => by
    cases h with
    | fro h t =>
      refine .fro ?_ (Reps.conv h1 h2 ds _ n t)
      rcases h with ⟨o, h⟩ | h
      · exact .inl ⟨o, h1 _ _ h⟩
      · exact .inr h
  | .dct ks ds, _, n, h => by
    cases h with
    | dct h m e t => exact .dct (h1 _ _ h) (h2 _ _ h m) e (Reps.conv h1 h2 ds _ n t)
  | .obj c ns ds, _, n, h => by
    cases h with
    | obj h m e t => exact .obj (h1 _ _ h) (h2 _ _ h m) e (Reps.conv h1 h2 ds _ n t)
  | .loc _, _, n, _ => by cases n
  | .exn _ _ _, _, n, _ => by cases n
theorem Reps.conv (h1 : ∀ a o, W.H a = some o → W'.H a = some o) (h2 : ∀ a o, W.H a = some o → ¬ Mu B W a → ¬ Mu B' W' a) : ∀ (ds : List D) (vs : List V), D.noLocs ds = true → Reps G B W vs ds → Reps G B' W' vs ds
  | [], _, _, h => by cases h; exact .nil
  | d :: ds, _, n, h => by
    cases h with
    | cons h t =>
      obtain ⟨n1, n2⟩ := Bool.and_eq_true_iff.mp n
      exact .cons (Rep.conv h1 h2 d _ n1 h) (Reps.conv h1 h2 ds _ n2 t)
end
end
/-! ### the promise -/
abbrev Fn := List D → Store → R D
def spOf (G : Cn) (n : Nat) (fn : Fn) : Sp := fun vs H Q E => vs.length = n ∧ ∃ B W ds, W.H = H ∧ Rel G B W ∧ Reps G B W vs ds ∧ Out G B W E (fn ds W.st) fun d W' => ∀ v, Rep G B W' v d → Q v W'.H
/-- a call of its own world: no cell goes in or out -/
def pureF (fn : Fn) : Fn := fun ds st => if D.noLocs ds = true then (match fn ds [] with
  | .ok d _ => if d.noLoc = true then .ok d st else .bad
  | .exc e _ => if D.noLocs e.vs = true then .exc e st else .bad
  | .bad => .bad) else .bad
section
variable {G : Cn} {B : Addr → Prop} {W W2 : Wd} {E : XK}
/-- behind such a call: the same cells over the new heap -/
def Wd.over (W : Wd) (H : Hp) : Wd := ⟨W.r, W.st, H⟩
theorem Ext.over {H : Hp} (l : W.r.length = W.st.length) (k : ∀ a o, W.H a = some o → H a = some o) : Ext W (W.over H) := ⟨l, Nat.le_refl _, ⟨[], by simp [Wd.over], by simp⟩, fun _ q => q, fun a o e _ => k a o e, fun a o e => ⟨o, k a o e⟩⟩
theorem idH : ∀ a o, W2.H a = some o → (W.over W2.H).H a = some o := fun _ _ h => h
theorem Rel.over {H : Hp} (R : Rel G B W) (k : ∀ a o, W.H a = some o → H a = some o) : Rel G B (W.over H) := by
  refine ⟨R.len, R.nd, fun a ha => ?_, R.sep, fun n a c h1 h2 => ?_⟩
  · obtain ⟨o, e⟩ := R.ban a ha
    exact ⟨o, k a o e⟩
  · obtain ⟨o, e⟩ := R.there h1
    exact (R.cell n a c h1 h2).ext R (Ext.over R.len k) ((k a o e).trans e.symm)
theorem RepX.conv {B' : Addr → Prop} {W' : Wd} {cls : Value} {dd : Option Addr} {e : Ex} (h1 : ∀ a o, W.H a = some o → W'.H a = some o) (h2 : ∀ a o, W.H a = some o → ¬ Mu B W a → ¬ Mu B' W' a) (n : D.noLocs e.vs = true) (x : RepX G B W cls dd e) : RepX G B' W' cls dd e := by
  obtain ⟨e1, h⟩ := x
  refine ⟨e1, ?_⟩
  rcases h with h | ⟨a, fs, h3, h4, h5, h6⟩
  · exact .inl h
  · exact .inr ⟨a, fs, h3, h1 _ _ h4, h5, Reps.conv h1 h2 _ _ n h6⟩
theorem sp_pure {n : Nat} {fn : Fn} : ∀ vs H Q E, spOf G n (pureF fn) vs H Q E → spOf G n fn vs H Q E := by
  rintro vs H Q E ⟨hl, B, W, ds, rfl, R, rv, o⟩
  unfold pureF at o
  by_cases hn : D.noLocs ds = true
  · rw [if_pos hn] at o
    have k1 : ∀ a o, W.H a = some o → (⟨[], [], W.H⟩ : Wd).H a = some o := fun _ _ h => h
    have noAl : ∀ a, ¬ Al ⟨[], [], W.H⟩ a := fun a ⟨n, c, h, _⟩ => by simp at h
    refine ⟨hl, Mu B W, ⟨[], [], W.H⟩, ds, rfl, ⟨rfl, List.nodup_nil, fun a ha => ?_, fun n a c h => by simp at h, fun n a c h => by simp at h⟩, Reps.conv k1 (fun a o _ hm z => ?_) ds vs hn rv, ?_⟩
    · rcases ha with ha | ha
      · exact R.ban a ha
      · obtain ⟨o, e, _⟩ := R.al ha
        exact ⟨o, e⟩
    · rcases z with z | z
      · exact hm z
      · exact noAl a z
    · have keep : ∀ {W2 : Wd}, Ext ⟨[], [], W.H⟩ W2 → ∀ a o, W.H a = some o → W2.H a = some o := fun x a o e => x.keep a o e (noAl a)
      have back : ∀ {W2 : Wd} (a : Addr) (o : HO), W2.H a = some o → ¬ Mu (Mu B W) W2 a → ¬ Mu B (W.over W2.H) a := fun a o _ hm z => hm (.inl z)
      show Out G (Mu B W) ⟨[], [], W.H⟩ E (fn ds []) _
      cases q : fn ds [] with
      | ok d s =>
        simp only [q] at o
        by_cases hd : d.noLoc = true
        · rw [if_pos hd] at o
          exact fun W2 x R2 _ v rv2 => o (W.over W2.H) (Ext.over R.len (keep x)) (R.over (keep x)) rfl v (Rep.conv idH back d v hd rv2)
        · rw [if_neg hd] at o
          exact o.elim
      | exc e s =>
        simp only [q] at o
        by_cases hd : D.noLocs e.vs = true
        · rw [if_pos hd] at o
          exact fun cls dd W2 x R2 _ rx => o cls dd (W.over W2.H) (Ext.over R.len (keep x)) (R.over (keep x)) rfl (rx.conv idH back hd)
        · rw [if_neg hd] at o
          exact o.elim
      | bad =>
        simp only [q] at o
        exact o.elim
  · rw [if_neg hn] at o
    exact o.elim
end
/-! ### calls -/
def mCall (f : Fn) (ms : M (List D)) : M D := fun env st => (ms env st).bind f
def CallS (G : Cn) (r : List V → Hp → VK → Prop) (f : Fn) : Prop := ∀ ⦃B : Addr → Prop⦄ ⦃W : Wd⦄ ⦃E : XK⦄ ⦃ds : List D⦄ ⦃vs : List V⦄ ⦃Q : VK⦄, Rel G B W → Reps G B W vs ds → Out G B W E (f ds W.st) (fun d W' => ∀ z, Rep G B W' z d → Q z W'.H) → r vs W.H Q
section
variable {X : Cx} {G : Cn} {E : ES} {x : Str} {p pos apos : Pos} {e o : Expr} {es : List Expr} {ms : M (List D)} {fn : Fn} {mo : M D}
theorem je_callB {id : String} {r : List V → Hp → VK → Prop} (hc : CallR X (.builtin id) r) (hs : CallS G r fn) (hg : Gl X x) (hm : X.mg x = none) (hv : bootBuiltins x = some (.builtin id)) (ha : PA X (e :: es) (tA G E ms)) (hn : x ≠ "__name__" := by decide) (hdb : (x == ("__debug__" : Str)) = false := by decide)
    (he : starEach (e :: es) X.env = (false, eval e X.env) :: starEach es X.env := by rfl) (hpl : (backTo pos (starEach es X.env)).any (·.1) = false := by rfl) : PE X (.Call (.Name x p) (e :: es) [] pos) (tE G E (mCall fn ms)) := by
  refine PE.weak (pe_callB hc hg hm hv ha hn hdb he hpl) fun σ H Q ⟨B, W, env, e, R, S, o⟩ => ?_
  subst e
  exact tA_of R S o fun ds W1 vs x1 R1 S1 r1 o1 => hs R1 r1 o1
theorem je_callT {T : String} {r : List V → Hp → VK → Prop} (hc : CallR X (.type T) r) (hs : CallS G r fn) (hg : Gl X x) (hm : X.mg x = none) (hv : bootBuiltins x = some (.type T)) (ha : PA X (e :: es) (tA G E ms)) (hn : x ≠ "__name__" := by decide) (hdb : (x == ("__debug__" : Str)) = false := by decide)
    (he : starEach (e :: es) X.env = (false, eval e X.env) :: starEach es X.env := by rfl) (hpl : (backTo pos (starEach es X.env)).any (·.1) = false := by rfl) : PE X (.Call (.Name x p) (e :: es) [] pos) (tE G E (mCall fn ms)) := by
  refine PE.weak (pe_callTy hc hg hm hv ha hn hdb he hpl) fun σ H Q ⟨B, W, env, e, R, S, o⟩ => ?_
  subst e
  exact tA_of R S o fun ds W1 vs x1 R1 S1 r1 o1 => hs R1 r1 o1
theorem sp_go {n : Nat} {E : XK} {B : Addr → Prop} {W : Wd} {vs : List V} {ds : List D} {Q : VK} (hn : ds.length = n) (R : Rel G B W) (r : Reps G B W vs ds) (o : Out G B W E (fn ds W.st) fun d W' => ∀ v, Rep G B W' v d → Q v W'.H) : spOf G n fn vs W.H Q E :=
  ⟨r.length.trans hn, B, W, ds, rfl, R, r, o⟩
/-- so many arguments -/
def ar (n : Nat) (fn : Fn) : Fn := fun ds st => if ds.length = n then fn ds st else .bad
theorem sp_ar {n : Nat} {E : XK} {B : Addr → Prop} {W : Wd} {vs : List V} {ds : List D} {Q : VK} (R : Rel G B W) (r : Reps G B W vs ds) (o : Out G B W E (ar n fn ds W.st) fun d W' => ∀ v, Rep G B W' v d → Q v W'.H) : spOf G n fn vs W.H Q E := by
  unfold ar at o
  by_cases c : ds.length = n
  · rw [if_pos c] at o
    exact sp_go c R r o
  · rw [if_neg c] at o
    exact o.elim
variable {k n : Nat} {f C : Addr} {fd : FuncData} {ps : List Str} {m : Str}
/-- f(e, ..) -/
theorem je_call (F : FnG X.prog X.w X.K X.mg X.base k f fd ps (spOf G n fn)) (rm : Rm k X.A) (hg : Gl X x) (hm : X.mg x = some (.ref f)) (hk : PySem.W.keepIn X.K (.ref f) = true) (hb : Binds X.K fd ps []) (hx : Pss X E) (ha : PA X (e :: es) (tA G E ms))
    (hdb : (x == ("__debug__" : Str)) = false := by decide) (he : starEach (e :: es) X.env = (false, eval e X.env) :: starEach es X.env := by rfl) (hpl : (backTo pos (starEach es X.env)).any (·.1) = false := by rfl) : PE X (.Call (.Name x p) (e :: es) [] pos) (tE G E (mCall (ar n fn) ms)) := by
  refine PE.weak (gCall F rm hg hm hk hb .nil hx ha hdb he hpl) fun σ H Q ⟨B, W, env, e, R, S, o⟩ => ?_
  subst e
  exact tA_of R S o fun ds W1 vs x1 R1 S1 r1 o1 => by rw [List.append_nil]; exact sp_ar R1 r1 o1
theorem je_call0 (F : FnG X.prog X.w X.K X.mg X.base k f fd ps (spOf G n fn)) (rm : Rm k X.A) (hg : Gl X x) (hm : X.mg x = some (.ref f)) (hk : PySem.W.keepIn X.K (.ref f) = true) (hb : Binds X.K fd ps []) (hx : Pss X E)
    (hdb : (x == ("__debug__" : Str)) = false := by decide) : PE X (.Call (.Name x p) [] [] pos) (tE G E (mCall (ar n fn) mNil)) := by
  refine PE.weak (gCall0 F rm hg hm hk hb .nil hx hdb) fun σ H Q ⟨B, W, env, e, R, S, o⟩ => ?_
  subst e
  exact sp_ar R .nil o
theorem je_stat0 {pp : Addr} {p2 : Pos} {pl : Sem Bool} (hg : Gl X x) (hm : X.mg x = some (.ref C)) (T : Stat X.K C m pp f) (F : FnG X.prog X.w X.K X.mg X.base k f fd ps (spOf G n fn)) (rm : Rm k X.A) (hb : Binds X.K fd ps []) (hx : Pss X E)
    (ht : eval (.Call (.Attribute (.Name x p2) m apos) [] [] pos) X.env = (do
      let ov ← eval (.Name x p2) X.env
      standAt apos.atName
      let (g, first) ← holding [ov] (getMethod ov m pl)
      callWith pos g first (backTo pos (starEach [] X.env)) (backToKw pos (keywordEach [] X.env))) := by rfl) (hdb : (x == ("__debug__" : Str)) = false := by decide) : PE X (.Call (.Attribute (.Name x p2) m apos) [] [] pos) (tE G E (mCall (ar n fn) mNil)) := by
  refine PE.weak (gStat0 (pl := pl) hg hm T F rm hb .nil hx ht hdb) fun σ H Q ⟨B, W, env, e, R, S, o⟩ => ?_
  subst e
  exact sp_ar R .nil o
/-! ### instances -/
def insOf (st : Store) : D → Option (Str × List Str × List D)
  | .obj c ns vs => some (c, ns, vs)
  | .loc n => match st[n]? with
    | some (.ins c ns vs) => some (c, ns, vs)
    | _ => none
  | _ => none
theorem Rep.ins {B : Addr → Prop} {W : Wd} {v : V} {d : D} {c : Str} {ns : List Str} {vs : List D} (R : Rel G B W) (r : Rep G B W v d) (e : insOf W.st d = some (c, ns, vs)) :
    ∃ a dx fs, v = .ref a ∧ W.H a = some (.ins (G.cl c) dx fs) ∧ fs.map (·.1) = ns ∧ Reps G B W (fs.map (·.2)) vs := by
  cases r with
  | obj h n e1 t => cases e; exact ⟨_, _, _, rfl, h, e1, t⟩
  | @loc a n h =>
    cases q : W.st[n]? with
    | none => simp only [insOf, q] at e; cases e
    | some cc =>
      cases cc with
      | ins c2 ns2 vs2 =>
        simp only [insOf, q] at e
        cases e
        obtain ⟨dx, fs, h1, h2, h3⟩ := R.cell n a _ h q
        exact ⟨a, dx, fs, rfl, h1, h2, h3⟩
      | _ => simp only [insOf, q] at e; cases e
  | _ => cases e
/-- o.f, o of the class c -/
def mFld (c f : Str) (mo : M D) : M D := fun env st => (mo env st).bind fun d s => match insOf s d with
  | some (c', ns, vs) => if c' = c then (match (ns.zip vs).lookup f with
    | some z => .ok z s
    | none => .bad) else .bad
  | none => .bad
theorem je_fld {c fl : Str} (hK : G.K = X.K) (ho : PE X o (tE G E mo)) (hc : Cls G.K (G.cl c)) (hn : NoAttr G.K (G.cl c) fl) (hb : attributeBase o fl X.env (eval o X.env) = eval o X.env := by rfl) : PE X (.Attribute o fl pos) (tE G E (mFld c fl mo)) := by
  refine PE.weak (pe_fld ho hb) fun σ H Q ⟨B, W, env, e, R, S, o⟩ => ?_
  subst e
  refine tE_of R S o fun d W1 v x1 R1 S1 r1 o1 => ?_
  cases q : insOf W1.st d with
  | none => simp only [q] at o1; exact o1.elim
  | some t =>
    obtain ⟨c', ns, vs⟩ := t
    simp only [q] at o1
    by_cases hcc : c' = c
    · subst hcc
      rw [if_pos rfl] at o1
      obtain ⟨a, dx, fs, rfl, h1, h2, h3⟩ := r1.ins R1 q
      cases z : (ns.zip vs).lookup fl with
      | none => simp only [z] at o1; exact o1.elim
      | some w =>
        simp only [z] at o1
        subst h2
        obtain ⟨u, h4, h5⟩ := Reps.lookup h3 z
        exact ⟨a, _, dx, fs, u, rfl, h1, by rw [← hK]; exact hc, by rw [← hK]; exact hn, h4, o1.ret R1 u h5⟩
    · rw [if_neg hcc] at o1
      exact o1.elim
/-- o.m(..), o of the class c -/
def mMeth (c m : Str) (fn : Fn) (mo : M D) (ms : M (List D)) : M D := fun env st => (mo env st).bind fun d s => match insOf s d with
  | some (c', ns, _) => if c' = c ∧ m ∉ ns then (ms env s).bind fun ds s2 => fn (d :: ds) s2 else .bad
  | none => .bad
theorem meth_ok {c : Str} {σ : L2.St} {H : Hp} {Q : VK} (h : tE G E (mMeth c m (ar n fn) mo ms) σ H Q) : tMethG (G.cl c) m (spOf G n fn) [] E (tE G E mo) (tA G E ms) σ H Q := by
  obtain ⟨B, W, env, rfl, R, S, o⟩ := h
  refine tE_of R S o fun d W1 v x1 R1 S1 r1 o1 => ?_
  cases q : insOf W1.st d with
  | none => simp only [q] at o1; exact o1.elim
  | some t =>
    obtain ⟨c', ns, vs⟩ := t
    simp only [q] at o1
    by_cases hcc : c' = c ∧ m ∉ ns
    · rw [if_pos hcc] at o1
      obtain ⟨a, dx, fs, rfl, h1, h2, h3⟩ := r1.ins R1 q
      obtain ⟨e1, e2⟩ := hcc
      subst e1 h2
      exact ⟨a, dx, fs, rfl, h1, lookup_none e2, tA_of R1 S1 o1 fun ds W2 us x2 R2 S2 r2 o2 => by rw [List.append_nil]; exact sp_ar R2 (.cons (Rep.ext R1 x2 _ _ r1) r2) o2⟩
    · rw [if_neg hcc] at o1
      exact o1.elim
theorem je_meth {c : Str} {pl : Sem Bool} (he : PE X o (tE G E mo)) (hc : Cls X.K (G.cl c)) (hm : Meth X.K (G.cl c) m f) (F : FnG X.prog X.w X.K X.mg X.base k f fd ps (spOf G n fn)) (rm : Rm k X.A) (hb : Binds X.K fd ps []) (hx : Pss X E) (ha : PA X (e :: es) (tA G E ms))
    (hst : starEach (e :: es) X.env = (false, eval e X.env) :: starEach es X.env := by rfl) (hpl : (backTo pos (starEach es X.env)).any (·.1) = false := by rfl)
    (ht : eval (.Call (.Attribute o m apos) (e :: es) [] pos) X.env = (do
      let ov ← eval o X.env
      standAt apos.atName
      let (g, first) ← holding [ov] (getMethod ov m pl)
      callWith pos g first (backTo pos (starEach (e :: es) X.env)) (backToKw pos (keywordEach [] X.env))) := by rfl) : PE X (.Call (.Attribute o m apos) (e :: es) [] pos) (tE G E (mMeth c m (ar n fn) mo ms)) :=
  PE.weak (gMeth (pl := pl) he hc hm F rm hb .nil hx ha hst hpl ht) fun _ _ _ h => meth_ok h
theorem je_meth0 {c : Str} {pl : Sem Bool} (he : PE X o (tE G E mo)) (hc : Cls X.K (G.cl c)) (hm : Meth X.K (G.cl c) m f) (F : FnG X.prog X.w X.K X.mg X.base k f fd ps (spOf G n fn)) (rm : Rm k X.A) (hb : Binds X.K fd ps []) (hx : Pss X E)
    (ht : eval (.Call (.Attribute o m apos) [] [] pos) X.env = (do
      let ov ← eval o X.env
      standAt apos.atName
      let (g, first) ← holding [ov] (getMethod ov m pl)
      callWith pos g first (backTo pos (starEach [] X.env)) (backToKw pos (keywordEach [] X.env))) := by rfl) : PE X (.Call (.Attribute o m apos) [] [] pos) (tE G E (mMeth c m (ar n fn) mo mNil)) := by
  refine PE.weak (gMeth0 (pl := pl) he hc hm F rm hb .nil hx ht) fun σ H Q h => ?_
  obtain ⟨B, W, env, rfl, R, S, o⟩ := h
  refine tE_of R S o fun d W1 v x1 R1 S1 r1 o1 => ?_
  cases q : insOf W1.st d with
  | none => simp only [q] at o1; exact o1.elim
  | some t =>
    obtain ⟨c', ns, vs⟩ := t
    simp only [q] at o1
    by_cases hcc : c' = c ∧ m ∉ ns
    · rw [if_pos hcc] at o1
      obtain ⟨a, dx, fs, rfl, h1, h2, h3⟩ := r1.ins R1 q
      obtain ⟨e1, e2⟩ := hcc
      subst e1 h2
      exact ⟨a, dx, fs, rfl, h1, lookup_none e2, sp_ar R1 (.cons r1 .nil) o1⟩
    · rw [if_neg hcc] at o1
      exact o1.elim
/-- a property -/
def mProp (c : Str) (fn : Fn) (mo : M D) : M D := fun env st => (mo env st).bind fun d s => match insOf s d with
  | some (c', _, _) => if c' = c then (match fn [d] s with
    | .ok z s2 => .ok z s2
    | _ => .bad) else .bad
  | none => .bad
theorem je_prop {c fl : Str} {pp : Addr} (he : PE X o (tE G E mo)) (hc : Cls X.K (G.cl c)) (hp : PropOf X.K (G.cl c) fl pp f) (F : FnG X.prog X.w X.K X.mg X.base k f fd ps (spOf G 1 fn)) (rm : Rm (k + 1) X.A) (hb : Binds X.K fd ps [])
    (hab : attributeBase o fl X.env (eval o X.env) = eval o X.env := by rfl) : PE X (.Attribute o fl pos) (tE G E (mProp c fn mo)) := by
  refine PE.weak (gProp he hc hp F rm hb .nil hab) fun σ H Q ⟨B, W, env, e, R, S, o⟩ => ?_
  subst e
  refine tE_of R S o fun d W1 v x1 R1 S1 r1 o1 => ?_
  cases q : insOf W1.st d with
  | none => simp only [q] at o1; exact o1.elim
  | some t =>
    obtain ⟨c', ns, vs⟩ := t
    simp only [q] at o1
    by_cases hcc : c' = c
    · subst hcc
      rw [if_pos rfl] at o1
      obtain ⟨a, dx, fs, rfl, h1, h2, h3⟩ := r1.ins R1 q
      refine ⟨a, dx, fs, rfl, h1, sp_go rfl R1 (.cons r1 .nil) ?_⟩
      cases z : fn [d] W1.st with
      | ok w s2 => simp only [z] at o1; exact o1
      | exc ee s2 => simp only [z] at o1; exact o1.elim
      | bad => simp only [z] at o1; exact o1.elim
    · rw [if_neg hcc] at o1
      exact o1.elim
/-- C(..): a new object, by value: its __init__ in a world of its own -/
def mkF (c : Str) (fn : Fn) : Fn := fun ds st => if D.noLocs ds = true then (match fn (.loc 0 :: ds) [Cell.ins c [] []] with
  | .ok .non s => (match (s : Store)[0]? with
    | some (Cell.ins c' ns vs) => if c' = c ∧ D.noLocs vs = true then .ok (.obj c ns vs) st else .bad
    | _ => .bad)
  | .exc e _ => if D.noLocs e.vs = true then .exc e st else .bad
  | _ => .bad) else .bad
theorem make_ok {c : Str} {σ : L2.St} {H : Hp} {Q : VK} (h : tE G E (mCall (mkF c (ar n fn)) ms) σ H Q) : tMakeG (G.cl c) (spOf G n fn) [] E (tA G E ms) σ H Q := by
  obtain ⟨B, W0, env, rfl, R0, S0, o0⟩ := h
  refine tA_of R0 S0 o0 fun ds W vs x1 R S r o => ?_
  intro y dx hy hdx hne
  rw [List.append_nil]
  unfold mkF at o
  by_cases hn : D.noLocs ds = true
  · rw [if_pos hn] at o
    let W1 : Wd := ⟨[y], [Cell.ins c [] []], upd (upd W.H dx (.own y)) y (.ins (G.cl c) dx [])⟩
    have k1 : ∀ a o, W.H a = some o → W1.H a = some o := fun a o e => by
      show upd (upd W.H dx (.own y)) y (.ins (G.cl c) dx []) a = some o
      rw [upd_ne (ne_of_none e hy), upd_ne (ne_of_none e hdx)]
      exact e
    have al1 : ∀ a, Al W1 a → a = y := fun a ⟨n, c, h, _⟩ => by
      have h' : [y][n]? = some a := h
      cases n with
      | zero => exact (Option.some.inj h').symm
      | succ n => simp at h'
    have R1 : Rel G (Mu B W) W1 := by
      refine ⟨rfl, by simp [W1], fun a ha => ?_, fun n a c2 h1 h2 h3 => ?_, fun n a c2 h1 h2 => ?_⟩
      · rcases ha with ha | ha
        · obtain ⟨o, e⟩ := R.ban a ha
          exact ⟨o, k1 a o e⟩
        · obtain ⟨o, e, _⟩ := R.al ha
          exact ⟨o, k1 a o e⟩
      · rw [al1 a ⟨n, c2, h1, h2, h3⟩]
        exact R.free hy
      · have h1' : [y][n]? = some a := h1
        have h2' : [Cell.ins c [] []][n]? = some c2 := h2
        cases n with
        | zero =>
          cases h1'
          cases h2'
          exact ⟨dx, [], upd_same, rfl, .nil⟩
        | succ n => simp at h1'
    have rs : Reps G (Mu B W) W1 (.ref y :: vs) (.loc 0 :: ds) := .cons (.loc rfl) (Reps.conv k1 (fun a o e hm z => by
      rcases z with z | z
      · exact hm z
      · rw [al1 a z] at e
        rw [hy] at e; cases e) ds vs hn r)
    refine sp_ar R1 rs ?_
    have keep : ∀ {W2 : Wd}, Ext W1 W2 → ∀ a o, W.H a = some o → W2.H a = some o := fun x a o e => x.keep a o (k1 a o e) fun z => by
      rw [al1 a z] at e
      rw [hy] at e; cases e
    have back : ∀ {W2 : Wd} (a : Addr) (o : HO), W2.H a = some o → ¬ Mu (Mu B W) W2 a → ¬ Mu B (W.over W2.H) a := fun a o _ hm z => hm (.inl z)
    show Out G (Mu B W) W1 (E σ) (ar n fn (.loc 0 :: ds) [Cell.ins c [] []]) _
    cases q : ar n fn (.loc 0 :: ds) [Cell.ins c [] []] with
    | ok d s =>
      rw [q] at o
      cases d with
      | non =>
        intro W2 x R2 es v rv
        cases rv
        refine ⟨rfl, ?_⟩
        obtain ⟨m, em, _⟩ := x.more
        have hr0 : W2.r[0]? = some y := by rw [em]; rfl
        cases z : s[0]? with
        | none => simp only [z] at o; exact o.elim
        | some c0 =>
          cases c0 with
          | ins c' ns vs' =>
            simp only [z] at o
            by_cases hcc : c' = c ∧ D.noLocs vs' = true
            · rw [if_pos hcc] at o
              obtain ⟨e1, hv⟩ := hcc
              subst e1
              obtain ⟨dx', fs, h1, h2, h3⟩ := R2.cell 0 y _ hr0 (by rw [es]; exact z)
              refine o (W.over W2.H) (Ext.over R.len (keep x)) (R.over (keep x)) rfl _ (.obj h1 (fun zz => ?_) h2 (Reps.conv idH back _ _ hv h3))
              exact R.free hy zz
            · rw [if_neg hcc] at o
              exact o.elim
          | _ => simp only [z] at o; exact o.elim
      | _ => exact o.elim
    | exc e s =>
      rw [q] at o
      simp only at o
      by_cases hd : D.noLocs e.vs = true
      · rw [if_pos hd] at o
        exact fun cls dd W2 x R2 _ rx => o cls dd (W.over W2.H) (Ext.over R.len (keep x)) (R.over (keep x)) rfl (rx.conv idH back hd)
      · rw [if_neg hd] at o
        exact o.elim
    | bad =>
      rw [q] at o
      exact o.elim
  · rw [if_neg hn] at o
    exact o.elim
theorem je_make {c : Str} (Mk0 : Mk X.K (G.cl c) f) (F : FnG X.prog X.w X.K X.mg X.base k f fd ps (spOf G n fn)) (rm : Rm (k + 1) X.A) (hg : Gl X x) (hm : X.mg x = some (.ref (G.cl c))) (hb : Binds X.K fd ps []) (hx : Pss X E) (ha : PA X (e :: es) (tA G E ms))
    (hdb : (x == ("__debug__" : Str)) = false := by decide) (he : starEach (e :: es) X.env = (false, eval e X.env) :: starEach es X.env := by rfl) (hpl : (backTo pos (starEach es X.env)).any (·.1) = false := by rfl) : PE X (.Call (.Name x p) (e :: es) [] pos) (tE G E (mCall (mkF c (ar n fn)) ms)) :=
  PE.weak (gMake Mk0 F rm hg hm hb .nil hx ha hdb he hpl) fun _ _ _ h => make_ok h
end
end DL

set_option maxHeartbeats 2000000
/-! DL6: statements. -/
namespace DL
open PySem PySem.Spec PyProof.Rows L2

/-- how a statement ends: next, return, break, continue, raised -/
inductive Fl where
  | nx (env : Sl) | rt (d : D) | bk (env : Sl) | ct (env : Sl) | xc (e : Ex) (env : Sl)
abbrev SM := Sl → Store → R Fl
def lift {α : Type} (r : R α) (env : Sl) (k : α → Store → R Fl) : R Fl := match r with
  | .ok a s => k a s
  | .exc e s => .ok (.xc e env) s
  | .bad => .bad
@[simp] theorem lift_ok {α : Type} (a : α) (s : Store) (env : Sl) (k : α → Store → R Fl) : lift (.ok a s) env k = k a s := rfl
@[simp] theorem lift_exc {α : Type} (e : Ex) (s : Store) (env : Sl) (k : α → Store → R Fl) : lift (.exc e s) env k = .ok (.xc e env) s := rfl
@[simp] theorem lift_bad {α : Type} (env : Sl) (k : α → Store → R Fl) : lift .bad env k = .bad := rfl
/-- behind a statement -/
def thenS (r : R Fl) (k : Sl → Store → R Fl) : R Fl := match r with
  | .ok (.nx env) s => k env s
  | r => r
def FlQ (G : Cn) (B : Addr → Prop) (XW : WX) (Dn : Ends) (fl : Fl) (W : Wd) : Prop := match fl with
  | .nx env => ∀ σ, Slots G B W σ env → Dn.nx σ W.H
  | .rt d => ∀ v, Rep G B W v d → Dn.rt v W.H
  | .bk env => ∀ σ, Slots G B W σ env → Dn.bk σ W.H
  | .ct env => ∀ σ, Slots G B W σ env → Dn.ct σ W.H
  | .xc e env => ∀ σ cls dd, Slots G B W σ env → RepX G B W cls dd e → XW cls dd σ W.H
def tS (G : Cn) (XW : WX) (m : SM) : TS := fun Dn σ H => ∃ B W env, W.H = H ∧ Rel G B W ∧ Slots G B W σ env ∧ Out G B W E0 (m env W.st) (FlQ G B XW Dn)
abbrev eX (XW : WX) : ES := fun σ cls d H => XW cls d σ H
section
variable {G : Cn} {B : Addr → Prop} {W : Wd} {XW : WX} {Dn : Ends} {σ : L2.St} {env : Sl}
theorem lift_of {α : Type} {r : R α} {k : α → Store → R Fl} (S : Slots G B W σ env) (R : Rel G B W) (h : Out G B W E0 (lift r env k) (FlQ G B XW Dn)) : Out G B W (eX XW σ) r fun a W1 => Out G B W1 E0 (k a W1.st) (FlQ G B XW Dn) := by
  cases r with
  | ok a s => exact (Out.bind (r := .ok a s) (k := k) h).imp fun _ _ _ _ q => q
  | exc e s => exact fun cls dd W' x R' e' rx => h W' x R' e' σ cls dd (S.ext R x) rx
  | bad => exact h
theorem sE {m : M D} {Q : VK} {k : D → Store → DL.R Fl} (R : Rel G B W) (S : Slots G B W σ env) (h : Out G B W E0 (lift (m env W.st) env k) (FlQ G B XW Dn))
    (q : ∀ d W' v, Ext W W' → Rel G B W' → Slots G B W' σ env → Rep G B W' v d → Out G B W' E0 (k d W'.st) (FlQ G B XW Dn) → Q v W'.H) : tE G (eX XW) m σ W.H Q :=
  ⟨B, W, env, rfl, R, S, (lift_of S R h).imp fun d W' x R' o v rv => q d W' v x R' (S.ext R x) rv o⟩
theorem sT {m : M Bool} {Q : Bool → Hp → Prop} {k : Bool → Store → DL.R Fl} (R : Rel G B W) (S : Slots G B W σ env) (h : Out G B W E0 (lift (m env W.st) env k) (FlQ G B XW Dn))
    (q : ∀ b W', Ext W W' → Rel G B W' → Slots G B W' σ env → Out G B W' E0 (k b W'.st) (FlQ G B XW Dn) → Q b W'.H) : tT G (eX XW) m σ W.H Q :=
  ⟨B, W, env, rfl, R, S, (lift_of S R h).imp fun b W' x R' o => q b W' x R' (S.ext R x) o⟩
theorem sA {m : M (List D)} {Q : List V → Hp → Prop} {k : List D → Store → DL.R Fl} (R : Rel G B W) (S : Slots G B W σ env) (h : Out G B W E0 (lift (m env W.st) env k) (FlQ G B XW Dn))
    (q : ∀ ds W' vs, Ext W W' → Rel G B W' → Slots G B W' σ env → Reps G B W' vs ds → Out G B W' E0 (k ds W'.st) (FlQ G B XW Dn) → Q vs W'.H) : tA G (eX XW) m σ W.H Q :=
  ⟨B, W, env, rfl, R, S, (lift_of S R h).imp fun d W' x R' o v rv => q d W' v x R' (S.ext R x) rv o⟩
end
/-! ### blocks -/
def sNil : SM := fun env st => .ok (.nx env) st
def sSeq (a b : SM) : SM := fun env st => thenS (a env st) b
section
variable {X : Cx} {G : Cn} {XW : WX} {st : Stmt} {rest : List Stmt} {a b : SM} {e : Expr} {m : M D} {pos : Pos}
theorem out_then {B : Addr → Prop} {W : Wd} {Dn : Ends} {r : R Fl} {k : SM} (h : Out G B W E0 (thenS r k) (FlQ G B XW Dn)) : Out G B W E0 r (FlQ G B XW { Dn with nx := tS G XW k Dn }) := by
  cases r with
  | ok fl s =>
    cases fl with
    | nx env => exact fun W' x R e σ S => ⟨B, W', env, rfl, R, S, by subst e; exact Out.ext h x⟩
    | rt d => exact h
    | bk env => exact h
    | ct env => exact h
    | xc e env => exact h
  | exc e s => exact h
  | bad => exact h
theorem js_nil : PSs X [] (tS G XW sNil) := PSs.weak pss_nil fun D σ H ⟨B, W, env, e, R, S, o⟩ => by subst e; exact o.ret R σ S
theorem js_cons (h1 : PS X st (tS G XW a)) (h2 : PSs X rest (tS G XW b)) : PSs X (st :: rest) (tS G XW (sSeq a b)) := PSs.weak (pss_cons h1 h2) fun D σ H ⟨B, W, env, e, R, S, o⟩ => by
  subst e
  exact ⟨B, W, env, rfl, R, S, out_then o⟩
theorem js_one (h1 : PS X st (tS G XW a)) : PSs X [st] (tS G XW a) := pss_one h1
theorem js_pass : PS X (.Pass pos) (tS G XW sNil) := PS.weak ps_pass fun D σ H ⟨B, W, env, e, R, S, o⟩ => by subst e; exact o.ret R σ S
theorem js_doc {x j pos'} : PS X (.Expr (.Constant (.str x) j pos) pos') (tS G XW sNil) := PS.weak ps_doc fun D σ H ⟨B, W, env, e, R, S, o⟩ => by subst e; exact o.ret R σ S
def sBrk : SM := fun env st => .ok (.bk env) st
def sCont : SM := fun env st => .ok (.ct env) st
theorem js_break : PS X (.Break pos) (tS G XW sBrk) := PS.weak ps_break fun D σ H ⟨B, W, env, e, R, S, o⟩ => by subst e; exact o.ret R σ S
theorem js_continue : PS X (.Continue pos) (tS G XW sCont) := PS.weak ps_continue fun D σ H ⟨B, W, env, e, R, S, o⟩ => by subst e; exact o.ret R σ S
def sDrop (m : M D) : SM := fun env st => lift (m env st) env fun _ s => .ok (.nx env) s
theorem js_expr (he : PE X e (tE G (eX XW) m)) (hs : swapsWith e none pos.line X.env = pure false := by rfl) : PS X (.Expr e pos) (tS G XW (sDrop m)) := PS.weak (ps_expr he hs) fun D σ H ⟨B, W, env, e, R, S, o⟩ => by
  subst e
  exact sE R S o fun d W1 v x1 R1 S1 r1 o1 => o1.ret R1 σ S1
def sRet (m : M D) : SM := fun env st => lift (m env st) env fun d s => .ok (.rt d) s
theorem js_ret (he : PE X e (tE G (eX XW) m)) : PS X (.Return (some e) pos) (tS G XW (sRet m)) := PS.weak (ps_ret he) fun D σ H ⟨B, W, env, e, R, S, o⟩ => by
  subst e
  exact sE R S o fun d W1 v x1 R1 S1 r1 o1 => o1.ret R1 v r1
def sRetN : SM := fun _ st => .ok (.rt .non) st
theorem js_retN : PS X (.Return none pos) (tS G XW sRetN) := PS.weak ps_retN fun D σ H ⟨B, W, env, e, R, S, o⟩ => by subst e; exact o.ret R _ .non
def sIf (c : M Bool) (a b : SM) : SM := fun env st => lift (c env st) env fun k s => if k then a env s else b env s
theorem js_if {c : Expr} {p q : List Stmt} {mc : M Bool} (hc : PT X c (tT G (eX XW) mc)) (ha : PSs X p (tS G XW a)) (hb : PSs X q (tS G XW b)) : PS X (.If c p q pos) (tS G XW (sIf mc a b)) := PS.weak (ps_if hc ha hb) fun D σ H ⟨B, W, env, e, R, S, o⟩ => by
  subst e
  refine sT R S o fun k W1 x1 R1 S1 o1 => ?_
  cases k with
  | true => exact ⟨B, W1, env, rfl, R1, S1, o1⟩
  | false => exact ⟨B, W1, env, rfl, R1, S1, o1⟩
def sBad : SM := fun _ _ => .bad
theorem js_bad : PS X st (tS G XW sBad) := ⟨fun _ _ _ _ _ _ ⟨_, _, _, _, _, _, o⟩ => o.elim⟩
theorem jss_bad {sts : List Stmt} : PSs X sts (tS G XW sBad) := ⟨fun _ _ _ _ _ _ ⟨_, _, _, _, _, _, o⟩ => o.elim⟩
/-! ### stores -/
def sSet (i : Nat) (m : M D) : SM := fun env st => lift (m env st) env fun d s => .ok (.nx (env.set i (some d))) s
theorem js_set {i : Nat} {x : Str} {pos' : Pos} (h : PS X (.Assign [.Name x pos'] e pos) (tAsg (tE G (eX XW) m) (gName i))) : PS X (.Assign [.Name x pos'] e pos) (tS G XW (sSet i m)) := PS.weak h fun D σ H ⟨B, W, env, e, R, S, o⟩ => by
  subst e
  exact sE R S o fun d W1 v x1 R1 S1 r1 o1 => o1.ret R1 _ (S1.set i r1)
/-- a, b = x, y -/
def sPar (is : List Nat) (ms : M (List D)) : SM := fun env st => lift (ms env st) env fun ds s => if ds.length = is.length then .ok (.nx ((is.zip ds).foldl (fun env p => env.set p.1 (some p.2)) env)) s else .bad
theorem js_par2 {i j : Nat} {ms : M (List D)} {tg : Expr} {v : Expr} (h : PS X (.Assign [tg] v pos) (tPar i j (tA G (eX XW) ms))) : PS X (.Assign [tg] v pos) (tS G XW (sPar [i, j] ms)) := PS.weak h fun D σ H ⟨B, W, env, e, R, S, o⟩ => by
  subst e
  refine sA R S o fun ds W1 vs x1 R1 S1 r1 o1 => ?_
  by_cases c : ds.length = [i, j].length
  · simp only [if_pos c] at o1
    match ds, c, r1, o1 with
    | [d1, d2], _, .cons h1 (.cons h2 .nil), o1 => exact ⟨_, _, rfl, o1.ret R1 _ ((S1.set i h1).set j h2)⟩
  · simp only [if_neg c] at o1
    exact o1.elim
theorem js_par3 {i j l : Nat} {ms : M (List D)} {tg : Expr} {v : Expr} (h : PS X (.Assign [tg] v pos) (tPar3 i j l (tA G (eX XW) ms))) : PS X (.Assign [tg] v pos) (tS G XW (sPar [i, j, l] ms)) := PS.weak h fun D σ H ⟨B, W, env, e, R, S, o⟩ => by
  subst e
  refine sA R S o fun ds W1 vs x1 R1 S1 r1 o1 => ?_
  by_cases c : ds.length = [i, j, l].length
  · simp only [if_pos c] at o1
    match ds, c, r1, o1 with
    | [d1, d2, d3], _, .cons h1 (.cons h2 (.cons h3 .nil)), o1 => exact ⟨_, _, _, rfl, o1.ret R1 _ (((S1.set i h1).set j h2).set l h3)⟩
  · simp only [if_neg c] at o1
    exact o1.elim
/-- targets: a name, a tuple of targets -/
inductive Tgt where
  | nm (i : Nat) | tu (ts : List Tgt)
mutual
def bindT : Tgt → D → Sl → Option Sl
  | .nm i, d, env => some (env.set i (some d))
  | .tu ts, d, env => match d with
    | .tup ds => bindTs ts ds env
    | .lst ds => bindTs ts ds env
    | _ => none
def bindTs : List Tgt → List D → Sl → Option Sl
  | [], [], env => some env
  | t :: ts, d :: ds, env => (bindT t d env).bind fun env1 => bindTs ts ds env1
  | [], _ :: _, _ => none
  | _ :: _, [], _ => none
end
mutual
def Tgt.sl : Tgt → List Nat
  | .nm i => [i]
  | .tu ts => Tgt.sls ts
def Tgt.sls : List Tgt → List Nat
  | [] => []
  | t :: ts => t.sl ++ Tgt.sls ts
end
mutual
def gT (K : PySem.W.Frag) : Tgt → TG
  | .nm i => gName i
  | .tu ts => fun v σ H Q => gTup K ts.length (gTs K ts) v σ H Q ∨ gLst K ts.length (gTs K ts) v σ H Q
def gTs (K : PySem.W.Frag) : List Tgt → TGs
  | [] => gNil
  | t :: ts => gCons (gT K t) (gTs K ts)
end
theorem PG.or {tg : Expr} {t t' : TG} (h : PG X tg t) (h' : PG X tg t') : PG X tg (fun v σ H Q => t v σ H Q ∨ t' v σ H Q) := ⟨fun pins s σ H v u Q I r q => q.elim (h.run pins s σ H v u Q I r) (h'.run pins s σ H v u Q I r)⟩
theorem jg_nm {i : Nat} {x : Str} (h : PG X (.Name x pos) (gName i)) : PG X (.Name x pos) (gT X.K (.nm i)) := h
theorem jg_nil : PGs X [] (gTs X.K []) := pgs_nil
theorem jg_cons {e : Expr} {es : List Expr} {t : Tgt} {ts : List Tgt} (h1 : PG X e (gT X.K t)) (h2 : PGs X es (gTs X.K ts)) (hs : (assignEach (e :: es) X.env).map (·.2) = assign e X.env :: (assignEach es X.env).map (·.2) := by rfl) : PGs X (e :: es) (gTs X.K (t :: ts)) := pgs_cons h1 h2 hs
theorem jg_tu {es : List Expr} {k : Nat} {ts : List Tgt} (hc : X.calm = true) (h : PGs X es (gTs X.K ts)) (hn : (assignEach es X.env).length = ts.length := by rfl) (hst : (assignEach es X.env).findIdx? (·.1) = none := by rfl) : PG X (.Tuple es k pos) (gT X.K (.tu ts)) :=
  PG.or (pg_tup hc h hn hst) (pg_lst hc h hn hst)
theorem bindTs_len : ∀ {ts : List Tgt} {ds : List D} {env env' : Sl}, bindTs ts ds env = some env' → ts.length = ds.length
  | [], [], _, _, _ => rfl
  | t :: ts, d :: ds, env, env', h => by
    unfold bindTs at h
    obtain ⟨e1, _, h2⟩ := Option.bind_eq_some_iff.mp h
    exact congrArg (· + 1) (bindTs_len h2)
  | [], _ :: _, _, _, h => by cases h
  | _ :: _, [], _, _, h => by cases h
theorem wipe_set {σ : L2.St} {i : Nat} {x : Option V} : ∀ {vs : List Nat}, i ∈ vs → wipe (σ.set i x) vs = wipe σ vs
  | [], h => by cases h
  | v :: vs, h => by
    unfold wipe
    by_cases hv : i ∈ vs
    · rw [wipe_set hv]
    · have e : i = v := by
        rcases List.mem_cons.mp h with h | h
        · exact h
        · exact (hv h).elim
      subst e
      have out : ∀ (vs : List Nat), i ∉ vs → wipe (σ.set i x) vs = (wipe σ vs).set i x := by
        intro vs
        induction vs with
        | nil => intro _; rfl
        | cons w ws ih =>
          intro hw
          rw [List.mem_cons, not_or] at hw
          unfold wipe
          rw [ih hw.2, List.set_comm _ _ hw.1]
      rw [out vs hv, List.set_set]
mutual
theorem gT_ok {B : Addr → Prop} {W : Wd} (R : Rel G B W) : ∀ (t : Tgt) (d : D) (env env' : Sl) (σ : L2.St) (v : V) (Q : L2.St → Hp → Prop), Slots G B W σ env → Rep G B W v d → bindT t d env = some env' →
    (∀ σ', Slots G B W σ' env' → (∀ vs, (∀ i ∈ t.sl, i ∈ vs) → wipe σ' vs = wipe σ vs) → Q σ' W.H) → gT G.K t v σ W.H Q
  | .nm i, d, env, env', σ, v, Q, S, r, h, q => by
    cases h
    exact q _ (S.set i r) fun vs hv => wipe_set (hv i (by simp [Tgt.sl]))
  | .tu ts, d, env, env', σ, v, Q, S, r, h, q => by
    cases d with
    | tup ds =>
      have h' : bindTs ts ds env = some env' := h
      cases r with
      | tup h1 t => exact .inl ⟨_, _, rfl, h1, t.length.trans (bindTs_len h').symm, gTs_ok R ts ds env env' σ _ Q S t h' q⟩
    | lst ds =>
      have h' : bindTs ts ds env = some env' := h
      cases r with
      | lst h1 n t => exact .inr ⟨_, _, rfl, SqL.of h1, t.length.trans (bindTs_len h').symm, gTs_ok R ts ds env env' σ _ Q S t h' q⟩
    | _ => cases h
theorem gTs_ok {B : Addr → Prop} {W : Wd} (R : Rel G B W) : ∀ (ts : List Tgt) (ds : List D) (env env' : Sl) (σ : L2.St) (vs : List V) (Q : L2.St → Hp → Prop), Slots G B W σ env → Reps G B W vs ds → bindTs ts ds env = some env' →
    (∀ σ', Slots G B W σ' env' → (∀ us, (∀ i ∈ Tgt.sls ts, i ∈ us) → wipe σ' us = wipe σ us) → Q σ' W.H) → gTs G.K ts vs σ W.H Q
  | [], [], env, env', σ, vs, Q, S, r, h, q => by
    cases r
    cases h
    exact ⟨rfl, q σ S fun _ _ => rfl⟩
  | t :: ts, d :: ds, env, env', σ, vs, Q, S, r, h, q => by
    cases r with
    | cons h1 t1 =>
      unfold bindTs at h
      obtain ⟨env1, e1, e2⟩ := Option.bind_eq_some_iff.mp h
      refine ⟨_, _, rfl, gT_ok R t d env env1 σ _ _ S h1 e1 fun σ1 S1 w1 => gTs_ok R ts ds env1 env' σ1 _ Q S1 t1 e2 fun σ2 S2 w2 => q σ2 S2 fun us hu => ?_⟩
      rw [w2 us fun i hi => hu i (by simp [Tgt.sls, hi]), w1 us fun i hi => hu i (by simp [Tgt.sls, hi])]
  | [], _ :: _, _, _, _, _, _, _, _, h, _ => by cases h
  | _ :: _, [], _, _, _, _, _, _, _, h, _ => by cases h
end
/-- t = e -/
def sAsg (t : Tgt) (m : M D) : SM := fun env st => lift (m env st) env fun d s => match bindT t d env with
  | some env' => .ok (.nx env') s
  | none => .bad
theorem js_asg {tg : Expr} {t : Tgt} (hK : G.K = X.K) (he : PE X e (tE G (eX XW) m)) (hg : PG X tg (gT X.K t)) (hs : swapsWithSole [tg] e pos.line X.env = pure false := by rfl) (hw : swappedStores [tg] e X.env = pure none := by rfl)
    (h1 : (assignEach [tg] X.env).map (·.2) = [assign tg X.env] := by rfl) : PS X (.Assign [tg] e pos) (tS G XW (sAsg t m)) := PS.weak (ps_asg he hg hs hw h1) fun D σ H ⟨B, W, env, e, R, S, o⟩ => by
  subst e
  refine sE R S o fun d W1 v x1 R1 S1 r1 o1 => ?_
  cases q : bindT t d env with
  | none => simp only [q] at o1; exact o1.elim
  | some env' =>
    simp only [q] at o1
    rw [← hK]
    exact gT_ok R1 t d env env' σ v _ S1 r1 q fun σ' S' _ => o1.ret R1 σ' S'
end
end DL

set_option maxHeartbeats 2000000
/-! DL7: what is walked; for, while, comprehensions. -/
namespace DL
open PySem PySem.Spec PyProof.Rows L2

/-- what a loop walks: the items; the cells that must stay as they are -/
structure Src where
  items : List D
  guard : List (Nat × List D) := []
def Src.okS (s : Src) (st : Store) : Prop := ∀ p ∈ s.guard, st[p.1]? = some (Cell.lst p.2)
def Walks (G : Cn) (B : Addr → Prop) (W0 : Wd) (J : It) (s : Src) : Prop := ∀ W, Ext W0 W → ∀ B', (∀ a, B a → B' a) → Rel G B' W → (∀ v d, Rep G B W0 v d → Rep G B' W v d) → s.okS W.st →
  (∀ (i : Nat) (d : D), s.items[i]? = some d → J.go i W.H ∧ ∀ x H', J.yld i W.H x H' → ∃ W', W'.H = H' ∧ W'.st = W.st ∧ W'.r = W.r ∧ (∀ a o, W.H a = some o → H' a = some o) ∧ Ext W W' ∧ Rel G B' W' ∧ Rep G B' W' x d) ∧
  (∀ i : Nat, s.items.length ≤ i → J.stop i W.H)
def tI (G : Cn) (E : ES) (m : M Src) : TI := fun σ H Q => ∃ B W env, W.H = H ∧ Rel G B W ∧ Slots G B W σ env ∧ Out G B W (E σ) (m env W.st) fun s W' => ∀ J, Walks G B W' J s → Q J W'.H
section
variable {G : Cn} {B B' : Addr → Prop} {W W' W0 : Wd}
theorem Rel.self (R : Rel G B W) : (W' : Wd) → W' = W → Ext W W' ∧ Rel G B W' := fun W' e => by subst e; exact ⟨R.refl, R⟩
/-- a list (or tuple) that stands at a -/
theorem walks_list {a : Addr} {items : List D} {g : List (Nat × List D)} (h : ∀ W, Ext W0 W → ∀ B', (∀ a, B a → B' a) → Rel G B' W → (∀ v d, Rep G B W0 v d → Rep G B' W v d) → Src.okS ⟨items, g⟩ W.st → ∃ vs, SqL G.K W.H a vs ∧ Reps G B' W vs items) : Walks G B W0 (Itl G.K a) ⟨items, g⟩ := by
  intro W x B' hB R hR ok
  obtain ⟨vs, h1, h2⟩ := h W x B' hB R hR ok
  refine ⟨fun i d e => ?_, fun i hi => ⟨vs, h1, by rw [h2.length]; exact hi⟩⟩
  obtain ⟨v, e1, r⟩ := h2.get e
  refine ⟨⟨vs, v, h1, e1⟩, fun z H' y => ?_⟩
  obtain ⟨rfl, y⟩ := y
  have e2 := y vs h1
  rw [e1] at e2
  cases e2
  exact ⟨W, rfl, rfl, rfl, fun _ _ q => q, R.refl, R, r⟩
theorem walks_tup {a : Addr} {items : List D} (h : ∀ W, Ext W0 W → ∀ B', (∀ a, B a → B' a) → Rel G B' W → (∀ v d, Rep G B W0 v d → Rep G B' W v d) → ∃ vs, SqT G.K W.H a vs ∧ Reps G B' W vs items) : Walks G B W0 (Itt G.K a) ⟨items, []⟩ := by
  intro W x B' hB R hR ok
  obtain ⟨vs, h1, h2⟩ := h W x B' hB R hR
  refine ⟨fun i d e => ?_, fun i hi => ⟨vs, h1, by rw [h2.length]; exact hi⟩⟩
  obtain ⟨v, e1, r⟩ := h2.get e
  refine ⟨⟨vs, v, h1, e1⟩, fun z H' y => ?_⟩
  obtain ⟨rfl, y⟩ := y
  have e2 := y vs h1
  rw [e1] at e2
  cases e2
  exact ⟨W, rfl, rfl, rfl, fun _ _ q => q, R.refl, R, r⟩
/-- the numbers lo, lo + 1, .. -/
def intsD (lo : Int) : Nat → List D
  | 0 => []
  | n + 1 => .int lo :: intsD (lo + 1) n
theorem ints_get : ∀ (n : Nat) (lo : Int) (i : Nat) (d : D), (intsD lo n)[i]? = some d → i < n ∧ d = .int (lo + i)
  | 0, _, _, _, e => by simp [intsD] at e
  | n + 1, lo, 0, d, e => by
    simp only [intsD, List.getElem?_cons_zero, Option.some.injEq] at e
    exact ⟨Nat.succ_pos _, by rw [← e]; simp⟩
  | n + 1, lo, i + 1, d, e => by
    simp only [intsD, List.getElem?_cons_succ] at e
    obtain ⟨h1, h2⟩ := ints_get n (lo + 1) i d e
    exact ⟨by omega, by rw [h2]; congr 1; omega⟩
theorem ints_len : ∀ (n : Nat) (lo : Int), (intsD lo n).length = n
  | 0, _ => rfl
  | n + 1, lo => congrArg (· + 1) (ints_len n (lo + 1))
theorem walks_rng {lo : Int} {n : Nat} : Walks G B W0 (Itr lo n) ⟨intsD lo n, []⟩ := by
  intro W x B' hB R hR ok
  refine ⟨fun i d e => ?_, fun i hi => by rw [ints_len] at hi; exact hi⟩
  obtain ⟨h1, h2⟩ := ints_get n lo i d e
  refine ⟨h1, fun z H' y => ?_⟩
  obtain ⟨rfl, rfl⟩ := y
  exact ⟨W, rfl, rfl, rfl, fun _ _ q => q, R.refl, R, by rw [h2]; exact .int _⟩
end
/-- a list or a tuple, walked -/
def srcOf (st : Store) : D → Option Src
  | .tup xs => some ⟨xs, []⟩
  | .lst xs => some ⟨xs, []⟩
  | .fro xs => some ⟨xs, []⟩
  | .loc n => match st[n]? with
    | some (.lst xs) => some ⟨xs, [(n, xs)]⟩
    | _ => none
  | _ => none
def mIt (m : M D) : M Src := fun env st => (m env st).bind fun d s => match srcOf s d with
  | some r => .ok r s
  | none => .bad
theorem Rep.walks {G : Cn} {B : Addr → Prop} {W : Wd} {v : V} {d : D} {r : Src} (R : Rel G B W) (h : Rep G B W v d) (e : srcOf W.st d = some r) :
    (∃ a, v = .ref a ∧ (∃ xs, SqL G.K W.H a xs) ∧ Walks G B W (Itl G.K a) r) ∨ (∃ a, v = .ref a ∧ (∃ xs, SqT G.K W.H a xs) ∧ Walks G B W (Itt G.K a) r) := by
  have rl : ∀ {a : Addr} {xs : List D}, Rep G B W (.ref a) (.lst xs) → Walks G B W (Itl G.K a) ⟨xs, []⟩ := fun {a xs} h => walks_list fun W2 x B' hB R2 hR ok => by
    have z := hR _ _ h
    cases z with
    | lst h' n t => exact ⟨_, SqL.of h', t⟩
  have rf : ∀ {a : Addr} {xs : List D}, Rep G B W (.ref a) (.fro xs) → Walks G B W (Itl G.K a) ⟨xs, []⟩ := fun {a xs} h => walks_list fun W2 x B' hB R2 hR ok => by
    have z := hR _ _ h
    cases z with
    | fro h' t =>
      rcases h' with ⟨o, h'⟩ | ⟨o, its, n, k⟩
      · exact ⟨_, .inl (.inr ⟨o, h'⟩), t⟩
      · exact ⟨_, .inr ⟨o, its, n, k⟩, t⟩
  have rt : ∀ {a : Addr} {xs : List D}, Rep G B W (.ref a) (.tup xs) → Walks G B W (Itt G.K a) ⟨xs, []⟩ := fun {a xs} h => walks_tup fun W2 x B' hB R2 hR => by
    have z := hR _ _ h
    cases z with
    | tup h' t => exact ⟨_, h', t⟩
  cases h with
  | tup h t => cases e; exact .inr ⟨_, rfl, ⟨_, h⟩, rt (.tup h t)⟩
  | lst h n t => cases e; exact .inl ⟨_, rfl, ⟨_, SqL.of h⟩, rl (.lst h n t)⟩
  | fro h t =>
    cases e
    refine .inl ⟨_, rfl, ?_, rf (.fro h t)⟩
    rcases h with ⟨o, h'⟩ | ⟨o, its, n, k⟩
    · exact ⟨_, .inl (.inr ⟨o, h'⟩)⟩
    · exact ⟨_, .inr ⟨o, its, n, k⟩⟩
  | @loc a n h =>
    cases q : W.st[n]? with
    | none => simp only [srcOf, q] at e; cases e
    | some c =>
      cases c with
      | lst xs =>
        simp only [srcOf, q] at e
        cases e
        obtain ⟨vs, h1, h2⟩ := R.cell n a _ h q
        refine .inl ⟨a, rfl, ⟨vs, SqL.of h1⟩, walks_list fun W2 x B' hB R2 hR ok => ?_⟩
        have z := hR _ _ (.loc h)
        have q2 := ok (n, xs) (by simp)
        cases z with
        | loc h' =>
          obtain ⟨us, h3, h4⟩ := R2.cell n a _ h' q2
          exact ⟨us, SqL.of h3, h4⟩
      | _ => simp only [srcOf, q] at e; cases e
  | _ => cases e
section
variable {X : Cx} {G : Cn} {E : ES} {tg e : Expr} {m : M D} {pos p : Pos}
/-- a list or a tuple: which one, its value tells -/
def iSeq (K : PySem.W.Frag) (tl : TE) : TI := fun σ H Q => tl σ H fun x H1 => (∃ a, x = .ref a ∧ (∃ xs, SqL K H1 a xs) ∧ Q (Itl K a) H1) ∨ (∃ a, x = .ref a ∧ (∃ xs, SqT K H1 a xs) ∧ Q (Itt K a) H1)
theorem pi_seq {tl : TE} (hl : PE X e tl) : PI X tg e (iSeq X.K tl) := by
  refine ⟨fun pins s σ H Q I h => thn (hl.run pins s σ H _ I h) fun v s1 hv => ?_⟩
  obtain ⟨x, H1, I1, r1, q1⟩ := hv
  have fp : ∀ b ∈ [s1.heap.objs.size], FpOk X pins H1 b := fun b hb => by
    rw [List.mem_singleton] at hb
    subst hb
    exact I1.fpOk (Nat.le_refl _) (I1.hok.fresh (Nat.le_refl _))
  rcases q1 with ⟨a, rfl, ⟨xs, hq⟩, q⟩ | ⟨a, rfl, ⟨xs, hq⟩, q⟩
  · cases r1
    obtain ⟨its, _, pl, _⟩ := I1.list hq
    exact wpAny_pyIter_list pl.isList ⟨_, [s1.heap.objs.size], _, _, H1, rfl, I1.kept (t' := s1.toks) fun b o e => Heap.get?_push_of_some _ e, turn_list a _, ⟨_, Heap.get?_push_size _ rfl, rfl, rfl⟩, fp, q⟩
  · cases r1
    obtain ⟨its, _, pl, _⟩ := I1.tuple hq
    exact wpAny_pyIter_tuple (show s1.heap.IsTuple a its.toArray from pl) ⟨_, [s1.heap.objs.size], _, _, H1, rfl, I1.kept (t' := s1.toks) fun b o e => Heap.get?_push_of_some _ e, turn_tuple a _, ⟨_, Heap.get?_push_size _ rfl, rfl, rfl⟩, fp, q⟩
theorem ji_seq (hK : G.K = X.K) (he : PE X e (tE G E m)) : PI X tg e (tI G E (mIt m)) := by
  refine PI.weak (pi_seq he) fun σ H Q ⟨B, W, env, e, R, S, o⟩ => ?_
  subst e
  rw [← hK]
  refine tE_of R S o fun d W1 v x1 R1 S1 r1 o1 => ?_
  cases q : srcOf W1.st d with
  | none => simp only [q] at o1; exact o1.elim
  | some r =>
    simp only [q] at o1
    rcases r1.walks R1 q with ⟨a, ea, h1, h2⟩ | ⟨a, ea, h1, h2⟩
    · exact .inl ⟨a, ea, h1, o1.ret R1 _ h2⟩
    · exact .inr ⟨a, ea, h1, o1.ret R1 _ h2⟩
/-- range(n), range(a, b) -/
def mRng1 (ms : M (List D)) : M Src := fun env st => (ms env st).bind fun ds s => match ds with
  | [.int j] => if -(2 ^ 62) ≤ j ∧ j < 2 ^ 62 then .ok ⟨intsD 0 j.toNat, []⟩ s else .bad
  | _ => .bad
def mRng2 (ms : M (List D)) : M Src := fun env st => (ms env st).bind fun ds s => match ds with
  | [.int i, .int j] => if -(2 ^ 62) ≤ i ∧ i < 2 ^ 62 ∧ -(2 ^ 62) ≤ j ∧ j < 2 ^ 62 then .ok ⟨intsD i (j - i).toNat, []⟩ s else .bad
  | _ => .bad
theorem ji_rng1 {ms : M (List D)} (hg : Gl X "range") (hm : X.mg "range" = none) (ha : PA X [e] (tA G E ms)) (hs : starEach [e] X.env = [(false, eval e X.env)] := by rfl) : PI X tg (.Call (.Name "range" p) [e] [] pos) (tI G E (mRng1 ms)) := by
  refine PI.weak (pi_range1 hg hm ha hs) fun σ H Q ⟨B, W, env, e, R, S, o⟩ => ?_
  subst e
  refine tA_of R S o fun ds W1 vs x1 R1 S1 r1 o1 => ?_
  match ds, r1, o1 with
  | [.int j], .cons (.int _) .nil, o1 =>
    by_cases c : -(2 ^ 62) ≤ j ∧ j < 2 ^ 62
    · simp only [if_pos c] at o1
      exact ⟨j, rfl, c.1, c.2, o1.ret R1 _ walks_rng⟩
    · simp only [if_neg c] at o1
      exact o1.elim
theorem ji_rng2 {e2 : Expr} {ms : M (List D)} (hg : Gl X "range") (hm : X.mg "range" = none) (ha : PA X [e, e2] (tA G E ms)) (hs : starEach [e, e2] X.env = [(false, eval e X.env), (false, eval e2 X.env)] := by rfl) (hs2 : starEach [e2] X.env = [(false, eval e2 X.env)] := by rfl) : PI X tg (.Call (.Name "range" p) [e, e2] [] pos) (tI G E (mRng2 ms)) := by
  refine PI.weak (pi_range2 hg hm ha hs hs2) fun σ H Q ⟨B, W, env, e, R, S, o⟩ => ?_
  subst e
  refine tA_of R S o fun ds W1 vs x1 R1 S1 r1 o1 => ?_
  match ds, r1, o1 with
  | [.int i, .int j], .cons (.int _) (.cons (.int _) .nil), o1 =>
    by_cases c : -(2 ^ 62) ≤ i ∧ i < 2 ^ 62 ∧ -(2 ^ 62) ≤ j ∧ j < 2 ^ 62
    · simp only [if_pos c] at o1
      exact ⟨i, j, rfl, c, o1.ret R1 _ walks_rng⟩
    · simp only [if_neg c] at o1
      exact o1.elim
end
/-! ### for -/
open Classical in
noncomputable def forGo (t : Tgt) (body : SM) (src : Src) : List D → Sl → Store → R Fl
  | [], env, st => if src.okS st then .ok (.nx env) st else .bad
  | d :: ds, env, st => if src.okS st then (match bindT t d env with
    | some env1 => (match body env1 st with
      | .ok (.nx env2) s => forGo t body src ds env2 s
      | .ok (.ct env2) s => forGo t body src ds env2 s
      | .ok (.bk env2) s => .ok (.nx env2) s
      | r => r)
    | none => .bad) else .bad
noncomputable def sFor (t : Tgt) (mi : M Src) (body : SM) : SM := fun env st => lift (mi env st) env fun src s => forGo t body src src.items env s
section
variable {X : Cx} {G : Cn} {XW : WX} {tg iter : Expr} {body : List Stmt} {b : SM} {mi : M Src} {t : Tgt} {pos : Pos}
theorem sI {B : Addr → Prop} {W : Wd} {Dn : Ends} {σ : L2.St} {env : Sl} {Q : It → Hp → Prop} {k : Src → Store → DL.R Fl} (R : Rel G B W) (S : Slots G B W σ env) (h : Out G B W E0 (lift (mi env W.st) env k) (FlQ G B XW Dn))
    (q : ∀ s W' J, Ext W W' → Rel G B W' → Slots G B W' σ env → Walks G B W' J s → Out G B W' E0 (k s W'.st) (FlQ G B XW Dn) → Q J W'.H) : tI G (eX XW) mi σ W.H Q :=
  ⟨B, W, env, rfl, R, S, (lift_of S R h).imp fun s W' x R' o J w => q s W' J x R' (S.ext R x) w o⟩
theorem js_for (hK : G.K = X.K) (hp : PassesOwn (model X.prog X.w) X.A X.env X.xe) (hc : X.calm = true) (hi : PI X tg iter (tI G (eX XW) mi)) (hg : PG X tg (gT X.K t)) (hb : PSs X body (tS G XW b))
    (hs : ∀ x, foldedSetIterable iter X.env x = pure x := by intro _; rfl) : PS X (.For tg iter body [] pos) (tS G XW (sFor t mi b)) := PS.weak (ps_for hp hc hi hg hb hs) fun D σ H ⟨B, W, env, e, R, S, o⟩ => by
  subst e
  refine sI R S o fun src W1 J x1 R1 S1 wk o1 => ?_
  have rep : ∀ {W2 : Wd}, Ext W1 W2 → ∀ v d, Rep G B W1 v d → Rep G B W2 v d := fun x v d r => Rep.ext R1 x d v r
  refine ⟨fun i m σ' H' => m = src.items.length - i ∧ i ≤ src.items.length ∧ ∃ W2 env2, W2.H = H' ∧ Ext W1 W2 ∧ Rel G B W2 ∧ Slots G B W2 σ' env2 ∧ Out G B W2 E0 (forGo t b src (src.items.drop i) env2 W2.st) (FlQ G B XW D),
    ⟨_, rfl, Nat.zero_le _, W1, env, rfl, R1.refl, R1, S1, o1⟩, ?_⟩
  rintro i m σ2 H2 ⟨rfl, hi2, W2, env2, rfl, x2, R2, S2, o2⟩
  by_cases ok : src.okS W2.st
  · obtain ⟨w1, w2⟩ := wk W2 x2 B (fun _ h => h) R2 (rep x2) ok
    by_cases hlt : i < src.items.length
    · have ed : src.items.drop i = src.items[i] :: src.items.drop (i + 1) := List.drop_eq_getElem_cons hlt
      rw [ed] at o2
      unfold forGo at o2
      rw [if_pos ok] at o2
      obtain ⟨hgo, hy⟩ := w1 i _ (List.getElem?_eq_getElem hlt)
      refine .inr ⟨hgo, fun σ' H' => ∃ W3 env3, W3.H = H' ∧ Ext W1 W3 ∧ Rel G B W3 ∧ Slots G B W3 σ' env3 ∧ Out G B W3 E0 (forGo t b src (src.items.drop (i + 1)) env3 W3.st) (FlQ G B XW D), fun σ' H' n => ⟨_, ?_, rfl, hlt, n⟩, fun x H' y => ?_⟩
      · omega
      · obtain ⟨W3, rfl, es, er, _, x3, R3, r3⟩ := hy x H' y
        cases eb : bindT t src.items[i] env2 with
        | none => rw [eb] at o2; exact o2.elim
        | some env3 =>
          rw [eb] at o2
          rw [← hK]
          refine gT_ok R3 t _ env2 env3 σ2 x _ (S2.ext R2 x3) r3 eb fun σ3 S3 _ => ?_
          refine ⟨B, W3, env3, rfl, R3, S3, ?_⟩
          rw [es]
          have o3 := Out.ext o2 x3
          simp only at o3
          cases q : b env3 W2.st with
          | ok fl s =>
            rw [q] at o3
            cases fl with
            | nx e4 => exact fun W4 x4 R4 e5 σ4 S4 => ⟨W4, e4, rfl, (x2.trans x3).trans x4, R4, S4, by subst e5; exact Out.ext o3 x4⟩
            | ct e4 => exact fun W4 x4 R4 e5 σ4 S4 => ⟨W4, e4, rfl, (x2.trans x3).trans x4, R4, S4, by subst e5; exact Out.ext o3 x4⟩
            | bk e4 => exact fun W4 x4 R4 e5 σ4 S4 => o3 W4 x4 R4 e5 σ4 S4
            | rt d => exact o3
            | xc e env => exact o3
          | exc e s => rw [q] at o3; exact o3
          | bad => rw [q] at o3; exact o3
    · have e : i = src.items.length := by omega
      subst e
      rw [List.drop_length] at o2
      unfold forGo at o2
      rw [if_pos ok] at o2
      exact .inl ⟨w2 _ (Nat.le_refl _), o2.ret R2 σ2 S2⟩
  · exfalso
    cases q : src.items.drop i with
    | nil => rw [q] at o2; unfold forGo at o2; rw [if_neg ok] at o2; exact o2
    | cons d ds => rw [q] at o2; unfold forGo at o2; rw [if_neg ok] at o2; exact o2
/-! ### while -/
def whileGo (c : M Bool) (b : SM) : Nat → Sl → Store → R Fl
  | 0, _, _ => .bad
  | n + 1, env, st => lift (c env st) env fun k s => if k then (match b env s with
    | .ok (.nx env2) s2 => whileGo c b n env2 s2
    | .ok (.ct env2) s2 => whileGo c b n env2 s2
    | .ok (.bk env2) s2 => .ok (.nx env2) s2
    | r => r) else .ok (.nx env) s
theorem js_while {c : Expr} {mc : M Bool} (n : Nat) (hp : PassesOwn (model X.prog X.w) X.A X.env X.xe) (hc : PT X c (tT G (eX XW) mc)) (hb : PSs X body (tS G XW b)) : PS X (.While c body [] pos) (tS G XW (whileGo mc b n)) := PS.weak (ps_while hp hc hb) fun D σ H ⟨B, W, env, e, R, S, o⟩ => by
  subst e
  refine ⟨fun m σ' H' => ∃ W2 env2, W2.H = H' ∧ Rel G B W2 ∧ Slots G B W2 σ' env2 ∧ Out G B W2 E0 (whileGo mc b m env2 W2.st) (FlQ G B XW D), ⟨n, W, env, rfl, R, S, o⟩, ?_⟩
  rintro m σ2 H2 ⟨W2, env2, rfl, R2, S2, o2⟩
  cases m with
  | zero => exact o2.elim
  | succ m =>
    unfold whileGo at o2
    refine sT R2 S2 o2 fun k W3 x3 R3 S3 o3 => ?_
    cases k with
    | false => exact o3.ret R3 σ2 S3
    | true =>
      rw [if_pos rfl]
      refine ⟨fun σ' H' => ∃ W4 env4, W4.H = H' ∧ Rel G B W4 ∧ Slots G B W4 σ' env4 ∧ Out G B W4 E0 (whileGo mc b m env4 W4.st) (FlQ G B XW D), fun σ' H' q => ⟨m, Nat.lt_succ_self m, q⟩, B, W3, env2, rfl, R3, S3, ?_⟩
      simp only [if_pos] at o3
      cases q : b env2 W3.st with
      | ok fl s =>
        rw [q] at o3
        cases fl with
        | nx e4 => exact fun W4 x4 R4 e5 σ4 S4 => ⟨W4, e4, rfl, R4, S4, by subst e5; exact Out.ext o3 x4⟩
        | ct e4 => exact fun W4 x4 R4 e5 σ4 S4 => ⟨W4, e4, rfl, R4, S4, by subst e5; exact Out.ext o3 x4⟩
        | bk e4 => exact fun W4 x4 R4 e5 σ4 S4 => o3 W4 x4 R4 e5 σ4 S4
        | rt d => exact o3
        | xc e env => exact o3
      | exc e s => rw [q] at o3; exact o3
      | bad => rw [q] at o3; exact o3
end
end DL

set_option maxHeartbeats 2000000
/-! DL8: list comprehensions. -/
namespace DL
open PySem PySem.Spec PyProof.Rows L2

section
variable {G : Cn} {B B' : Addr → Prop} {W W' : Wd}
mutual
theorem Rep.move (ht : ∀ a o, W.H a = some o → isCell o = false → W'.H a = some o) (hm : ∀ a o, W.H a = some o → ¬ Mu B W a → W'.H a = some o ∧ ¬ Mu B' W' a) (hr : ∀ (n : Nat) (a : Addr), W.r[n]? = some a → W'.r[n]? = some a) : ∀ (d : D) (v : V), Rep G B W v d → Rep G B' W' v d
  | .non, _, h => by cases h; exact .non
  | .bl b, _, h => by cases h; exact .bl b
  | .int i, _, h => by cases h; exact .int i
  | .str i, _, h => by cases h; exact .str i
  | .tup ds, _, h => by
    cases h with
    | tup h t =>
      refine .tup ?_ (Reps.move ht hm hr ds _ t)
      rcases h with (h | ⟨o, h⟩) | h
      · exact .inl (.inl (ht _ _ h rfl))
      · exact .inl (.inr ⟨o, ht _ _ h rfl⟩)
      · exact .inr h
  | .lst ds, _, h => by
    cases h with
    | lst h m t => exact .lst (hm _ _ h m).1 (hm _ _ h m).2 (Reps.move ht hm hr ds _ t)
  | .fro ds, _, h => by
    cases h with
    | fro h t =>
      refine .fro ?_ (Reps.move ht hm hr ds _ t)
      rcases h with ⟨o, h⟩ | h
      · exact .inl ⟨o, ht _ _ h rfl⟩
      · exact .inr h
  | .dct ks ds, _, h => by
    cases h with
    | dct h m e t => exact .dct (hm _ _ h m).1 (hm _ _ h m).2 e (Reps.move ht hm hr ds _ t)
  | .obj c ns ds, _, h => by
    cases h with
    | obj h m e t => exact .obj (hm _ _ h m).1 (hm _ _ h m).2 e (Reps.move ht hm hr ds _ t)
  | .loc _, _, h => by
    cases h with
    | loc h => exact .loc (hr _ _ h)
  | .exn _ _ ds, _, h => by
    cases h with
    | exn0 h => exact .exn0 h
    | exn1 h hx e t => exact .exn1 h (ht _ _ hx rfl) e (Reps.move ht hm hr ds _ t)
theorem Reps.move (ht : ∀ a o, W.H a = some o → isCell o = false → W'.H a = some o) (hm : ∀ a o, W.H a = some o → ¬ Mu B W a → W'.H a = some o ∧ ¬ Mu B' W' a) (hr : ∀ (n : Nat) (a : Addr), W.r[n]? = some a → W'.r[n]? = some a) : ∀ (ds : List D) (vs : List V), Reps G B W vs ds → Reps G B' W' vs ds
  | [], _, h => by cases h; exact .nil
  | d :: ds, _, h => by
    cases h with
    | cons h t => exact .cons (Rep.move ht hm hr d _ h) (Reps.move ht hm hr ds _ t)
end
theorem CellOk.move (ht : ∀ a o, W.H a = some o → isCell o = false → W'.H a = some o) (hm : ∀ a o, W.H a = some o → ¬ Mu B W a → W'.H a = some o ∧ ¬ Mu B' W' a) (hr : ∀ (n : Nat) (a : Addr), W.r[n]? = some a → W'.r[n]? = some a) {a : Addr} {c : Cell} (e : W'.H a = W.H a) (h : CellOk G B W a c) : CellOk G B' W' a c := by
  cases c with
  | lst ds =>
    obtain ⟨vs, h1, h2⟩ := h
    exact ⟨vs, e.trans h1, Reps.move ht hm hr _ _ h2⟩
  | dct ks ds =>
    obtain ⟨vs, h1, h2, h3⟩ := h
    exact ⟨vs, e.trans h1, h2, Reps.move ht hm hr _ _ h3⟩
  | ins c ns ds =>
    obtain ⟨dx, vs, h1, h2, h3⟩ := h
    exact ⟨dx, vs, e.trans h1, h2, Reps.move ht hm hr _ _ h3⟩
  | dead =>
    obtain ⟨o, h1⟩ := h
    exact ⟨o, e.trans h1⟩
/-! a list that grows at p, aside: p is banned meanwhile -/
def banP (B : Addr → Prop) (p : Addr) : Addr → Prop := fun a => B a ∨ a = p
/-- the world with the new list at p -/
theorem asideM {p : Addr} {vs : List V} (R : Rel G B W) (h : W.H p = none) : (∀ a o, W.H a = some o → isCell o = false → (W.new p (.lst vs)).H a = some o) ∧ (∀ a o, W.H a = some o → ¬ Mu B W a → (W.new p (.lst vs)).H a = some o ∧ ¬ Mu (banP B p) (W.new p (.lst vs)) a) := by
  have k : ∀ a o, W.H a = some o → (W.new p (.lst vs)).H a = some o := fun a o e => (upd_ne (ne_of_none e h)).trans e
  refine ⟨fun a o e _ => k a o e, fun a o e m => ⟨k a o e, fun z => ?_⟩⟩
  rcases z with (z | z) | z
  · exact m (.inl z)
  · exact ne_of_none e h z
  · exact m (.inr z)
theorem Rel.aside {p : Addr} {vs : List V} (R : Rel G B W) (h : W.H p = none) : Rel G (banP B p) (W.new p (.lst vs)) := by
  obtain ⟨ht, hm⟩ := asideM (vs := vs) R h
  refine ⟨R.len, R.nd, fun a ha => ?_, fun n a c h1 h2 h3 => ?_, fun n a c h1 h2 => ?_⟩
  · rcases ha with ha | ha
    · obtain ⟨u, e⟩ := R.ban a ha
      exact ⟨u, (upd_ne (ne_of_none e h)).trans e⟩
    · subst ha
      exact ⟨_, upd_same⟩
  · intro z
    rcases z with z | z
    · exact R.sep n a c h1 h2 h3 z
    · obtain ⟨u, e⟩ := R.there h1
      exact ne_of_none e h z
  · obtain ⟨u, e⟩ := R.there h1
    exact (R.cell n a c h1 h2).move ht hm (fun _ _ q => q) (upd_ne (ne_of_none e h))
/-- no longer banned -/
theorem unbanM {p : Addr} : (∀ a o, W.H a = some o → isCell o = false → W.H a = some o) ∧ (∀ a o, W.H a = some o → ¬ Mu (banP B p) W a → W.H a = some o ∧ ¬ Mu B W a) :=
  ⟨fun _ _ e _ => e, fun a o e m => ⟨e, fun z => m (z.elim (fun q => .inl (.inl q)) .inr)⟩⟩
theorem Rel.unban {p : Addr} (R : Rel G (banP B p) W) : Rel G B W := by
  obtain ⟨ht, hm⟩ := unbanM (B := B) (W := W) (p := p)
  exact ⟨R.len, R.nd, fun a ha => R.ban a (.inl ha), fun n a c h1 h2 h3 z => R.sep n a c h1 h2 h3 (.inl z), fun n a c h1 h2 => (R.cell n a c h1 h2).move ht hm (fun _ _ q => q) rfl⟩
theorem Rep.unban {p : Addr} {d : D} {v : V} (r : Rep G (banP B p) W v d) : Rep G B W v d := Rep.move (unbanM (B := B) (W := W) (p := p)).1 (unbanM (B := B) (W := W) (p := p)).2 (fun _ _ q => q) d v r
theorem Reps.unban {p : Addr} {d : List D} {v : List V} (r : Reps G (banP B p) W v d) : Reps G B W v d := Reps.move (unbanM (B := B) (W := W) (p := p)).1 (unbanM (B := B) (W := W) (p := p)).2 (fun _ _ q => q) d v r
/-- from a world where p was free -/
theorem bringM {p : Addr} (R : Rel G B W) (h : W.H p = none) (x : Ext W W') : (∀ a o, W.H a = some o → isCell o = false → W'.H a = some o) ∧ (∀ a o, W.H a = some o → ¬ Mu B W a → W'.H a = some o ∧ ¬ Mu (banP B p) W' a) ∧ (∀ (n : Nat) (a : Addr), W.r[n]? = some a → W'.r[n]? = some a) := by
  refine ⟨fun a o e c => x.keep a o e (R.notAl e c), fun a o e m => ⟨x.keep a o e fun z => m (.inr z), fun z => ?_⟩, fun n a e => ?_⟩
  · rcases z with (z | z) | z
    · exact m (.inl z)
    · exact ne_of_none e h z
    · exact m (.inr (x.al e z))
  · obtain ⟨mm, em, _⟩ := x.more
    rw [em]
    exact (List.getElem?_append_left (List.getElem?_eq_some_iff.mp e).1).trans e
theorem Ext.out {p : Addr} {o : HO} (x : Ext W W') (h : W.H p = some o) (d : ∀ n : Nat, W.r[n]? ≠ some p) : ∀ n : Nat, W'.r[n]? ≠ some p := by
  intro n e
  obtain ⟨mm, em, hm⟩ := x.more
  rw [em] at e
  by_cases hn : n < W.r.length
  · rw [List.getElem?_append_left hn] at e
    exact d n e
  · rw [List.getElem?_append_right (by omega)] at e
    have := hm p (List.mem_of_getElem? e)
    rw [h] at this
    cases this
theorem notAl_out {p : Addr} (d : ∀ n : Nat, W.r[n]? ≠ some p) : ¬ Al W p := fun ⟨n, _, e, _⟩ => d n e
theorem Ext.newP {p : Addr} {o : HO} (x : Ext W W') (h : W.H p = none) : Ext W (W'.new p o) := by
  refine ⟨x.l0, x.len, x.more, x.dead, fun a u e n => (upd_ne (ne_of_none e h)).trans (x.keep a u e n), fun a u e => ?_⟩
  obtain ⟨u', e'⟩ := x.dom a u e
  exact ⟨u', (upd_ne (ne_of_none e h)).trans e'⟩
/-- the list at p grows -/
theorem growM {p : Addr} {vs us : List V} (R : Rel G B W) (hB : B p) (h : W.H p = some (.lst vs)) : (∀ a o, W.H a = some o → isCell o = false → (W.new p (.lst us)).H a = some o) ∧ (∀ a o, W.H a = some o → ¬ Mu B W a → (W.new p (.lst us)).H a = some o ∧ ¬ Mu B (W.new p (.lst us)) a) := by
  refine ⟨fun a o e c => (upd_ne fun z => ?_).trans e, fun a o e m => ⟨(upd_ne fun z => m (.inl (by rw [z]; exact hB))).trans e, m⟩⟩
  subst z
  rw [h] at e
  cases e
  cases c
theorem Rel.growP {p : Addr} {vs us : List V} (R : Rel G B W) (hB : B p) (h : W.H p = some (.lst vs)) (dead : ∀ (n : Nat), W.r[n]? ≠ some p) : Rel G B (W.new p (.lst us)) := by
  obtain ⟨ht, hm⟩ := growM (us := us) R hB h
  refine ⟨R.len, R.nd, fun a ha => ?_, R.sep, fun n a c h1 h2 => ?_⟩
  · by_cases e : a = p
    · subst e; exact ⟨_, upd_same⟩
    · obtain ⟨u, q⟩ := R.ban a ha
      exact ⟨u, (upd_ne e).trans q⟩
  · exact (R.cell n a c h1 h2).move ht hm (fun _ _ q => q) (upd_ne fun e => dead n (by rw [← e]; exact h1))
end
open Classical in
noncomputable def lcGo (t : Tgt) (tt : M Bool) (te : M D) (src : Src) (env : Sl) : List D → List D → Store → R D
  | [], acc, st => if src.okS st then .ok (.lst acc) st else .bad
  | d :: ds, acc, st => if src.okS st then (match bindT t d env with
    | some env1 => (match tt env1 st with
      | .ok true s => (match te env1 s with
        | .ok y s2 => if acc.length < sizeLine then lcGo t tt te src env ds (acc ++ [y]) s2 else .bad
        | _ => .bad)
      | .ok false s => lcGo t tt te src env ds acc s
      | _ => .bad)
    | none => .bad) else .bad
def wipeD (env : Sl) : List Nat → Sl
  | [] => env
  | v :: vs => (wipeD env vs).set v none
noncomputable def mLc (t : Tgt) (mi : M Src) (tt : M Bool) (te : M D) (own : List Nat) : M D := fun env st => (mi env st).bind fun src s => lcGo t tt te src (wipeD env own) src.items [] s
abbrev e0 : ES := fun _ _ _ _ => False
def mYes : M Bool := fun _ st => .ok true st
section
variable {X : Cx} {G : Cn} {E : ES} {tg iter elt : Expr} {ifs : List Expr} {mi : M Src} {tt : M Bool} {te : M D} {t : Tgt} {pos : Pos}
theorem Slots.wipe {B : Addr → Prop} {W : Wd} {σ : L2.St} {env : Sl} (S : Slots G B W σ env) : ∀ vs : List Nat, Slots G B W (L2.wipe σ vs) (wipeD env vs)
  | [] => S
  | v :: vs => (Slots.wipe S vs).clear v none
theorem Slots.move {B B' : Addr → Prop} {W W' : Wd} {σ : L2.St} {env : Sl} (ht : ∀ a o, W.H a = some o → isCell o = false → W'.H a = some o) (hm : ∀ a o, W.H a = some o → ¬ Mu B W a → W'.H a = some o ∧ ¬ Mu B' W' a) (hr : ∀ (n : Nat) (a : Addr), W.r[n]? = some a → W'.r[n]? = some a) (S : Slots G B W σ env) : Slots G B' W' σ env :=
  ⟨S.1, fun i d e => let ⟨v, h1, h2⟩ := S.2 i d e; ⟨v, h1, Rep.move ht hm hr _ _ h2⟩⟩
theorem jts_nil : PTs X [] (tT G E mYes) := ⟨fun pins s σ H Q I ⟨B, W, env, e, R, S, o⟩ => pts_nil.run pins s σ H Q I (by subst e; exact o.ret R)⟩
theorem jts_one {c : Expr} {m : M Bool} (h : PT X c (tT G E m)) : PTs X [c] (tT G E m) := pts_one h
theorem wipe_out2 {σ : L2.St} : ∀ (vs us : List Nat), (∀ i ∈ us, i ∈ vs) → wipe (wipe σ us) vs = wipe σ vs
  | vs, [], _ => rfl
  | vs, u :: us, h => by
    show wipe ((wipe σ us).set u none) vs = _
    rw [wipe_set (h u (by simp)), wipe_out2 vs us fun i hi => h i (by simp [hi])]
/-- where the new list stands: at p, aside from all -/
def LcEnd (G : Cn) (B : Addr → Prop) (W : Wd) (Q : VK) (d : D) (W' : Wd) : Prop := ∀ (p : Addr) (us : List V) (acc : List D), d = .lst acc → W.H p = none → Ext W W' → Rel G (banP B p) W' → W'.H p = some (.lst us) → Reps G (banP B p) W' us acc → (∀ n : Nat, W'.r[n]? ≠ some p) → Q (.ref p) W'.H
theorem lc_core {vs : List Nat} (hK : G.K = X.K) (hsl : ∀ i ∈ t.sl, i ∈ vs) {σ : L2.St} {Q : VK} {B : Addr → Prop} {W : Wd} {env : Sl} (R : Rel G B W) (S : Slots G B W σ env) (o : Out G B W (E σ) (mLc t mi tt te vs env W.st) (LcEnd G B W Q)) : tLc (tI G E mi) (gT X.K t) (tT G e0 tt) (tE G e0 te) vs σ W.H Q := by
  refine ⟨B, W, env, rfl, R, S, o.bind.imp fun src W1 x1 R1 o1 J wk => ?_⟩
  have S1 := S.ext R x1
  intro p hp
  rw [← hK]
  have o1' : Out G B W1 (E σ) (lcGo t tt te src (wipeD env vs) src.items [] W1.st) (LcEnd G B W Q) := o1
  let Nx : Nat → Hp → Prop := fun i H' => i ≤ src.items.length ∧ ∃ (W2 : Wd) (acc : List D) (us : List V), W2.H = H' ∧ Ext W1 W2 ∧ Rel G (banP B p) W2 ∧ W2.H p = some (.lst us) ∧ Reps G (banP B p) W2 us acc ∧ (∀ n : Nat, W2.r[n]? ≠ some p) ∧
    Out G B W1 (E σ) (lcGo t tt te src (wipeD env vs) (src.items.drop i) acc W2.st) (LcEnd G B W Q)
  have out1 : ∀ n : Nat, W1.r[n]? ≠ some p := fun n e => by
    obtain ⟨u, q⟩ := R1.there e
    rw [hp] at q; cases q
  refine ⟨fun i m H' => m = src.items.length - i ∧ Nx i H', ⟨_, rfl, Nat.zero_le _, W1.new p (.lst []), [], [], rfl, Ext.new R1.len hp, R1.aside hp, upd_same, .nil, out1, o1'⟩, ?_⟩
  rintro i m H2 ⟨rfl, hi2, W2, acc, us, rfl, x2, R2, hp2, racc, out2, o2⟩
  obtain ⟨bt, bm, br⟩ := bringM (p := p) R1 hp x2
  by_cases okk : src.okS W2.st
  · obtain ⟨w1, w2⟩ := wk W2 x2 (banP B p) (fun _ h => .inl h) R2 (fun v d r => Rep.move bt bm br d v r) okk
    by_cases hlt : i < src.items.length
    · have ed : src.items.drop i = src.items[i] :: src.items.drop (i + 1) := List.drop_eq_getElem_cons hlt
      rw [ed] at o2
      unfold lcGo at o2
      rw [if_pos okk] at o2
      obtain ⟨hgo, hy⟩ := w1 i _ (List.getElem?_eq_getElem hlt)
      refine .inr ⟨hgo, Nx (i + 1), fun H' n => ⟨_, by omega, rfl, n⟩, fun x H' y => ?_⟩
      obtain ⟨W3, rfl, es, er, mono, x3, R3, r3⟩ := hy x H' y
      cases eb : bindT t src.items[i] (wipeD env vs) with
      | none => rw [eb] at o2; exact o2.elim
      | some env1 =>
        rw [eb] at o2
        simp only at o2
        have S2 : Slots G (banP B p) W2 σ env := S1.move bt bm br
        refine gT_ok R3 t _ _ env1 (wipe σ vs) x _ ((S2.ext R2 x3).wipe vs) r3 eb fun σ3 S3 we => ?_
        refine ⟨(we vs hsl).trans (wipe_out2 vs vs fun _ h => h), banP B p, W3, env1, rfl, R3, S3, ?_⟩
        rw [es]
        have hp3 : W3.H p = some (.lst us) := mono p _ hp2
        have out3 : ∀ n : Nat, W3.r[n]? ≠ some p := fun n => by rw [er]; exact out2 n
        cases q : tt env1 W2.st with
        | ok b s =>
          rw [q] at o2
          cases b with
          | false =>
            intro W4 x4 R4 e4
            show if false = true then _ else _
            rw [if_neg Bool.false_ne_true]
            have hp4 := x4.keep p _ hp3 (notAl_out out3)
            exact ⟨hlt, W4, acc, us, rfl, (x2.trans x3).trans x4, R4, hp4, Reps.ext R3 x4 _ _ (Reps.ext R2 x3 _ _ racc), x4.out hp3 out3, by rw [e4]; exact o2⟩
          | true =>
            intro W4 x4 R4 e4
            show if true = true then _ else _
            rw [if_pos rfl]
            refine ⟨banP B p, W4, env1, rfl, R4, S3.ext R3 x4, ?_⟩
            rw [e4]
            simp only at o2
            cases q2 : te env1 s with
            | ok y s2 =>
              rw [q2] at o2
              simp only at o2
              intro W5 x5 R5 e5 v rv
              have hp4 := x4.keep p _ hp3 (notAl_out out3)
              have out4 := x4.out hp3 out3
              have hp5 := x5.keep p _ hp4 (notAl_out out4)
              have out5 := x5.out hp4 out4
              have racc5 := Reps.ext R4 x5 _ _ (Reps.ext R3 x4 _ _ (Reps.ext R2 x3 _ _ racc))
              by_cases hz : acc.length < sizeLine
              · rw [if_pos hz] at o2
                obtain ⟨gt, gm⟩ := growM (us := us ++ [v]) R5 (.inr rfl) hp5
                refine ⟨us, hp5, by rw [racc.length]; exact hz, hlt, W5.new p (.lst (us ++ [v])), acc ++ [y], us ++ [v], rfl, (((x2.trans x3).trans x4).trans x5).newP hp, R5.growP (.inr rfl) hp5 out5, upd_same, Reps.move gt gm (fun _ _ q => q) _ _ (racc5.append (.cons rv .nil)), out5, ?_⟩
                show Out G B W1 (E σ) (lcGo t tt te src (wipeD env vs) (src.items.drop (i + 1)) (acc ++ [y]) W5.st) _
                rw [e5]
                exact o2
              · rw [if_neg hz] at o2
                exact o2.elim
            | exc e s => rw [q2] at o2; exact o2.elim
            | bad => rw [q2] at o2; exact o2.elim
        | exc e s => rw [q] at o2; exact o2.elim
        | bad => rw [q] at o2; exact o2.elim
    · have e : i = src.items.length := by omega
      subst e
      rw [List.drop_length] at o2
      unfold lcGo at o2
      rw [if_pos okk] at o2
      have hp0 : W.H p = none := by
        cases q : W.H p with
        | none => rfl
        | some u =>
          obtain ⟨u', e'⟩ := x1.dom p u q
          rw [hp] at e'; cases e'
      exact .inl ⟨w2 _ (Nat.le_refl _), o2 W2 x2 R2.unban rfl p us acc rfl hp0 (x1.trans x2) R2 hp2 racc out2⟩
  · exfalso
    cases q : src.items.drop i with
    | nil => rw [q] at o2; unfold lcGo at o2; rw [if_neg okk] at o2; exact o2
    | cons d ds => rw [q] at o2; unfold lcGo at o2; rw [if_neg okk] at o2; exact o2
theorem lc_ok {vs : List Nat} (hK : G.K = X.K) (hsl : ∀ i ∈ t.sl, i ∈ vs) {σ : L2.St} {H : Hp} {Q : VK} (hq : tE G E (mLc t mi tt te vs) σ H Q) : tLc (tI G E mi) (gT X.K t) (tT G e0 tt) (tE G e0 te) vs σ H Q := by
  obtain ⟨B, W, env, e, R, S, o⟩ := hq
  subst e
  refine lc_core hK hsl R S (o.imp fun d W2 x R2' q p us acc ed hp x2 R2 hp2 racc out2 => ?_)
  subst ed
  refine q _ (.lst hp2 (fun z => ?_) racc.unban)
  rcases z with z | z
  · exact R.free hp (.inl z)
  · exact notAl_out out2 z
/-- .. as a cell of its own -/
noncomputable def mLcC (t : Tgt) (mi : M Src) (tt : M Bool) (te : M D) (own : List Nat) : M D := fun env st => (mLc t mi tt te own env st).bind fun d s => match d with
  | .lst acc => .ok (.loc s.length) (s ++ [Cell.lst acc])
  | _ => .bad
theorem lc_okC {vs : List Nat} (hK : G.K = X.K) (hsl : ∀ i ∈ t.sl, i ∈ vs) {σ : L2.St} {H : Hp} {Q : VK} (hq : tE G E (mLcC t mi tt te vs) σ H Q) : tLc (tI G E mi) (gT X.K t) (tT G e0 tt) (tE G e0 te) vs σ H Q := by
  obtain ⟨B, W, env, e, R, S, o⟩ := hq
  subst e
  refine lc_core hK hsl R S ?_
  unfold mLcC at o
  cases z : mLc t mi tt te vs env W.st with
  | exc e s => rw [z] at o; exact o
  | bad => rw [z] at o; exact o.elim
  | ok d s =>
  rw [z] at o
  intro W2 x R2' es p us acc ed hp x2 R2 hp2 racc out2
  subst ed es
  have q : Out G B W (E σ) (.ok (.loc W2.st.length) (W2.st ++ [Cell.lst acc])) (fun d W' => ∀ v, Rep G B W' v d → Q v W'.H) := o
  let W3 : Wd := ⟨W2.r ++ [p], W2.st ++ [Cell.lst acc], W2.H⟩
  have al3 : ∀ a, Al W3 a → Al W2 a ∨ a = p := by
    rintro a ⟨n, c, h1, h2, h3⟩
    by_cases hn : n < W2.r.length
    · have hn2 : n < W2.st.length := by rw [← R2.len]; exact hn
      exact .inl ⟨n, c, (List.getElem?_append_left hn).symm.trans h1, (List.getElem?_append_left hn2).symm.trans h2, h3⟩
    · refine .inr ?_
      have h1' : (W2.r ++ [p])[n]? = some a := h1
      rw [List.getElem?_append_right (by omega)] at h1'
      have := List.mem_of_getElem? h1'
      simpa using this
  have ht : ∀ a o, W2.H a = some o → isCell o = false → W3.H a = some o := fun a o e _ => e
  have hm : ∀ a o, W2.H a = some o → ¬ Mu (banP B p) W2 a → W3.H a = some o ∧ ¬ Mu B W3 a := fun a o e m => ⟨e, fun z => m (by
    rcases z with z | z
    · exact .inl (.inl z)
    · rcases al3 a z with z | z
      · exact .inr z
      · exact .inl (.inr z))⟩
  have hr : ∀ (n : Nat) (a : Addr), W2.r[n]? = some a → W3.r[n]? = some a := fun n a e => (List.getElem?_append_left (List.getElem?_eq_some_iff.mp e).1).trans e
  have racc3 : Reps G B W3 us acc := Reps.move ht hm hr _ _ racc
  have R3 : Rel G B W3 := by
    have l := R2.len
    have old : ∀ (n : Nat) (a : Addr) (c : Cell), W3.r[n]? = some a → W3.st[n]? = some c → (W2.r[n]? = some a ∧ W2.st[n]? = some c) ∨ (a = p ∧ c = Cell.lst acc) := fun n a c h1 h2 => by
      by_cases hn : n < W2.r.length
      · have hn2 : n < W2.st.length := by rw [← l]; exact hn
        exact .inl ⟨(List.getElem?_append_left hn).symm.trans h1, (List.getElem?_append_left hn2).symm.trans h2⟩
      · have h1' : (W2.r ++ [p])[n]? = some a := h1
        have h2' : (W2.st ++ [Cell.lst acc])[n]? = some c := h2
        rw [List.getElem?_append_right (by omega)] at h1'
        rw [List.getElem?_append_right (by omega)] at h2'
        have q1 := List.mem_of_getElem? h1'
        have q2 := List.mem_of_getElem? h2'
        exact .inr ⟨by simpa using q1, by simpa using q2⟩
    refine ⟨by simp [W3, l], ?_, fun a ha => R2.ban a (.inl ha), fun n a c h1 h2 h3 hb => ?_, fun n a c h1 h2 => ?_⟩
    · refine List.nodup_append.mpr ⟨R2.nd, by simp, fun a ha b hb e => ?_⟩
      rw [List.mem_singleton] at hb
      subst hb e
      obtain ⟨n, hn, e⟩ := List.mem_iff_getElem.mp ha
      exact out2 n (by rw [List.getElem?_eq_getElem hn, e])
    · rcases old n a c h1 h2 with ⟨h1, h2⟩ | ⟨e1, e2⟩
      · exact R2.sep n a c h1 h2 h3 (.inl hb)
      · subst e1
        exact R.free hp (.inl hb)
    · rcases old n a c h1 h2 with ⟨h1, h2⟩ | ⟨e1, e2⟩
      · exact (R2.cell n a c h1 h2).move ht hm hr rfl
      · subst e1 e2
        exact ⟨us, hp2, racc3⟩
  have x3 : Ext W W3 := by
    refine ⟨x2.l0, Nat.le_trans x2.len (by simp [W3]), ?_, fun n h => ?_, x2.keep, x2.dom⟩
    · obtain ⟨m, e, hm⟩ := x2.more
      refine ⟨m ++ [p], by simp [W3, e], fun a ha => ?_⟩
      rcases List.mem_append.mp ha with ha | ha
      · exact hm a ha
      · rw [List.mem_singleton] at ha
        subst ha
        exact hp
    · have h2 := x2.dead n h
      exact (List.getElem?_append_left (List.getElem?_eq_some_iff.mp h2).1).trans h2
  exact q W3 x3 R3 rfl _ (.loc (by
    show (W2.r ++ [p])[W2.st.length]? = some p
    rw [← R2.len, List.getElem?_append_right (Nat.le_refl _)]
    simp))
theorem je_lc {scope : Scope} {own : List (Str × Nat)} (hK : G.K = X.K) (hc : X.calm = true) (hN : X.N.Nodup) (hi : PI X tg iter (tI G E mi)) (ok : BlkOk X.N X.env.scope scope own) (hsl : ∀ i ∈ t.sl, i ∈ own.map (·.2))
    (hg : ∀ (s : Shared) (H : Hp) (C : Addr) (cl : List (Str × Addr)) (fp : List Addr), PG (X.blk s H scope (compEnvC scope cl C X.env) fp) tg (gT X.K t))
    (ht : ∀ (s : Shared) (H : Hp) (C : Addr) (cl : List (Str × Addr)) (fp : List Addr), PTs (X.blk s H scope (compEnvC scope cl C X.env) fp) ifs (tT G e0 tt))
    (he : ∀ (s : Shared) (H : Hp) (C : Addr) (cl : List (Str × Addr)) (fp : List Addr), PE (X.blk s H scope (compEnvC scope cl C X.env) fp) elt (tE G e0 te))
    (hs : ∀ x, foldedSetIterable iter X.env x = pure x := by intro _; rfl) : PE X (.ListComp elt [⟨tg, iter, ifs, 0⟩] scope pos) (tE G E (mLc t mi tt te (own.map (·.2)))) :=
  PE.weak (pe_lc hc hN hi ok hg ht he hs) fun _ _ _ h => lc_ok hK hsl h
/-- y = [..], y a plain local -/
theorem js_setLc {XW : WX} {i : Nat} {y : Str} {py spos : Pos} {scope : Scope} {own : List (Str × Nat)} (hK : G.K = X.K) (hc : X.calm = true) (hN : X.N.Nodup) (hy : X.N[i]? = some y) (hyl : X.env.scope.names.lookup y = some .local)
    (hsw : swapsWith (.ListComp elt [⟨tg, iter, ifs, 0⟩] scope pos) (some (.Name y py)) spos.line X.env = pure true) (hi : PI X tg iter (tI G (eX XW) mi)) (ok : BlkOk X.N X.env.scope scope own) (hsl : ∀ i ∈ t.sl, i ∈ own.map (·.2))
    (hg : ∀ (s : Shared) (H : Hp) (C : Addr) (cl : List (Str × Addr)) (fp : List Addr), PG (X.blk s H scope (compEnvC scope cl C X.env) fp) tg (gT X.K t))
    (ht : ∀ (s : Shared) (H : Hp) (C : Addr) (cl : List (Str × Addr)) (fp : List Addr), PTs (X.blk s H scope (compEnvC scope cl C X.env) fp) ifs (tT G e0 tt))
    (he : ∀ (s : Shared) (H : Hp) (C : Addr) (cl : List (Str × Addr)) (fp : List Addr), PE (X.blk s H scope (compEnvC scope cl C X.env) fp) elt (tE G e0 te))
    (hs : ∀ x, foldedSetIterable iter X.env x = pure x := by intro _; rfl) : PS X (.Assign [.Name y py] (.ListComp elt [⟨tg, iter, ifs, 0⟩] scope pos) spos) (tS G XW (sSet i (mLc t mi tt te (own.map (·.2))))) :=
  PS.weak (ps_setLc hc hN hy hyl hsw hi ok hg ht he hs) fun D σ H ⟨B, W, env, e, R, S, o⟩ => by
    subst e
    exact lc_ok hK hsl (sE R S o fun d W1 v x1 R1 S1 r1 o1 => o1.ret R1 _ (S1.set i r1))
theorem je_lcC {scope : Scope} {own : List (Str × Nat)} (hK : G.K = X.K) (hc : X.calm = true) (hN : X.N.Nodup) (hi : PI X tg iter (tI G E mi)) (ok : BlkOk X.N X.env.scope scope own) (hsl : ∀ i ∈ t.sl, i ∈ own.map (·.2))
    (hg : ∀ (s : Shared) (H : Hp) (C : Addr) (cl : List (Str × Addr)) (fp : List Addr), PG (X.blk s H scope (compEnvC scope cl C X.env) fp) tg (gT X.K t))
    (ht : ∀ (s : Shared) (H : Hp) (C : Addr) (cl : List (Str × Addr)) (fp : List Addr), PTs (X.blk s H scope (compEnvC scope cl C X.env) fp) ifs (tT G e0 tt))
    (he : ∀ (s : Shared) (H : Hp) (C : Addr) (cl : List (Str × Addr)) (fp : List Addr), PE (X.blk s H scope (compEnvC scope cl C X.env) fp) elt (tE G e0 te))
    (hs : ∀ x, foldedSetIterable iter X.env x = pure x := by intro _; rfl) : PE X (.ListComp elt [⟨tg, iter, ifs, 0⟩] scope pos) (tE G E (mLcC t mi tt te (own.map (·.2)))) :=
  PE.weak (pe_lc hc hN hi ok hg ht he hs) fun _ _ _ h => lc_okC hK hsl h
theorem js_setLcC {XW : WX} {i : Nat} {y : Str} {py spos : Pos} {scope : Scope} {own : List (Str × Nat)} (hK : G.K = X.K) (hc : X.calm = true) (hN : X.N.Nodup) (hy : X.N[i]? = some y) (hyl : X.env.scope.names.lookup y = some .local)
    (hsw : swapsWith (.ListComp elt [⟨tg, iter, ifs, 0⟩] scope pos) (some (.Name y py)) spos.line X.env = pure true) (hi : PI X tg iter (tI G (eX XW) mi)) (ok : BlkOk X.N X.env.scope scope own) (hsl : ∀ i ∈ t.sl, i ∈ own.map (·.2))
    (hg : ∀ (s : Shared) (H : Hp) (C : Addr) (cl : List (Str × Addr)) (fp : List Addr), PG (X.blk s H scope (compEnvC scope cl C X.env) fp) tg (gT X.K t))
    (ht : ∀ (s : Shared) (H : Hp) (C : Addr) (cl : List (Str × Addr)) (fp : List Addr), PTs (X.blk s H scope (compEnvC scope cl C X.env) fp) ifs (tT G e0 tt))
    (he : ∀ (s : Shared) (H : Hp) (C : Addr) (cl : List (Str × Addr)) (fp : List Addr), PE (X.blk s H scope (compEnvC scope cl C X.env) fp) elt (tE G e0 te))
    (hs : ∀ x, foldedSetIterable iter X.env x = pure x := by intro _; rfl) : PS X (.Assign [.Name y py] (.ListComp elt [⟨tg, iter, ifs, 0⟩] scope pos) spos) (tS G XW (sSet i (mLcC t mi tt te (own.map (·.2))))) :=
  PS.weak (ps_setLc hc hN hy hyl hsw hi ok hg ht he hs) fun D σ H ⟨B, W, env, e, R, S, o⟩ => by
    subst e
    exact lc_okC hK hsl (sE R S o fun d W1 v x1 R1 S1 r1 o1 => o1.ret R1 _ (S1.set i r1))
end
end DL

set_option maxHeartbeats 2000000
/-! DL9: cells that change, built-in functions, isinstance, slices, a def. -/
namespace DL
open PySem PySem.Spec PyProof.Rows L2

/-! ### xs.append(e), xs.pop(i) -/
def listAt (st : Store) : D → Option (Nat × List D)
  | .loc n => match st[n]? with
    | some (.lst xs) => some (n, xs)
    | _ => none
  | _ => none
section
variable {G : Cn} {B : Addr → Prop} {W : Wd}
theorem Rep.listAt {v : V} {d : D} {n : Nat} {xs : List D} (R : Rel G B W) (r : Rep G B W v d) (e : DL.listAt W.st d = some (n, xs)) :
    ∃ a vs, v = .ref a ∧ W.r[n]? = some a ∧ W.st[n]? = some (.lst xs) ∧ W.H a = some (.lst vs) ∧ Reps G B W vs xs := by
  cases r with
  | @loc a m h =>
    cases q : W.st[m]? with
    | none => simp only [DL.listAt, q] at e; cases e
    | some c =>
      cases c with
      | lst ys =>
        simp only [DL.listAt, q] at e
        cases e
        obtain ⟨vs, h1, h2⟩ := R.cell _ a _ h q
        exact ⟨a, vs, rfl, h, q, h1, h2⟩
      | _ => simp only [DL.listAt, q] at e; cases e
  | _ => cases e
theorem lst_ne {xs : List D} : Cell.lst xs ≠ Cell.dead := fun h => by cases h
end
def mApp (mo : M D) (ms : M (List D)) : M D := fun env st => (mo env st).bind fun d s => match listAt s d with
  | some _ => (ms env s).bind fun ds s2 => (match listAt s2 d, ds with
    | some (n, xs), [y] => if xs.length < sizeLine then .ok .non (s2.set n (.lst (xs ++ [y]))) else .bad
    | _, _ => .bad)
  | none => .bad
def mPopAt (mo : M D) (ms : M (List D)) : M D := fun env st => (mo env st).bind fun d s => match listAt s d with
  | some _ => (ms env s).bind fun ds s2 => (match listAt s2 d, ds with
    | some (n, xs), [.int i] => if -(2 ^ 63) ≤ i ∧ i < 2 ^ 63 then (match seqIndex? i xs.length with
      | some k => (match xs[k]? with
        | some y => .ok y (s2.set n (.lst (xs.eraseIdx k)))
        | none => .bad)
      | none => .bad) else .bad
    | _, _ => .bad)
  | none => .bad
section
variable {X : Cx} {G : Cn} {E : ES} {o e : Expr} {es : List Expr} {mo : M D} {ms : M (List D)} {apos cpos : Pos}
theorem app_ok (hK : G.K = X.K) {σ : L2.St} {H : Hp} {Q : VK} (h : tE G E (mApp mo ms) σ H Q) : tBM X.K "list" rAppend (tE G E mo) (tA G E ms) σ H Q := by
  obtain ⟨B, W, env, rfl, R, S, o⟩ := h
  refine tE_of R S o fun d W1 v x1 R1 S1 r1 o1 => ?_
  cases q : listAt W1.st d with
  | none => simp only [q] at o1; exact o1.elim
  | some t =>
    obtain ⟨n1, xs1⟩ := t
    simp only [q] at o1
    obtain ⟨a, vs, rfl, h1, h2, h3, h4⟩ := r1.listAt R1 q
    refine ⟨.inl ⟨rfl, vs, SqL.of h3⟩, tA_of R1 S1 o1 fun ds W2 us x2 R2 S2 r2 o2 => ?_⟩
    have r1' := Rep.ext R1 x2 _ _ r1
    cases q2 : listAt W2.st d with
    | none => simp only [q2] at o2; exact o2.elim
    | some t2 =>
      obtain ⟨n, xs⟩ := t2
      simp only [q2] at o2
      obtain ⟨a', ws, ea, k1, k2, k3, k4⟩ := r1'.listAt R2 q2
      cases ea
      match ds, r2, o2 with
      | [y], .cons (v := u) ry .nil, o2 =>
        simp only at o2
        by_cases c : xs.length < sizeLine
        · rw [if_pos c] at o2
          have t' : Reps G B W2 (ws ++ [u]) (xs ++ [y]) := k4.append (.cons ry .nil)
          exact ⟨a, ws, u, rfl, rfl, k3, by rw [k4.length]; exact c, o2 (W2.put n (.lst (xs ++ [y])) a (.lst (ws ++ [u]))) (Ext.put R2.len k1 k2 lst_ne) (R2.putL k1 k2 lst_ne t') rfl _ .non⟩
        · rw [if_neg c] at o2
          exact o2.elim
theorem je_app (hK : G.K = X.K) (ho : PE X o (tE G E mo)) (ha : PA X (e :: es) (tA G E ms)) (h : PE X (.Call (.Attribute o "append" apos) (e :: es) [] cpos) (tBM X.K "list" rAppend (tE G E mo) (tA G E ms))) : PE X (.Call (.Attribute o "append" apos) (e :: es) [] cpos) (tE G E (mApp mo ms)) :=
  PE.weak h fun _ _ _ q => app_ok hK q
theorem popAt_ok (hK : G.K = X.K) {σ : L2.St} {H : Hp} {Q : VK} (h : tE G E (mPopAt mo ms) σ H Q) : tBM X.K "list" rPopAt (tE G E mo) (tA G E ms) σ H Q := by
  obtain ⟨B, W, env, rfl, R, S, o⟩ := h
  refine tE_of R S o fun d W1 v x1 R1 S1 r1 o1 => ?_
  cases q : listAt W1.st d with
  | none => simp only [q] at o1; exact o1.elim
  | some t =>
    obtain ⟨n1, xs1⟩ := t
    simp only [q] at o1
    obtain ⟨a, vs, rfl, h1, h2, h3, h4⟩ := r1.listAt R1 q
    refine ⟨.inl ⟨rfl, vs, SqL.of h3⟩, tA_of R1 S1 o1 fun ds W2 us x2 R2 S2 r2 o2 => ?_⟩
    have r1' := Rep.ext R1 x2 _ _ r1
    cases q2 : listAt W2.st d with
    | none => simp only [q2] at o2; exact o2.elim
    | some t2 =>
      obtain ⟨n, xs⟩ := t2
      simp only [q2] at o2
      obtain ⟨a', ws, ea, k1, k2, k3, k4⟩ := r1'.listAt R2 q2
      cases ea
      match ds, r2, o2 with
      | [.int i], .cons (.int _) .nil, o2 =>
        simp only at o2
        by_cases c : -(2 ^ 63) ≤ i ∧ i < 2 ^ 63
        · rw [if_pos c] at o2
          cases e3 : seqIndex? i xs.length with
          | none => rw [e3] at o2; exact o2.elim
          | some k =>
            rw [e3] at o2
            simp only at o2
            cases e4 : xs[k]? with
            | none => rw [e4] at o2; exact o2.elim
            | some y =>
              rw [e4] at o2
              obtain ⟨u, e5, ru⟩ := k4.get e4
              have t' := k4.erase k
              have x3 : Ext W2 (W2.put n (.lst (xs.eraseIdx k)) a (.lst (ws.eraseIdx k))) := Ext.put R2.len k1 k2 lst_ne
              exact ⟨a, ws, i, k, u, rfl, rfl, k3, c.1, c.2, by rw [k4.length]; exact e3, e5, o2 _ x3 (R2.putL k1 k2 lst_ne t') rfl _ (Rep.ext R2 x3 _ _ ru)⟩
        · rw [if_neg c] at o2
          exact o2.elim
theorem je_popAt (hK : G.K = X.K) (h : PE X (.Call (.Attribute o "pop" apos) (e :: es) [] cpos) (tBM X.K "list" rPopAt (tE G E mo) (tA G E ms))) : PE X (.Call (.Attribute o "pop" apos) (e :: es) [] cpos) (tE G E (mPopAt mo ms)) :=
  PE.weak h fun _ _ _ q => popAt_ok hK q
end
/-! ### xs[i] = e; o.f = e -/
def sSub (mo mi mv : M D) : SM := fun env st => lift (mv env st) env fun d s1 => lift (mo env s1) env fun x s2 => lift (mi env s2) env fun i s3 => match listAt s3 x, i with
  | some (n, xs), .int k => (match ixN xs.length k with
    | some j => .ok (.nx env) (s3.set n (.lst (xs.set j d)))
    | none => .bad)
  | _, _ => .bad
def putN (f : Str) (d : D) : List Str → List D → List Str × List D
  | g :: ns, x :: vs => if g = f then (g :: ns, d :: vs) else (g :: (putN f d ns vs).1, x :: (putN f d ns vs).2)
  | _, _ => ([f], [d])
def sFld (c f : Str) (mo mv : M D) : SM := fun env st => lift (mv env st) env fun d s1 => lift (mo env s1) env fun x s2 => match x with
  | .loc n => (match s2[n]? with
    | some (.ins c' ns vs) => if c' = c ∧ ns.length < 1000 then .ok (.nx env) (s2.set n (.ins c (putN f d ns vs).1 (putN f d ns vs).2)) else .bad
    | _ => .bad)
  | _ => .bad
section
variable {G : Cn} {B : Addr → Prop} {W : Wd}
theorem Reps.putF {f : Str} {d : D} {v : V} (r : Rep G B W v d) : ∀ {fs : List (Str × V)} {vs : List D}, Reps G B W (fs.map (·.2)) vs → (L2.putF f v fs).map (·.1) = (putN f d (fs.map (·.1)) vs).1 ∧ Reps G B W ((L2.putF f v fs).map (·.2)) (putN f d (fs.map (·.1)) vs).2
  | [], _, .nil => ⟨rfl, .cons r .nil⟩
  | (g, x) :: fs, _, h => by
    cases h with
    | cons h t =>
      obtain ⟨i1, i2⟩ := Reps.putF (f := f) r t
      simp only [L2.putF, List.map_cons, putN]
      by_cases c : g = f
      · simp only [if_pos c, List.map_cons]
        exact ⟨trivial, .cons r t⟩
      · simp only [if_neg c, List.map_cons]
        exact ⟨by rw [i1], .cons h i2⟩
end
section
variable {X : Cx} {G : Cn} {XW : WX} {o i e : Expr} {mo mi mv : M D} {pos pos' : Pos}
theorem js_sub (hK : G.K = X.K) (h : PS X (.Assign [.Subscript o i pos'] e pos) (tAsg (tE G (eX XW) mv) (gSub (tE G (eX XW) mo) (tE G (eX XW) mi) rSetL))) : PS X (.Assign [.Subscript o i pos'] e pos) (tS G XW (sSub mo mi mv)) := PS.weak h fun D σ H ⟨B, W, env, e, R, S, o⟩ => by
  subst e
  refine sE R S o fun d W1 v x1 R1 S1 r1 o1 => ?_
  refine sE R1 S1 o1 fun x W2 xv x2 R2 S2 r2 o2 => ?_
  refine sE (Q := fun iv H2 => rSetL xv iv v H2 fun H3 => D.nx σ H3) R2 S2 o2 fun j W3 jv x3 R3 S3 r3 o3 => ?_
  have r1' := Rep.ext R2 x3 _ _ (Rep.ext R1 x2 _ _ r1)
  have r2' := Rep.ext R2 x3 _ _ r2
  cases q : listAt W3.st x with
  | none => simp only [q] at o3; exact o3.elim
  | some t =>
    obtain ⟨n, xs⟩ := t
    cases j with
    | int k =>
      simp only [q] at o3
      cases r3
      obtain ⟨a, vs, rfl, h1, h2, h3, h4⟩ := r2'.listAt R3 q
      cases e : ixN xs.length k with
      | none => rw [e] at o3; exact o3.elim
      | some jj =>
        rw [e] at o3
        have t' := h4.set r1' jj
        have x4 : Ext W3 (W3.put n (.lst (xs.set jj d)) a (.lst (vs.set jj v))) := Ext.put R3.len h1 h2 lst_ne
        exact ⟨a, vs, k, jj, rfl, rfl, h3, by rw [h4.length]; exact e, o3 _ x4 (R3.putL h1 h2 lst_ne t') rfl σ (S3.ext R3 x4)⟩
    | _ => simp only [q] at o3; exact o3.elim
theorem js_fld {c f : Str} (hK : G.K = X.K) (hc : Cls G.K (G.cl c)) (hn : NoAttr G.K (G.cl c) f) (h : PS X (.Assign [.Attribute o f pos'] e pos) (L2.sFld X.K (tE G (eX XW) mo) (tE G (eX XW) mv) f)) : PS X (.Assign [.Attribute o f pos'] e pos) (tS G XW (sFld c f mo mv)) := PS.weak h fun D σ H ⟨B, W, env, e, R, S, o⟩ => by
  subst e
  refine sE R S o fun d W1 v x1 R1 S1 r1 o1 => ?_
  refine sE (Q := fun x H2 => ∃ a C dx fs, x = .ref a ∧ H2 a = some (.ins C dx fs) ∧ Cls X.K C ∧ NoAttr X.K C f ∧ fs.length < 1000 ∧ D.nx σ (upd H2 a (.ins C dx (L2.putF f v fs)))) R1 S1 o1 fun x W2 xv x2 R2 S2 r2 o2 => ?_
  have r1' := Rep.ext R1 x2 _ _ r1
  cases x with
  | loc n =>
    cases r2 with
    | @loc a _ hr =>
      simp only at o2
      cases q : W2.st[n]? with
      | none => simp only [q] at o2; exact o2.elim
      | some cc =>
        cases cc with
        | ins c' ns vs =>
          simp only [q] at o2
          by_cases hcc : c' = c ∧ ns.length < 1000
          · rw [if_pos hcc] at o2
            obtain ⟨e1, hl⟩ := hcc
            subst e1
            obtain ⟨dx, fs, h1, h2, h3⟩ := R2.cell n a _ hr q
            subst h2
            obtain ⟨p1, p2⟩ := Reps.putF (f := f) r1' h3
            have nd : Cell.ins c' (fs.map (·.1)) vs ≠ Cell.dead := fun z => by cases z
            have x3 : Ext W2 (W2.put n (.ins c' (putN f d (fs.map (·.1)) vs).1 (putN f d (fs.map (·.1)) vs).2) a (.ins (G.cl c') dx (L2.putF f v fs))) := Ext.put R2.len hr q nd
            have R3 := R2.put (c' := .ins c' (putN f d (fs.map (·.1)) vs).1 (putN f d (fs.map (·.1)) vs).2) (o := .ins (G.cl c') dx (L2.putF f v fs)) hr q nd ⟨dx, _, upd_same, p1, Reps.ext R2 x3 _ _ p2⟩
            exact ⟨a, _, dx, fs, rfl, h1, by rw [← hK]; exact hc, by rw [← hK]; exact hn, by simpa using hl, o2 _ x3 R3 rfl σ (S2.ext R2 x3)⟩
          · rw [if_neg hcc] at o2
            exact o2.elim
        | _ => simp only [q] at o2; exact o2.elim
  | _ => exact o2.elim
end
/-! ### built-in functions -/
def fLen : Fn := fun ds st => match ds with
  | [.str x] => if x.length ≤ sizeLine then .ok (.int x.length) st else .bad
  | [d] => (match asS st d with
    | some xs => .ok (.int xs.length) st
    | none => .bad)
  | _ => .bad
def fAbs : Fn := fun ds st => match ds with
  | [.int i] => .ok (.int (if i < 0 then -i else i)) st
  | _ => .bad
def fInt : Fn := fun ds st => match ds with
  | [.int i] => .ok (.int i) st
  | [.bl b] => .ok (.int (if b then 1 else 0)) st
  | _ => .bad
def fMax2 : Fn := fun ds st => match ds with
  | [.int i, .int j] => .ok (.int (if j > i then j else i)) st
  | _ => .bad
def fMin2 : Fn := fun ds st => match ds with
  | [.int i, .int j] => .ok (.int (if j < i then j else i)) st
  | _ => .bad
/-- the ints of a list, its bools -/
def toInts : List D → Option (List Int)
  | [] => some []
  | .int i :: ds => (toInts ds).map (i :: ·)
  | _ :: _ => none
def toBls : List D → Option (List Bool)
  | [] => some []
  | .bl b :: ds => (toBls ds).map (b :: ·)
  | _ :: _ => none
section
variable {G : Cn} {B : Addr → Prop} {W : Wd}
theorem Reps.toInts : ∀ {vs : List V} {ds : List D} {ns : List Int}, Reps G B W vs ds → DL.toInts ds = some ns → vs = ns.map V.int
  | _, _, _, .nil, e => by cases e; rfl
  | _, _, _, .cons (d := .int i) h t, e => by
    cases h
    obtain ⟨ms, e1, e2⟩ := Option.map_eq_some_iff.mp e
    subst e2
    rw [List.map_cons, Reps.toInts t e1]
  | _, _, _, .cons (d := .non) _ _, e => by cases e
  | _, _, _, .cons (d := .bl _) _ _, e => by cases e
  | _, _, _, .cons (d := .str _) _ _, e => by cases e
  | _, _, _, .cons (d := .tup _) _ _, e => by cases e
  | _, _, _, .cons (d := .lst _) _ _, e => by cases e
  | _, _, _, .cons (d := .fro _) _ _, e => by cases e
  | _, _, _, .cons (d := .dct _ _) _ _, e => by cases e
  | _, _, _, .cons (d := .obj _ _ _) _ _, e => by cases e
  | _, _, _, .cons (d := .loc _) _ _, e => by cases e
  | _, _, _, .cons (d := .exn _ _ _) _ _, e => by cases e
theorem Reps.toBls : ∀ {vs : List V} {ds : List D} {ns : List Bool}, Reps G B W vs ds → DL.toBls ds = some ns → vs = ns.map V.bl
  | _, _, _, .nil, e => by cases e; rfl
  | _, _, _, .cons (d := .bl i) h t, e => by
    cases h
    obtain ⟨ms, e1, e2⟩ := Option.map_eq_some_iff.mp e
    subst e2
    rw [List.map_cons, Reps.toBls t e1]
  | _, _, _, .cons (d := .non) _ _, e => by cases e
  | _, _, _, .cons (d := .int _) _ _, e => by cases e
  | _, _, _, .cons (d := .str _) _ _, e => by cases e
  | _, _, _, .cons (d := .tup _) _ _, e => by cases e
  | _, _, _, .cons (d := .lst _) _ _, e => by cases e
  | _, _, _, .cons (d := .fro _) _ _, e => by cases e
  | _, _, _, .cons (d := .dct _ _) _ _, e => by cases e
  | _, _, _, .cons (d := .obj _ _ _) _ _, e => by cases e
  | _, _, _, .cons (d := .loc _) _ _, e => by cases e
  | _, _, _, .cons (d := .exn _ _ _) _ _, e => by cases e
theorem cs_abs : CallS G (fun xs H Q => ∃ i, xs = [.int i] ∧ Q (.int (if i < 0 then -i else i)) H) fAbs := by
  intro B W E ds vs Q R r o
  match ds, r, o with
  | [.int i], .cons (.int _) .nil, o => exact ⟨i, rfl, o.ret R _ (.int _)⟩
theorem cs_int : CallS G (fun xs H Q => (∃ i, xs = [.int i] ∧ Q (.int i) H) ∨ ∃ k, xs = [.bl k] ∧ Q (.int (if k then 1 else 0)) H) fInt := by
  intro B W E ds vs Q R r o
  match ds, r, o with
  | [.int i], .cons (.int _) .nil, o => exact .inl ⟨i, rfl, o.ret R _ (.int _)⟩
  | [.bl i], .cons (.bl _) .nil, o => exact .inr ⟨i, rfl, o.ret R _ (.int _)⟩
theorem cs_max2 : CallS G (fun xs H Q => ∃ i j, xs = [.int i, .int j] ∧ Q (.int (if j > i then j else i)) H) fMax2 := by
  intro B W E ds vs Q R r o
  match ds, r, o with
  | [.int i, .int j], .cons (.int _) (.cons (.int _) .nil), o => exact ⟨i, j, rfl, o.ret R _ (.int _)⟩
theorem cs_min2 : CallS G (fun xs H Q => ∃ i j, xs = [.int i, .int j] ∧ Q (.int (if j < i then j else i)) H) fMin2 := by
  intro B W E ds vs Q R r o
  match ds, r, o with
  | [.int i, .int j], .cons (.int _) (.cons (.int _) .nil), o => exact ⟨i, j, rfl, o.ret R _ (.int _)⟩
theorem cs_len : CallS G (fun xs H Q => ∃ x n, xs = [x] ∧ LenV G.K x H n ∧ Q (.int n) H) fLen := by
  intro B W E ds vs Q R r o
  have seq : ∀ {d : D} {v : V}, Rep G B W v d → Out G B W E (match asS W.st d with
    | some xs => .ok (.int xs.length) W.st
    | none => .bad) (fun d W' => ∀ z, Rep G B W' z d → Q z W'.H) → ∃ x n, [v] = [x] ∧ LenV G.K x W.H n ∧ Q (.int n) W.H := fun {d v} r o => by
    cases e : asS W.st d with
    | none => rw [e] at o; exact o.elim
    | some xs =>
      rw [e] at o
      obtain ⟨a, us, rfl, h, t⟩ := r.asS R e
      refine ⟨_, xs.length, rfl, ?_, o.ret R _ (.int _)⟩
      rcases h with h | h
      · exact .inl ⟨us, h, t.length.symm⟩
      · exact .inr ⟨us, h, t.length.symm⟩
  match ds, r, o with
  | [], _, o => exact o.elim
  | _ :: _ :: _, _, o =>
    rename_i d1 d2 ds' _
    cases d1 <;> exact o.elim
  | [d], .cons h .nil, o =>
    cases d with
    | str x =>
      cases h
      simp only [fLen] at o
      by_cases c : x.length ≤ sizeLine
      · rw [if_pos c] at o
        exact ⟨_, x.length, rfl, ⟨c, rfl⟩, o.ret R _ (.int _)⟩
      · rw [if_neg c] at o
        exact o.elim
    | _ => exact seq h o
/-- over a list -/
def fL (g : List D → Store → R D) : Fn := fun ds st => match ds with
  | [d] => (match asL st d with
    | some xs => g xs st
    | none => .bad)
  | _ => .bad
def gSum (xs : List D) (st : Store) : R D := match toInts xs with
  | some ns => .ok (.int ns.sum) st
  | none => .bad
def gAll (xs : List D) (st : Store) : R D := match toBls xs with
  | some ns => .ok (.bl (ns.all id)) st
  | none => .bad
def gAny (xs : List D) (st : Store) : R D := match toBls xs with
  | some ns => .ok (.bl (ns.any id)) st
  | none => .bad
theorem fL_inv {B : Addr → Prop} {W : Wd} {E : XK} {g : List D → Store → DL.R D} {ds : List D} {vs : List V} {Q : D → Wd → Prop} (R : Rel G B W) (r : Reps G B W vs ds) (o : Out G B W E (fL g ds W.st) Q) :
    ∃ a us xs, vs = [.ref a] ∧ SqL G.K W.H a us ∧ Reps G B W us xs ∧ Out G B W E (g xs W.st) Q := by
  match ds, r, o with
  | [], _, o => exact o.elim
  | _ :: _ :: _, _, o => exact o.elim
  | [d], .cons h .nil, o =>
    simp only [fL] at o
    cases e : asL W.st d with
    | none => rw [e] at o; exact o.elim
    | some xs =>
      rw [e] at o
      obtain ⟨a, us, rfl, h1, t⟩ := h.asL R e
      exact ⟨a, us, xs, rfl, h1, t, o⟩
theorem cs_sum : CallS G (rSum G.K) (fL gSum) := by
  intro B W E ds vs Q R r o
  obtain ⟨a, us, xs, rfl, h1, t, o⟩ := fL_inv R r o
  unfold gSum at o
  cases e : toInts xs with
  | none => rw [e] at o; exact o.elim
  | some ns =>
    rw [e] at o
    exact ⟨a, ns, rfl, by rw [← t.toInts e]; exact h1, o.ret R _ (.int _)⟩
theorem cs_all : CallS G (rAll G.K) (fL gAll) := by
  intro B W E ds vs Q R r o
  obtain ⟨a, us, xs, rfl, h1, t, o⟩ := fL_inv R r o
  unfold gAll at o
  cases e : toBls xs with
  | none => rw [e] at o; exact o.elim
  | some ns =>
    rw [e] at o
    exact ⟨a, ns, rfl, by rw [← t.toBls e]; exact h1, o.ret R _ (.bl _)⟩
theorem cs_any : CallS G (rAny G.K) (fL gAny) := by
  intro B W E ds vs Q R r o
  obtain ⟨a, us, xs, rfl, h1, t, o⟩ := fL_inv R r o
  unfold gAny at o
  cases e : toBls xs with
  | none => rw [e] at o; exact o.elim
  | some ns =>
    rw [e] at o
    exact ⟨a, ns, rfl, by rw [← t.toBls e]; exact h1, o.ret R _ (.bl _)⟩
/-- tuple(xs), list(xs) -/
def fTup : Fn := fun ds st => match ds with
  | [d] => (match asS st d with
    | some xs => .ok (.tup xs) st
    | none => .bad)
  | _ => .bad
def fList : Fn := fun ds st => match ds with
  | [d] => (match asS st d with
    | some xs => .ok (.lst xs) st
    | none => .bad)
  | _ => .bad
/-- a list that will change -/
def fListC : Fn := fun ds st => match ds with
  | [d] => (match asS st d with
    | some xs => .ok (.loc st.length) (st ++ [Cell.lst xs])
    | none => .bad)
  | _ => .bad
theorem cs_tup : CallS G (fun xs H Q => ∃ p ys, xs = [.ref p] ∧ ((SqL G.K H p ys ∧ ∀ l, H l = none → Q (.ref l) (upd H l (.tup ys))) ∨ (SqT G.K H p ys ∧ Q (.ref p) H))) fTup := by
  intro B W E ds vs Q R r o
  match ds, r, o with
  | [], _, o => exact o.elim
  | _ :: _ :: _, _, o => exact o.elim
  | [d], .cons h .nil, o =>
    simp only [fTup] at o
    cases e : asS W.st d with
    | none => rw [e] at o; exact o.elim
    | some xs =>
      rw [e] at o
      obtain ⟨a, us, rfl, h1, t⟩ := h.asS R e
      refine ⟨a, us, rfl, ?_⟩
      rcases h1 with h1 | h1
      · exact .inl ⟨h1, fun l hl => o.tupN R hl us _ (.newT R hl t)⟩
      · exact .inr ⟨h1, o.ret R _ (.tup h1 t)⟩
theorem cs_list : CallS G (fun xs H Q => ∃ p ys, xs = [.ref p] ∧ (SqL G.K H p ys ∨ SqT G.K H p ys) ∧ ∀ l, H l = none → Q (.ref l) (upd H l (.lst ys))) fList := by
  intro B W E ds vs Q R r o
  match ds, r, o with
  | [], _, o => exact o.elim
  | _ :: _ :: _, _, o => exact o.elim
  | [d], .cons h .nil, o =>
    simp only [fList] at o
    cases e : asS W.st d with
    | none => rw [e] at o; exact o.elim
    | some xs =>
      rw [e] at o
      obtain ⟨a, us, rfl, h1, t⟩ := h.asS R e
      exact ⟨a, us, rfl, h1, fun l hl => o.lstN R hl us _ (.newL R hl t)⟩
theorem cs_listC : CallS G (fun xs H Q => ∃ p ys, xs = [.ref p] ∧ (SqL G.K H p ys ∨ SqT G.K H p ys) ∧ ∀ l, H l = none → Q (.ref l) (upd H l (.lst ys))) fListC := by
  intro B W E ds vs Q R r o
  match ds, r, o with
  | [], _, o => exact o.elim
  | _ :: _ :: _, _, o => exact o.elim
  | [d], .cons h .nil, o =>
    simp only [fListC] at o
    cases e : asS W.st d with
    | none => rw [e] at o; exact o.elim
    | some xs =>
      rw [e] at o
      obtain ⟨a, us, rfl, h1, t⟩ := h.asS R e
      exact ⟨a, us, rfl, h1, fun l hl => o (W.grow l (.lst xs) (.lst us)) (Ext.grow R.len hl) (R.growL hl t) rfl _ (.grown R.len)⟩
end
/-! ### slices -/
def mPart : Option (M D) → M (Option Int)
  | none => fun _ st => .ok none st
  | some m => fun env st => (m env st).bind fun d s => match d with
    | .int i => .ok (some i) s
    | _ => .bad
def cutD (xs : List D) (lo hi : Option Int) : List D := (xs.drop (HT.sIx xs.length 0 lo)).take (HT.sIx xs.length xs.length hi - HT.sIx xs.length 0 lo)
def mSl (mo : M D) (lo hi : Option (M D)) : M D := fun env st => (mo env st).bind fun d s => (mPart lo env s).bind fun l s2 => (mPart hi env s2).bind fun u s3 => match d with
  | .tup xs => .ok (.tup (cutD xs l u)) s3
  | d => (match asL s3 d with
    | some xs => .ok (.lst (cutD xs l u)) s3
    | none => .bad)
def tO (G : Cn) (E : ES) (m : M (Option Int)) : TO := fun σ H Q => ∃ B W env, W.H = H ∧ Rel G B W ∧ Slots G B W σ env ∧ Out G B W (E σ) (m env W.st) fun o W' => Q o W'.H
section
variable {X : Cx} {G : Cn} {E : ES} {e : Expr} {m : M D}
theorem PO.weak {e : Option Expr} {t t' : TO} (h : PO X e t) (i : ∀ σ H Q, t' σ H Q → t σ H Q) : PO X e t' := ⟨fun pins s σ H Q I q => h.run pins s σ H Q I (i σ H Q q)⟩
theorem jo_none : PO X none (tO G E (mPart none)) := PO.weak po_none fun _ _ _ ⟨_, _, _, e, R, _, o⟩ => by subst e; exact o.ret R
theorem jo_some (h : PE X e (tE G E m)) : PO X (some e) (tO G E (mPart (some m))) := PO.weak (po_some h) fun σ H Q ⟨B, W, env, e, R, S, o⟩ => by
  subst e
  refine tE_of R S o fun d W1 v x1 R1 S1 r1 o1 => ?_
  cases d with
  | int i => cases r1; exact ⟨i, rfl, o1.ret R1⟩
  | _ => exact o1.elim
theorem cut_reps {B : Addr → Prop} {W : Wd} {vs : List V} {ds : List D} {lo hi : Option Int} (t : Reps G B W vs ds) : Reps G B W (cutV vs lo hi) (cutD ds lo hi) := by
  unfold cutV cutD
  rw [t.length]
  exact (t.drop _).take _
theorem cutV_whole {xs : List V} {lo hi : Option Int} (h : HT.sIx xs.length 0 lo = 0 ∧ HT.sIx xs.length xs.length hi = xs.length) : cutV xs lo hi = xs := by
  unfold cutV
  rw [h.1, h.2]
  simp
def rSlB (K : PySem.W.Frag) : V → Option Int → Option Int → Hp → VK → Prop := fun x lo hi H Q => rSlA K x lo hi H Q ∨ rSlL K x lo hi H Q
theorem je_sl {lo hi : Option Expr} {ml mh : Option (M D)} {p2 pos : Pos} (hK : G.K = X.K) (he : PE X e (tE G E m)) (hl : PO X lo (tO G E (mPart ml))) (hu : PO X hi (tO G E (mPart mh))) : PE X (.Subscript e (.Slice lo hi none p2) pos) (tE G E (mSl m ml mh)) := by
  refine PE.weak (pe_slice (r := rSlB X.K) (sl_tupA.or sl_list) he hl hu) fun σ H Q ⟨B, W, env, e, R, S, o⟩ => ?_
  subst e
  refine tE_of R S o fun d W1 v x1 R1 S1 r1 o1 => ?_
  refine ⟨B, W1, env, rfl, R1, S1, o1.bind.imp fun l W2 x2 R2 o2 => ?_⟩
  refine ⟨B, W2, env, rfl, R2, S1.ext R1 x2, o2.bind.imp fun u W3 x3 R3 o3 => ?_⟩
  have r3 := Rep.ext R2 x3 _ _ (Rep.ext R1 x2 _ _ r1)
  rw [← hK]
  have lst : Out G B W3 (E σ) (match asL W3.st d with
    | some xs => .ok (.lst (cutD xs l u)) W3.st
    | none => .bad) (fun d W' => ∀ v, Rep G B W' v d → Q v W'.H) → rSlB G.K v l u W3.H Q := fun o3 => by
    cases e : asL W3.st d with
    | none => rw [e] at o3; exact o3.elim
    | some xs =>
      rw [e] at o3
      obtain ⟨a, us, rfl, h1, t⟩ := r3.asL R3 e
      exact .inr ⟨a, us, rfl, h1, fun p hp => o3.lstN R3 hp _ _ (.newL R3 hp (cut_reps t))⟩
  cases d with
  | tup xs =>
    cases r3 with
    | @tup a us _ h t =>
      have t' := cut_reps (lo := l) (hi := u) t
      refine .inl ⟨a, us, rfl, h, fun hw => ?_, fun _ p hp => o3.tupN R3 hp _ _ (.newT R3 hp t')⟩
      rw [cutV_whole hw] at t'
      exact o3.ret R3 _ (.tup h t')
  | _ => exact lst o3
end
/-! ### a def -/
def fnB (n nn : Nat) (m : SM) : Fn := fun ds st => if ds.length = n then (match m (ds.map some ++ List.replicate (nn - n) none) st with
  | .ok (.nx _) s => .ok .non s
  | .ok (.rt d) s => .ok d s
  | .ok (.xc e _) s => .exc e s
  | _ => .bad) else .bad
theorem Slots.start {G : Cn} {B : Addr → Prop} {W : Wd} {N : List Str} {vs : List V} {ds : List D} (r : Reps G B W vs ds) : Slots G B W (start N vs) (ds.map some ++ List.replicate (N.length - ds.length) none) := by
  have l := r.length
  refine ⟨by simp [L2.start, l], fun i d e => ?_⟩
  by_cases hi : i < ds.length
  · rw [List.getElem?_append_left (by simpa using hi), List.getElem?_map] at e
    obtain ⟨d', e1, e2⟩ := Option.map_eq_some_iff.mp e
    cases e2
    obtain ⟨v, h1, h2⟩ := r.get e1
    exact ⟨v, by unfold L2.start; rw [List.getElem?_append_left (by simpa [l] using hi), List.getElem?_map, h1]; rfl, h2⟩
  · rw [List.getElem?_append_right (by simpa using hi)] at e
    have := List.mem_of_getElem? e
    rw [List.mem_replicate] at this
    cases this.2
theorem fn_def {G : Cn} {P : Program} {w : World} {mg : Str → Option Value} {base : Heap} {x qual : Str} {st : Stmt} {f : Addr} {fd : FuncData} {N ps : List Str} {k : Nat} {m : SM} (F : Fun G.K x qual st f fd) (S : FnScope N ps (defScope st))
    (body : ∀ (cdv : Value) (A : Around) (outer : List Env) (s : Shared) (H : Hp) (E : XK), Rm k (A.deeper (envOfC qual (defScope st) s.heap.objs.size f cdv)) →
      PSs (cxOf (L2.CX P w) P w G.K mg base N qual (defScope st) f cdv A outer s H E) (defBody st) (tS G (fun cls d _ H => E cls d H) m)) : FnG P w G.K mg base (k + 1) f fd ps (spOf G ps.length (fnB ps.length N.length m)) := by
  refine fng_of F S (fun vs H Q E h => h.1) fun cdv A outer s H vs Q E rm h => ⟨_, body cdv A outer s H E rm, ?_⟩
  obtain ⟨hl, B, W, ds, rfl, R, rv, o⟩ := h
  have hd : ds.length = ps.length := rv.length.symm.trans hl
  refine ⟨B, W, _, rfl, R, Slots.start (N := N) rv, ?_⟩
  rw [hd]
  unfold fnB at o
  rw [if_pos hd] at o
  cases q : m (ds.map some ++ List.replicate (N.length - ps.length) none) W.st with
  | ok fl s1 =>
    rw [q] at o
    cases fl with
    | nx env => exact fun W' x R' e σ _ => o W' x R' e _ .non
    | rt d => exact fun W' x R' e v rv => o W' x R' e v rv
    | bk env => exact o.elim
    | ct env => exact o.elim
    | xc e env => exact fun W' x R' e' σ cls dd _ rx => o cls dd W' x R' e' rx
  | exc e s1 => rw [q] at o; exact o.elim
  | bad => rw [q] at o; exact o.elim
end DL

set_option maxHeartbeats 2000000
/-! DLA: isinstance; sum of lists and tuples; what an except suite holds. -/
namespace DL
open PySem PySem.Spec PyProof.Rows L2

/-- classes, as data know them: of the language, of the text, errors of the text -/
inductive Kd where
  | ty (n : String) | own (c : Str) | err (c : Str)
deriving DecidableEq
def Kd.val (G : Cn) : Kd → Value
  | .ty n => .type n
  | .own c => .ref (G.cl c)
  | .err c => .ref (G.cl c)
def Kd.v (G : Cn) : Kd → V
  | .ty n => .ty n
  | .own c => .ref (G.cl c)
  | .err c => .ref (G.cl c)
def kd (st : Store) : D → Option Kd
  | .non => some (.ty "NoneType")
  | .bl _ => some (.ty "bool")
  | .int _ => some (.ty "int")
  | .str _ => some (.ty "str")
  | .tup _ => some (.ty "tuple")
  | .lst _ => some (.ty "list")
  | .fro _ => some (.ty "list")
  | .dct _ _ => some (.ty "dict")
  | .obj c _ _ => some (.own c)
  | .exn c _ _ => some (.err c)
  | .loc n => match st[n]? with
    | some (.lst _) => some (.ty "list")
    | some (.dct _ _) => some (.ty "dict")
    | some (.ins c _ _) => some (.own c)
    | _ => none
abbrev Isa := Kd → Kd → Option Bool
/-- what isinstance asks of a class of the text -/
structure IsaC (K : PySem.W.Frag) (C : Addr) : Prop where
  cl : Cls K C
  ha : PySem.W.findIn K (.ref C) "__class__" = some (some (.builtin "object.__class__"))
  hn : PySem.W.specialIn K (.builtin "object.__class__") "__get__" = some (some (.builtin "getset_descriptor.__get__"))
  ht : PySem.W.takesIn K (.builtin "object.__class__") = some true
  hm : PySem.W.mroIn K C (.type "object") = some true
structure IsaX (K : PySem.W.Frag) (C : Addr) : Prop where
  hc : (PySem.W.clsIn K C).isSome = true
  hg : PySem.W.findIn K (.ref C) "__getattribute__" = some (some (.builtin "BaseException.__getattribute__"))
  hk : PySem.W.findIn K (.ref C) "__getattr__" = some none
  hs : PySem.W.subIn K (.ref C) (.type "BaseException") = some true
  ha : PySem.W.findIn K (.ref C) "__class__" = some (some (.builtin "object.__class__"))
  hn : PySem.W.specialIn K (.builtin "object.__class__") "__get__" = some (some (.builtin "getset_descriptor.__get__"))
  ht : PySem.W.takesIn K (.builtin "object.__class__") = some true
  hm : PySem.W.mroIn K C (.type "object") = some true
structure IsaOk (G : Cn) (isa : Isa) : Prop where
  one : ∀ a b r, isa a b = some r → PySem.W.kitOne G.K (a.val G) (b.val G) = some r
  own : ∀ c b r, isa (.own c) b = some r → IsaC G.K (G.cl c)
  err : ∀ c b r, isa (.err c) b = some r → IsaX G.K (G.cl c)
def isaAny (isa : Isa) (k : Kd) : List Kd → Option Bool
  | [] => some false
  | c :: cs => match isa k c with
    | some true => some true
    | some false => isaAny isa k cs
    | none => none
theorem IsaOk.any {G : Cn} {isa : Isa} (h : IsaOk G isa) {k : Kd} : ∀ {cs : List Kd} {b : Bool}, isaAny isa k cs = some b → PySem.W.kitAny G.K (k.val G) (cs.map fun c => c.val G) = some b
  | [], _, e => e
  | c :: cs, b, e => by
    unfold isaAny at e
    cases q : isa k c with
    | none => rw [q] at e; cases e
    | some r =>
      have z := h.one _ _ _ q
      rw [q] at e
      show (match PySem.W.kitOne G.K (k.val G) (c.val G) with
        | some true => some true
        | some false => PySem.W.kitAny G.K (k.val G) (cs.map fun c => c.val G)
        | none => none) = some b
      rw [z]
      cases r with
      | true => exact e
      | false => exact h.any e
theorem Kd.clsV (G : Cn) : ∀ k : Kd, ClsV (k.v G) (k.val G)
  | .ty n => .ty n
  | .own c => .own _
  | .err c => .own _
theorem Kd.clsVs (G : Cn) : ∀ ks : List Kd, Paired ClsV (ks.map fun k => k.v G) (ks.map fun k => k.val G)
  | [] => .nil
  | k :: ks => .cons (Kd.clsV G k) (Kd.clsVs G ks)
/-- what isaAny's some tells of the kind itself -/
theorem isaAny_own {G : Cn} {isa : Isa} (h : IsaOk G isa) {c : Str} {ks : List Kd} {b : Bool} (hk : ks ≠ []) (e : isaAny isa (.own c) ks = some b) : IsaC G.K (G.cl c) := by
  cases ks with
  | nil => exact (hk rfl).elim
  | cons k ks =>
    unfold isaAny at e
    cases q : isa (.own c) k with
    | none => rw [q] at e; cases e
    | some r => exact h.own _ _ _ q
theorem isaAny_err {G : Cn} {isa : Isa} (h : IsaOk G isa) {c : Str} {ks : List Kd} {b : Bool} (hk : ks ≠ []) (e : isaAny isa (.err c) ks = some b) : IsaX G.K (G.cl c) := by
  cases ks with
  | nil => exact (hk rfl).elim
  | cons k ks =>
    unfold isaAny at e
    cases q : isa (.err c) k with
    | none => rw [q] at e; cases e
    | some r => exact h.err _ _ _ q
section
variable {G : Cn} {B : Addr → Prop} {W : Wd}
theorem tyx_T {a : Addr} {vs : List V} (h : SqT G.K W.H a vs) : TyX G.K W.H (.ref a) (.type "tuple") := by
  rcases h with (h | ⟨o, h⟩) | ⟨o, its, n, h1, h2, _⟩
  · exact .base (.tup h)
  · exact .fTuple h
  · exact .kTuple h1 h2
/-- .. but for an error that a suite holds -/
def isExn : D → Bool
  | .exn _ _ _ => true
  | _ => false
theorem Rep.tyx {isa : Isa} (h : IsaOk G isa) (R : Rel G B W) {v : V} {d : D} {k : Kd} {ks : List Kd} {b : Bool} (hne : ks ≠ []) (r : Rep G B W v d) (hx : isExn d = false) (e : kd W.st d = some k) (q : isaAny isa k ks = some b) : TyX G.K W.H v (k.val G) := by
  cases r with
  | non => cases e; exact .base .non
  | bl x => cases e; exact .base (.bl x)
  | int x => cases e; exact .base (.int x)
  | str x => cases e; exact .base (.str x)
  | tup h t => cases e; exact tyx_T h
  | lst h n t => cases e; exact .base (.lst h)
  | fro h t =>
    cases e
    rcases h with ⟨o, h⟩ | ⟨o, its, n, h1, h2, _⟩
    · exact .base (.frz h)
    · exact .kList h1 h2
  | dct h n e1 t => cases e; exact .base (.dK h)
  | obj h1 n e1 t =>
    cases e
    have I := isaAny_own h hne q
    exact .base (.ins h1 I.cl I.ha I.hn I.ht I.hm)
  | exn0 _ => cases hx
  | exn1 _ _ _ _ => cases hx
  | @loc a n hl =>
    cases z : W.st[n]? with
    | none => simp only [kd, z] at e; cases e
    | some c =>
      cases c with
      | lst ds =>
        simp only [kd, z] at e
        cases e
        obtain ⟨vs, h1, h2⟩ := R.cell n a _ hl z
        exact .base (.lst h1)
      | dct ks ds =>
        simp only [kd, z] at e
        cases e
        obtain ⟨vs, h1, h2⟩ := R.cell n a _ hl z
        exact .base (.dK h1)
      | ins c ns ds =>
        simp only [kd, z] at e
        cases e
        obtain ⟨dx, fs, h1, h2⟩ := R.cell n a _ hl z
        have I := isaAny_own h hne q
        exact .base (.ins h1 I.cl I.ha I.hn I.ht I.hm)
      | dead => simp only [kd, z] at e; cases e
end
/-- isinstance(x, c), isinstance(x, (c, ..)) -/
def mIsi (isa : Isa) (ks : List Kd) (m : M D) : M D := fun env st => (m env st).bind fun d s => match kd s d with
  | some k => (match isaAny isa k ks with
    | some b => .ok (.bl b) s
    | none => .bad)
  | none => .bad
/-- the context's word on isinstance -/
def rI (G : Cn) (isa : Isa) : List V → Hp → VK → Prop := fun xs H Q => ∃ B W v d k b, W.H = H ∧ Rel G B W ∧ Rep G B W v d ∧ kd W.st d = some k ∧
  ((∃ c, xs = [v, c.v G] ∧ isa k c = some b) ∨ ∃ ks tp, ks ≠ [] ∧ xs = [v, .ref tp] ∧ H tp = some (.tup (ks.map fun c => c.v G)) ∧ isaAny isa k ks = some b) ∧ Q (.bl b) H
def IsiX (X : Cx) (G : Cn) (isa : Isa) : Prop := CallR X (.builtin "isinstance") (rI G isa)
theorem isaAny1 {isa : Isa} {k c : Kd} {b : Bool} : isaAny isa k [c] = some b ↔ isa k c = some b := by
  unfold isaAny isaAny
  cases q : isa k c with
  | none => simp
  | some r => cases r <;> cases b <;> simp
section
variable {X : Cx} {G : Cn} {E : ES} {isa : Isa} {m : M D} {e : Expr} {pos : Pos}
theorem Rep.noExn {B : Addr → Prop} {W : Wd} {v : V} {d : D} (hg : G.ex = fun _ => none) (r : Rep G B W v d) : isExn d = false := by
  cases r with
  | exn0 h => rw [hg] at h; cases h
  | exn1 h _ _ _ => rw [hg] at h; cases h
  | _ => rfl
theorem isi_go (hK : G.K = X.K) (h : IsaOk G isa) {pins : List (Addr × Obj)} {s : Shared} {σ : L2.St} {vs : List V} {us : List Value} {Q : VK} {B : Addr → Prop} {W : Wd} {v : V} {d : D} {k : Kd} {b : Bool} (I : Inv X pins σ W.H s) (r : Vals vs us) (R : Rel G B W) (rv : Rep G B W v d) (hx : isExn d = false) (e3 : kd W.st d = some k)
    (c : (∃ c, vs = [v, c.v G] ∧ isa k c = some b) ∨ ∃ ks tp, ks ≠ [] ∧ vs = [v, .ref tp] ∧ W.H tp = some (.tup (ks.map fun c => c.v G)) ∧ isaAny isa k ks = some b) (q : Q (.bl b) W.H) : wpAny (model X.prog X.w) X.A (call (.builtin "isinstance") us) (EP X pins σ Q) X.xe s := by
  rcases c with ⟨c, rfl, hc⟩ | ⟨ks, tp, hn, rfl, et, hc⟩
  · refine call_isi pins s σ _ _ us Q I r ⟨v, c.v G, k.val G, c.val G, b, rfl, Kd.clsV G c, ?_, ?_, q⟩
    · rw [← hK]; exact rv.tyx h R (by simp) hx e3 (isaAny1.mpr hc)
    · rw [← hK]; exact h.one _ _ _ hc
  · refine call_isiT pins s σ _ _ us Q I r ⟨v, tp, _, k.val G, _, b, rfl, et, Kd.clsVs G ks, ?_, ?_, q⟩
    · rw [← hK]; exact rv.tyx h R hn hx e3 hc
    · rw [← hK]; exact h.any hc
/-- no error is held -/
theorem isiX_of (hK : G.K = X.K) (h : IsaOk G isa) (hg : G.ex = fun _ => none) : IsiX X G isa := by
  rintro pins s σ H vs us Q I r ⟨B, W, v, d, k, b, rfl, R, rv, e3, c, q⟩
  exact isi_go hK h I r R rv (rv.noExn hg) e3 c q
/-- the error that a suite holds -/
abbrev Cn.sup (G : Cn) (a : Addr) (cls : Value) (dd : Option Addr) : Cn := { G with ex := fun b => if b = a then some (cls, dd) else none }
theorem isiX_sup {a : Addr} {oe : Obj} {cls : Value} {dd : Option Addr} {pn : List (Addr × Obj)} (hK : G.K = X.K) (h : IsaOk G isa) (hz : Zc cls dd oe) (hf : ∃ vs, oe.data = .fields vs) : IsiX (X.suite a ((a, oe) :: pn)) (G.sup a cls dd) isa := by
  have h' : IsaOk (G.sup a cls dd) isa := ⟨h.one, h.own, h.err⟩
  rintro pins s σ H vs us Q I r ⟨B, W, v, d, k, b, rfl, R, rv, e3, c, q⟩
  cases hx : isExn d with
  | false => exact isi_go (X := X.suite a ((a, oe) :: pn)) (G := G.sup a cls dd) hK h' I r R rv hx e3 c q
  | true =>
    have key : ∃ C od, v = .ref a ∧ k = .err C ∧ PySem.W.InstAt s.heap a oe (G.cl C) od := by
      obtain ⟨hget, _⟩ := I.pin (a, oe) (List.mem_append.mpr (.inl List.mem_cons_self))
      obtain ⟨vs, hv⟩ := hf
      have nc : PySem.W.notCls oe = true := by
        unfold PySem.W.notCls; rw [hv] <;> rfl
      cases rv with
      | @exn0 a' c' h1 =>
        have h2 : (if a' = a then some (cls, dd) else none) = some (Value.ref (G.cl c'), none) := h1
        by_cases ea : a' = a
        · subst ea
          rw [if_pos rfl] at h2
          cases h2
          cases e3
          obtain ⟨z1, z2⟩ := hz
          exact ⟨c', none, rfl, rfl, hget, z1, nc, by rw [z2]; trivial⟩
        · rw [if_neg ea] at h2; cases h2
      | @exn1 a' d1 c' fs ns ds h1 hx1 _ _ =>
        have h2 : (if a' = a then some (cls, dd) else none) = some (Value.ref (G.cl c'), some d1) := h1
        by_cases ea : a' = a
        · subst ea
          rw [if_pos rfl] at h2
          cases h2
          cases e3
          obtain ⟨z1, z2⟩ := hz
          have hx2 : ObjOk X.prog X.w W.H s.heap d1 (.xd fs) := I.hok d1 _ hx1
          obtain ⟨mA, hns, hr⟩ := hx2
          obtain ⟨od, ho, hl⟩ := lookIn_ns hns
          exact ⟨c', some od, rfl, rfl, hget, z1, nc, by rw [z2]; exact ho⟩
        · rw [if_neg ea] at h2; cases h2
      | _ => cases hx
    obtain ⟨C, od, e1, e2, J⟩ := key
    subst e1 e2
    rcases c with ⟨c, rfl, hc⟩ | ⟨ks, tp, hn, rfl, et, hc⟩
    · have Ie := h.err _ _ _ hc
      cases r with
      | cons rx rr =>
        cases rr with
        | cons rt rr =>
          cases rr
          cases rx
          have ec := (Kd.clsV G c).eq rt
          subst ec
          rw [hK] at Ie
          exact PySem.W.kia_one (PySem.W.kitx_exc Ie.hc Ie.hg Ie.hk Ie.hs Ie.ha Ie.hn Ie.ht Ie.hm) I.kIn J (by rw [show (X.suite a ((a, oe) :: pn)).K = G.K from hK.symm]; exact h.one _ _ _ hc) (fun z => nomatch z) fun tk => ⟨.bl b, _, I.kept (t' := tk) fun _ _ z => z, rfl, q⟩
    · have Ie := isaAny_err h hn hc
      cases r with
      | cons rx rr =>
        cases rr with
        | cons rt rr =>
          cases rr
          cases rx
          cases rt
          rw [hK] at Ie
          obtain ⟨its, rv, pl, _⟩ := I.tuple (SqT.of et)
          have ec := ClsV.all (Kd.clsVs G ks) rv
          subst ec
          obtain ⟨dx, n, sl, htp⟩ : ∃ dx n sl, s.heap.get? tp = some ⟨.type "tuple", dx, .seq (ks.map fun c => c.val G).toArray n, sl⟩ := by
            obtain ⟨o, ho, hc, n, hd⟩ := pl
            obtain ⟨o1, o2, o3, o4⟩ := o
            cases hc
            cases hd
            exact ⟨_, _, _, ho⟩
          exact PySem.W.kia_tup (PySem.W.kitx_exc Ie.hc Ie.hg Ie.hk Ie.hs Ie.ha Ie.hn Ie.ht Ie.hm) I.kIn J htp (by rw [show (X.suite a ((a, oe) :: pn)).K = G.K from hK.symm]; exact h.any hc) (fun z => nomatch z) fun tk => ⟨.bl b, _, I.kept (t' := tk) fun _ _ z => z, rfl, q⟩
/-! the expressions -/
theorem je_isi {c : Expr} {k : Kd} {p : Pos} (hi : IsiX X G isa) (hg : Gl X "isinstance") (hm : X.mg "isinstance" = none) (he : PE X e (tE G E m)) (hk : PE X c (tC (k.v G)))
    (hs : starEach [e, c] X.env = (false, eval e X.env) :: starEach [c] X.env := by rfl) (hs2 : starEach [c] X.env = (false, eval c X.env) :: starEach [] X.env := by rfl) (hpl : (backTo pos (starEach [c] X.env)).any (·.1) = false := by rfl) : PE X (.Call (.Name "isinstance" p) [e, c] [] pos) (tE G E (mIsi isa [k] m)) := by
  refine PE.weak (pe_callB hi hg hm PyProof.Rows.boot_isinstance (pa_cons he (pa_cons hk pa_nil hs2) hs) (he := hs) (hpl := hpl)) fun σ H Q ⟨B, W, env, e1, R, S, o⟩ => ?_
  subst e1
  refine tE_of R S o fun d W1 v x1 R1 S1 r1 o1 => ?_
  cases e1 : kd W1.st d with
  | none => simp only [e1] at o1; exact o1.elim
  | some kk =>
    simp only [e1] at o1
    cases e2 : isaAny isa kk [k] with
    | none => simp only [e2] at o1; exact o1.elim
    | some b =>
      simp only [e2] at o1
      exact ⟨B, W1, v, d, kk, b, rfl, R1, r1, e1, .inl ⟨k, rfl, isaAny1.mp e2⟩, o1.ret R1 _ (.bl b)⟩
/-- the classes' expressions -/
inductive ClsEs (X : Cx) (G : Cn) : List Expr → List Kd → Prop
  | nil : ClsEs X G [] []
  | cons {c : Expr} {k : Kd} {cs : List Expr} {ks : List Kd} (h : PE X c (tC (k.v G))) (t : ClsEs X G cs ks) (hs : starEach (c :: cs) X.env = (false, eval c X.env) :: starEach cs X.env := by rfl) : ClsEs X G (c :: cs) (k :: ks)
theorem ClsEs.pa {cs : List Expr} {ks : List Kd} (h : ClsEs X G cs ks) : PA X cs (fun _ H Q => Q (ks.map fun k => k.v G) H) := by
  induction h with
  | nil => exact pa_nil
  | cons h t hs ih => exact pa_cons h ih hs
theorem je_isiT {cs : List Expr} {ks : List Kd} {p : Pos} {z : Nat} {tp : Pos} (hi : IsiX X G isa) (hg : Gl X "isinstance") (hm : X.mg "isinstance" = none) (he : PE X e (tE G E m)) (hk : ClsEs X G cs ks) (hn : ks ≠ [] := by decide) (hl : ks.length ≤ 100 := by decide)
    (hs : starEach [e, .Tuple cs z tp] X.env = (false, eval e X.env) :: starEach [.Tuple cs z tp] X.env := by rfl) (hs2 : starEach [.Tuple cs z tp] X.env = (false, eval (.Tuple cs z tp) X.env) :: starEach [] X.env := by rfl) (hpl : (backTo pos (starEach [.Tuple cs z tp] X.env)).any (·.1) = false := by rfl) : PE X (.Call (.Name "isinstance" p) [e, .Tuple cs z tp] [] pos) (tE G E (mIsi isa ks m)) := by
  refine PE.weak (pe_callB hi hg hm PyProof.Rows.boot_isinstance (pa_cons he (pa_cons (pe_tup hk.pa) pa_nil hs2) hs) (he := hs) (hpl := hpl)) fun σ H Q ⟨B, W, env, e1, R, S, o⟩ => ?_
  subst e1
  refine tE_of R S o fun d W1 v x1 R1 S1 r1 o1 => ⟨by rw [List.length_map, sizeLine_eq]; omega, fun q hq => ?_⟩
  have x2 := Ext.new (o := .tup (ks.map fun k => k.v G)) R1.len hq
  cases e1 : kd W1.st d with
  | none => simp only [e1] at o1; exact o1.elim
  | some kk =>
    simp only [e1] at o1
    cases e2 : isaAny isa kk ks with
    | none => simp only [e2] at o1; exact o1.elim
    | some b =>
      simp only [e2] at o1
      exact ⟨B, W1.new q _, v, d, kk, b, rfl, R1.new hq, Rep.ext R1 x2 _ _ r1, e1, .inr ⟨ks, q, hn, rfl, upd_same, e2⟩, o1 _ x2 (R1.new hq) rfl _ (.bl b)⟩
theorem cls_ty {n : String} {x : Str} {pos : Pos} (hg : Gl X x) (hm : X.mg x = none) (hv : bootBuiltins x = some (.type n)) (hn : x ≠ "__name__" := by decide) (hd : (x == ("__debug__" : Str)) = false := by decide) : PE X (.Name x pos) (tC ((Kd.ty n).v G)) := pe_bltn hg hm hv rfl hn hd
theorem cls_own {c x : Str} {pos : Pos} (hg : Gl X x) (hm : X.mg x = some (.ref (G.cl c))) (hd : (x == ("__debug__" : Str)) = false := by decide) : PE X (.Name x pos) (tC ((Kd.own c).v G)) := pe_glob hg hm rfl hd
theorem cls_err {c x : Str} {pos : Pos} (hg : Gl X x) (hm : X.mg x = some (.ref (G.cl c))) (hd : (x == ("__debug__" : Str)) = false := by decide) : PE X (.Name x pos) (tC ((Kd.err c).v G)) := pe_glob hg hm rfl hd
end
/-! ### sum of a list, a tuple -/
def fS (g : List D → Store → R D) : Fn := fun ds st => match ds with
  | [d] => (match asS st d with
    | some xs => g xs st
    | none => .bad)
  | _ => .bad
theorem fS_inv {G : Cn} {B : Addr → Prop} {W : Wd} {E : XK} {g : List D → Store → DL.R D} {ds : List D} {vs : List V} {Q : D → Wd → Prop} (R : Rel G B W) (r : Reps G B W vs ds) (o : Out G B W E (fS g ds W.st) Q) :
    ∃ a us xs, vs = [.ref a] ∧ (SqL G.K W.H a us ∨ SqT G.K W.H a us) ∧ Reps G B W us xs ∧ Out G B W E (g xs W.st) Q := by
  match ds, r, o with
  | [], _, o => exact o.elim
  | _ :: _ :: _, _, o => exact o.elim
  | [d], .cons h .nil, o =>
    simp only [fS] at o
    cases e : asS W.st d with
    | none => rw [e] at o; exact o.elim
    | some xs =>
      rw [e] at o
      obtain ⟨a, us, rfl, h1, t⟩ := h.asS R e
      exact ⟨a, us, xs, rfl, h1, t, o⟩
theorem sum_rawT {prog : Program} {w : World} {A : Around} {E : Value → Shared → Prop} {s : Shared} {l : Addr} {its : List Value} {ns : List Int} {Q : Value → Shared → Prop} (hh : A.handled = none) (hl : IsTup s.heap l its.toArray) (hi : IntsAre its ns)
    (h : ∀ h' tk t', (∀ b o, s.heap.get? b = some o → h'.get? b = some o) → Q (.int ns.sum t') { s with heap := h', toks := tk }) : wpAny (model prog w) A (call (.builtin "sum") [.ref l]) Q E s := by
  obtain ⟨xs, e⟩ := hi.allInts.items
  have hn : numsOf (intItems xs).toList = ns := by rw [← e]; exact hi.numsOf
  rw [nums_intItems] at hn
  rw [e] at hl
  refine PySem.W.ktm_sumG hh hl fun h' tk t' hk => ?_
  have := h h' tk t' hk
  rw [preSum_eq, List.take_of_length_le (by simp), hn]; exact this
def rSumA (K : PySem.W.Frag) : List V → Hp → VK → Prop := fun vs H Q => ∃ (a : Addr) (ns : List Int), vs = [V.ref a] ∧ (SqL K H a (ns.map V.int) ∨ SqT K H a (ns.map V.int)) ∧ Q (.int ns.sum) H
theorem call_sumA {X : Cx} (hc : X.calm = true) : CallR X (.builtin "sum") (rSumA X.K) := by
  intro pins s σ H vs us Q I r h
  obtain ⟨a, ns, rfl, hs, q⟩ := h
  rcases hs with hs | hs
  · exact cr_sum hc pins s σ H _ us Q I r ⟨a, ns, rfl, hs, q⟩
  · obtain ⟨its, rv, hl, _⟩ := I.tuple hs
    rw [Vals.ref1 r]
    exact sum_rawT (I.ok.hd hc) hl rv.ints fun h' tk t' hk => ⟨.int _, H, I.kept hk, ⟨_, rfl⟩, q⟩
theorem cs_sumA {G : Cn} : CallS G (rSumA G.K) (fS gSum) := by
  intro B W E ds vs Q R r o
  obtain ⟨a, us, xs, rfl, h1, t, o⟩ := fS_inv R r o
  unfold gSum at o
  cases e : toInts xs with
  | none => rw [e] at o; exact o.elim
  | some ns =>
    rw [e] at o
    exact ⟨a, ns, rfl, by rw [← t.toInts e]; exact h1, o.ret R _ (.int _)⟩
end DL

set_option maxHeartbeats 2000000
/-! DLB: errors of the text: made, raised, caught, read. -/
namespace DL
open PySem PySem.Spec PyProof.Rows L2

/-! ### __init__ of an error class: its arguments as fields -/
def spI (C : Addr) (names : List Str) : Sp := fun vs H Q _ => ∃ a ws H1, vs = .ref a :: ws ∧ ws.length = names.length ∧ H1 a = none ∧ H = upd H1 a (exo a C none) ∧
  ∀ d H2, H1 d = none → d ≠ a → H2 a = some (exo a C (some d)) → H2 d = some (exd d (names.zip ws).reverse) → (∀ b, b ≠ a → b ≠ d → H2 b = H1 b) → Q .non H2
theorem upd_at {H : Hp} {a b : Addr} {o : HO} : upd H a o b = if b = a then some o else H b := by
  by_cases h : b = a
  · subst h
    rw [if_pos rfl, upd_same]
  · rw [if_neg h, upd_ne h]
section
variable {P : Program} {w : World} {K : PySem.W.Frag} {mg : Str → Option Value} {base : Heap} {q s p1 p2 f1 f2 : Str} {st : Stmt} {fI C : Addr} {fd : FuncData}
theorem init_ok1 (F : Fun K "__init__" q st fI fd) (S : FnScope [s, p1] [s, p1] (defScope st)) (T : OexC K C) (n1 : PySem.W.findIn K (.ref C) f1 = some none)
    (hb : ∀ (cdv : Value) (A : Around) (outer : List Env) (s1 : Shared) (H : Hp) (E : XK), PSs (cxOf (L2.CX P w) P w K mg base [s, p1] q (defScope st) fI cdv A outer s1 H E) (defBody st) (tOst K f1 (tVar 0) (tVar 1))) :
    FnOk P w K mg base (L2.CX P w) 1 fI fd [s, p1] (spI C [f1]) := by
  refine Fun.okX F S (fun vs H Q E ⟨a, ws, H1, e, l, _⟩ => by subst e; simp [l]) fun cdv A outer s1 H vs Q E _ h => ⟨_, hb cdv A outer s1 H E, ?_⟩
  obtain ⟨a, ws, H1, rfl, l, ha, rfl, h⟩ := h
  match ws, l with
  | [y], _ =>
    refine ⟨y, rfl, .ref a, rfl, a, C, rfl, T, n1, .inl ⟨upd_same, fun d hd hda => ?_⟩⟩
    have hd1 : H1 d = none := by rw [upd_at, if_neg hda] at hd; exact hd
    refine h d _ hd1 hda upd_same ?_ fun b hb1 hb2 => ?_
    · rw [upd_ne hda, upd_same] <;> rfl
    · rw [upd_ne hb1, upd_ne hb2, upd_ne hb1]
theorem init_ok2 (F : Fun K "__init__" q st fI fd) (S : FnScope [s, p1, p2] [s, p1, p2] (defScope st)) (T : OexC K C) (n1 : PySem.W.findIn K (.ref C) f1 = some none) (n2 : PySem.W.findIn K (.ref C) f2 = some none)
    (hb : ∀ (cdv : Value) (A : Around) (outer : List Env) (s1 : Shared) (H : Hp) (E : XK), PSs (cxOf (L2.CX P w) P w K mg base [s, p1, p2] q (defScope st) fI cdv A outer s1 H E) (defBody st) (fun D σ H => tOst K f1 (tVar 0) (tVar 1) { D with nx := tOst K f2 (tVar 0) (tVar 2) D } σ H)) :
    FnOk P w K mg base (L2.CX P w) 1 fI fd [s, p1, p2] (spI C [f1, f2]) := by
  refine Fun.okX F S (fun vs H Q E ⟨a, ws, H1, e, l, _⟩ => by subst e; simp [l]) fun cdv A outer s1 H vs Q E _ h => ⟨_, hb cdv A outer s1 H E, ?_⟩
  obtain ⟨a, ws, H1, rfl, l, ha, rfl, h⟩ := h
  match ws, l with
  | [y, z], _ =>
    refine ⟨y, rfl, .ref a, rfl, a, C, rfl, T, n1, .inl ⟨upd_same, fun d hd hda => ?_⟩⟩
    have hd1 : H1 d = none := by rw [upd_at, if_neg hda] at hd; exact hd
    refine ⟨z, rfl, .ref a, rfl, a, C, rfl, T, n2, .inr ⟨d, _, upd_same, (upd_ne hda).trans upd_same, by simp, ?_⟩⟩
    refine h d _ hd1 hda ?_ ?_ fun b hb1 hb2 => ?_
    · rw [upd_ne (fun e => hda e.symm), upd_same]
    · rw [upd_same] <;> rfl
    · rw [upd_ne hb2, upd_ne hb1, upd_ne hb2, upd_ne hb1]
end
/-! ### raise -/
theorem Reps.rev {G : Cn} {B : Addr → Prop} {W : Wd} : ∀ {vs : List V} {ds : List D}, Reps G B W vs ds → Reps G B W vs.reverse ds.reverse
  | _, _, .nil => .nil
  | _, _, .cons h t => by
    rw [List.reverse_cons, List.reverse_cons]
    exact (Reps.rev t).append (.cons h .nil)
/-- raise c(..) -/
def sRaise (c : Str) (names : List Str) (ms : M (List D)) : SM := fun env st => lift (ms env st) env fun ds s => if ds.length = names.length then .ok (.xc ⟨c, names.reverse, ds.reverse⟩ env) s else .bad
theorem zip_fst {α β : Type} : ∀ {xs : List α} {ys : List β}, ys.length = xs.length → (xs.zip ys).map (·.1) = xs
  | [], [], _ => rfl
  | x :: xs, y :: ys, h => congrArg (x :: ·) (zip_fst (by simpa using h))
theorem zip_snd {α β : Type} : ∀ {xs : List α} {ys : List β}, ys.length = xs.length → (xs.zip ys).map (·.2) = ys
  | [], [], _ => rfl
  | x :: xs, y :: ys, h => congrArg (y :: ·) (zip_snd (by simpa using h))
section
variable {X : Cx} {G : Cn} {XW : WX} {x : Str} {c : Str} {e : Expr} {es : List Expr} {ms : M (List D)} {pos p pos' : Pos} {k : Nat} {fI : Addr} {fd : FuncData} {ps names : List Str}
theorem js_raise (hc : X.calm = true) (tk : Takes X XW) (T : OexC X.K (G.cl c)) (iC : PySem.W.findIn X.K (.ref (G.cl c)) "__init__" = some (some (.ref fI))) (tI : PySem.W.typeIn X.K (.ref fI) = some (.type "function"))
    (F1 : FnOk X.prog X.w X.K X.mg X.base (L2.CX X.prog X.w) k fI fd ps (spI (G.cl c) names)) (hr : Room (k + 1) X.A) (hb : Binds X.K fd ps []) (hg : Gl X x) (hm : X.mg x = some (.ref (G.cl c))) (ha : PA X (e :: es) (tA G (eX XW) ms)) (hn : names.length ≤ 100 := by decide)
    (hdb : (x == ("__debug__" : Str)) = false := by decide) (he : starEach (e :: es) X.env = (false, eval e X.env) :: starEach es X.env := by rfl) (hpl : (backTo pos (starEach es X.env)).any (·.1) = false := by rfl) :
    PS X (.Raise (some (.Call (.Name x p) (e :: es) [] pos)) none pos') (tS G XW (sRaise c names ms)) := by
  refine PS.weak (ps_raise hc tk (pmk_oex T iC tI F1 hr hb .nil passL hg hm ha hdb he hpl)) fun D σ H ⟨B, W, env, e, R, S, o⟩ => ?_
  subst e
  refine sA R S o fun ds W1 vs x1 R1 S1 r1 o1 => ?_
  by_cases hl : ds.length = names.length
  · rw [if_pos hl] at o1
    have hv : vs.length = names.length := r1.length.trans hl
    refine ⟨by omega, fun a ha => ⟨a, vs, W1.H, by rw [List.append_nil], hv, ha, rfl, fun d H2 hd hda e1 e2 e3 => ⟨rfl, d, _, e1, e2, hd, ?_⟩⟩⟩
    have eH : upd (del H2 a) d (.xd (names.zip vs).reverse) = (W1.new d (.xd (names.zip vs).reverse)).H := by
      funext b
      show upd (del H2 a) d _ b = upd W1.H d _ b
      rw [upd_at, upd_at]
      by_cases hb : b = d
      · rw [if_pos hb, if_pos hb]
      · rw [if_neg hb, if_neg hb]
        by_cases hba : b = a
        · subst hba
          rw [del_same, ha]
        · rw [del_ne hba, e3 b hba hb]
    rw [eH]
    have x2 := Ext.new (o := .xd (names.zip vs).reverse) R1.len hd
    refine o1 _ x2 (R1.new hd) rfl σ _ _ (S1.ext R1 x2) ⟨rfl, .inr ⟨d, _, rfl, upd_same, ?_, ?_⟩⟩
    · show ((names.zip vs).reverse).map (·.1) = names.reverse
      rw [List.map_reverse, zip_fst hv]
    · show Reps G B _ (((names.zip vs).reverse).map (·.2)) ds.reverse
      rw [List.map_reverse, zip_snd hv]
      exact Reps.ext R1 x2 _ _ r1.rev
  · rw [if_neg hl] at o1
    exact o1.elim
end
/-! ### data without errors -/
mutual
def D.noX : D → Bool
  | .tup xs => D.noXs xs
  | .lst xs => D.noXs xs
  | .fro xs => D.noXs xs
  | .dct _ vs => D.noXs vs
  | .obj _ _ vs => D.noXs vs
  | .loc _ => true
  | .exn _ _ _ => false
  | .non => true
  | .bl _ => true
  | .int _ => true
  | .str _ => true
def D.noXs : List D → Bool
  | [] => true
  | d :: ds => d.noX && D.noXs ds
end
def Cell.noX : Cell → Bool
  | .lst xs => D.noXs xs
  | .dct _ xs => D.noXs xs
  | .ins _ _ xs => D.noXs xs
  | .dead => true
def stNoX (st : Store) : Bool := st.all Cell.noX
def slNoX (env : Sl) : Bool := env.all fun o => match o with
  | some d => d.noX
  | none => true
section
variable {G : Cn} {B : Addr → Prop} {W : Wd} {ex : Addr → Option (Value × Option Addr)}
mutual
theorem Rep.sup (hg : G.ex = fun _ => none) : ∀ (d : D) (v : V), Rep G B W v d → Rep { G with ex := ex } B W v d
  | .non, _, h => by cases h; exact .non
  | .bl b, _, h => by cases h; exact .bl b
  | .int i, _, h => by cases h; exact .int i
  | .str i, _, h => by cases h; exact .str i
  | .tup ds, _, h => by
    cases h with
    | tup h t => exact .tup (G := { G with ex := ex }) h (Reps.sup hg ds _ t)
  | .lst ds, _, h => by
    cases h with
    | lst h m t => exact .lst h m (Reps.sup hg ds _ t)
  | .fro ds, _, h => by
    cases h with
    | fro h t => exact .fro (G := { G with ex := ex }) h (Reps.sup hg ds _ t)
  | .dct ks ds, _, h => by
    cases h with
    | dct h m e t => exact .dct h m e (Reps.sup hg ds _ t)
  | .obj c ns ds, _, h => by
    cases h with
    | obj h m e t => exact .obj (G := { G with ex := ex }) h m e (Reps.sup hg ds _ t)
  | .loc _, _, h => by
    cases h with
    | loc h => exact .loc h
  | .exn _ _ _, _, h => by
    cases h with
    | exn0 h => rw [hg] at h; cases h
    | exn1 h _ _ _ => rw [hg] at h; cases h
theorem Reps.sup (hg : G.ex = fun _ => none) : ∀ (ds : List D) (vs : List V), Reps G B W vs ds → Reps { G with ex := ex } B W vs ds
  | [], _, h => by cases h; exact .nil
  | d :: ds, _, h => by
    cases h with
    | cons h t => exact .cons (Rep.sup hg d _ h) (Reps.sup hg ds _ t)
end
mutual
theorem Rep.unsup : ∀ (d : D) (v : V), d.noX = true → Rep { G with ex := ex } B W v d → Rep G B W v d
  | .non, _, _, h => by cases h; exact .non
  | .bl b, _, _, h => by cases h; exact .bl b
  | .int i, _, _, h => by cases h; exact .int i
  | .str i, _, _, h => by cases h; exact .str i
  | .tup ds, _, n, h => by
    cases h with
    | tup h t => exact .tup (G := G) h (Reps.unsup ds _ n t)
  | .lst ds, _, n, h => by
    cases h with
    | lst h m t => exact .lst h m (Reps.unsup ds _ n t)
  | .fro ds, _, n, h => by
    cases h with
    | fro h t => exact .fro (G := G) h (Reps.unsup ds _ n t)
  | .dct ks ds, _, n, h => by
    cases h with
    | dct h m e t => exact .dct h m e (Reps.unsup ds _ n t)
  | .obj c ns ds, _, n, h => by
    cases h with
    | obj h m e t => exact .obj (G := G) h m e (Reps.unsup ds _ n t)
  | .loc _, _, _, h => by
    cases h with
    | loc h => exact .loc h
  | .exn _ _ _, _, n, _ => by cases n
theorem Reps.unsup : ∀ (ds : List D) (vs : List V), D.noXs ds = true → Reps { G with ex := ex } B W vs ds → Reps G B W vs ds
  | [], _, _, h => by cases h; exact .nil
  | d :: ds, _, n, h => by
    cases h with
    | cons h t =>
      obtain ⟨n1, n2⟩ := Bool.and_eq_true_iff.mp n
      exact .cons (Rep.unsup d _ n1 h) (Reps.unsup ds _ n2 t)
end
theorem Rel.sup (hg : G.ex = fun _ => none) (R : Rel G B W) : Rel { G with ex := ex } B W := by
  refine ⟨R.len, R.nd, R.ban, R.sep, fun n a c h1 h2 => ?_⟩
  have q := R.cell n a c h1 h2
  cases c with
  | lst ds => obtain ⟨vs, e, t⟩ := q; exact ⟨vs, e, Reps.sup hg _ _ t⟩
  | dct ks ds => obtain ⟨vs, e, k, t⟩ := q; exact ⟨vs, e, k, Reps.sup hg _ _ t⟩
  | ins c ns ds => obtain ⟨dx, vs, e, k, t⟩ := q; exact ⟨dx, vs, e, k, Reps.sup hg _ _ t⟩
  | dead => exact q
theorem Rel.unsup (n : stNoX W.st = true) (R : Rel { G with ex := ex } B W) : Rel G B W := by
  refine ⟨R.len, R.nd, R.ban, R.sep, fun m a c h1 h2 => ?_⟩
  have q := R.cell m a c h1 h2
  have nc := List.all_eq_true.mp n c (List.mem_of_getElem? h2)
  cases c with
  | lst ds => obtain ⟨vs, e, t⟩ := q; exact ⟨vs, e, Reps.unsup _ _ nc t⟩
  | dct ks ds => obtain ⟨vs, e, k, t⟩ := q; exact ⟨vs, e, k, Reps.unsup _ _ nc t⟩
  | ins c ns ds => obtain ⟨dx, vs, e, k, t⟩ := q; exact ⟨dx, vs, e, k, Reps.unsup _ _ nc t⟩
  | dead => exact q
theorem Slots.sup {σ : L2.St} {env : Sl} (hg : G.ex = fun _ => none) (S : Slots G B W σ env) : Slots { G with ex := ex } B W σ env := ⟨S.1, fun i d e => by
  obtain ⟨v, h1, h2⟩ := S.2 i d e
  exact ⟨v, h1, Rep.sup hg _ _ h2⟩⟩
theorem Slots.unsup {σ : L2.St} {env : Sl} (n : slNoX env = true) (S : Slots { G with ex := ex } B W σ env) : Slots G B W σ env := ⟨S.1, fun i d e => by
  obtain ⟨v, h1, h2⟩ := S.2 i d e
  have nd := List.all_eq_true.mp n (some d) (List.mem_of_getElem? e)
  exact ⟨v, h1, Rep.unsup _ _ nd h2⟩⟩
end
section
variable {G : Cn} {B : Addr → Prop} {W : Wd}
mutual
theorem Rep.noX (hg : G.ex = fun _ => none) : ∀ (d : D) (v : V), Rep G B W v d → d.noX = true
  | .non, _, _ => rfl
  | .bl _, _, _ => rfl
  | .int _, _, _ => rfl
  | .str _, _, _ => rfl
  | .loc _, _, _ => rfl
  | .tup ds, _, h => by
    cases h with
    | tup h t => exact Reps.noX hg ds _ t
  | .lst ds, _, h => by
    cases h with
    | lst h m t => exact Reps.noX hg ds _ t
  | .fro ds, _, h => by
    cases h with
    | fro h t => exact Reps.noX hg ds _ t
  | .dct ks ds, _, h => by
    cases h with
    | dct h m e t => exact Reps.noX hg ds _ t
  | .obj c ns ds, _, h => by
    cases h with
    | obj h m e t => exact Reps.noX hg ds _ t
  | .exn _ _ _, _, h => by
    cases h with
    | exn0 h => rw [hg] at h; cases h
    | exn1 h _ _ _ => rw [hg] at h; cases h
theorem Reps.noX (hg : G.ex = fun _ => none) : ∀ (ds : List D) (vs : List V), Reps G B W vs ds → D.noXs ds = true
  | [], _, _ => rfl
  | d :: ds, _, h => by
    cases h with
    | cons h t => exact Bool.and_eq_true_iff.mpr ⟨Rep.noX hg d _ h, Reps.noX hg ds _ t⟩
end
theorem Rel.noX (hg : G.ex = fun _ => none) (R : Rel G B W) : stNoX W.st = true := by
  refine List.all_eq_true.mpr fun c hc => ?_
  obtain ⟨n, hn, e⟩ := List.mem_iff_getElem.mp hc
  have hn2 : n < W.r.length := by rw [R.len]; exact hn
  have q := R.cell n W.r[n] c (List.getElem?_eq_getElem hn2) (by rw [List.getElem?_eq_getElem hn, e])
  cases c with
  | lst ds => obtain ⟨vs, _, t⟩ := q; exact Reps.noX hg _ _ t
  | dct ks ds => obtain ⟨vs, _, _, t⟩ := q; exact Reps.noX hg _ _ t
  | ins c ns ds => obtain ⟨dx, vs, _, _, t⟩ := q; exact Reps.noX hg _ _ t
  | dead => rfl
end
/-! ### try: one handler that names the error -/
open Classical in
/-- behind the suite: the name is gone, no error is left in the data; s0: the store ahead of it, which has none -/
noncomputable def outS (i : Nat) (s0 : Store) : R Fl → R Fl
  | .ok (.nx env) s => if slNoX (env.set i none) = true ∧ (s = s0 ∨ stNoX s = true) then .ok (.nx (env.set i none)) s else .bad
  | .ok (.rt d) s => if d.noX = true ∧ (s = s0 ∨ stNoX s = true) then .ok (.rt d) s else .bad
  | .ok (.bk env) s => if slNoX (env.set i none) = true ∧ (s = s0 ∨ stNoX s = true) then .ok (.bk (env.set i none)) s else .bad
  | .ok (.ct env) s => if slNoX (env.set i none) = true ∧ (s = s0 ∨ stNoX s = true) then .ok (.ct (env.set i none)) s else .bad
  | .ok (.xc _ _) _ => .bad
  | _ => .bad
noncomputable def sTry (hit : Str → Option Bool) (i : Nat) (mb ms : SM) : SM := fun env st => match mb env st with
  | .ok (.xc e env1) s => (match hit e.c with
    | some true => outS i s (ms (env1.set i (some (.exn e.c e.ns e.vs))) s)
    | some false => .ok (.xc e env1) s
    | none => .bad)
  | r => r
abbrev WF : WX := fun _ _ _ _ => False
section
variable {X : Cx} {G : Cn} {XW : WX}
theorem out_sup {B : Addr → Prop} {W : Wd} {ex : Addr → Option (Value × Option Addr)} {D : Ends} {i : Nat} {s0 : Store} {r : DL.R Fl} (n0 : stNoX s0 = true) (o : Out G B W E0 (outS i s0 r) (FlQ G B XW D)) :
    Out { G with ex := ex } B W E0 r (FlQ { G with ex := ex } B WF { nx := fun σ' H' => D.nx (σ'.set i none) H', rt := D.rt, bk := fun σ' H' => D.bk (σ'.set i none) H', ct := fun σ' H' => D.ct (σ'.set i none) H' }) := by
  have cl : ∀ {W' : Wd} {σ' : L2.St} {env : Sl}, slNoX (env.set i none) = true → Slots { G with ex := ex } B W' σ' env → Slots G B W' (σ'.set i none) (env.set i none) := fun n S => Slots.unsup n (S.clear i none)
  cases r with
  | ok fl s =>
    cases fl with
    | nx env =>
      simp only [outS] at o
      by_cases c : slNoX (env.set i none) = true ∧ (s = s0 ∨ stNoX s = true)
      · rw [if_pos c] at o
        exact fun W' x R e σ' S => o W' x (R.unsup (by rw [e]; exact c.2.elim (fun q => q ▸ n0) id)) e _ (cl c.1 S)
      · rw [if_neg c] at o; exact o.elim
    | rt d =>
      simp only [outS] at o
      by_cases c : d.noX = true ∧ (s = s0 ∨ stNoX s = true)
      · rw [if_pos c] at o
        exact fun W' x R e v rv => o W' x (R.unsup (by rw [e]; exact c.2.elim (fun q => q ▸ n0) id)) e v (Rep.unsup _ _ c.1 rv)
      · rw [if_neg c] at o; exact o.elim
    | bk env =>
      simp only [outS] at o
      by_cases c : slNoX (env.set i none) = true ∧ (s = s0 ∨ stNoX s = true)
      · rw [if_pos c] at o
        exact fun W' x R e σ' S => o W' x (R.unsup (by rw [e]; exact c.2.elim (fun q => q ▸ n0) id)) e _ (cl c.1 S)
      · rw [if_neg c] at o; exact o.elim
    | ct env =>
      simp only [outS] at o
      by_cases c : slNoX (env.set i none) = true ∧ (s = s0 ∨ stNoX s = true)
      · rw [if_pos c] at o
        exact fun W' x R e σ' S => o W' x (R.unsup (by rw [e]; exact c.2.elim (fun q => q ▸ n0) id)) e _ (cl c.1 S)
      · rw [if_neg c] at o; exact o.elim
    | xc e env => exact o.elim
  | exc e s => exact o.elim
  | bad => exact o.elim
/-- the classes that a handler takes -/
def HitOk (K : PySem.W.Frag) (G : Cn) (cv : Value) (hit : Str → Option Bool) : Prop := ∀ c b, hit c = some b → PySem.W.exmOne K (.ref (G.cl c)) cv = some b
theorem js_try {x n : Str} {cv : Value} {i : Nat} {body suite : List Stmt} {b0 : Stmt} {np pos pos' : Pos} {hit : Str → Option Bool} {mb ms : SM} (hg : G.ex = fun _ => none) (hs : X.stack = X.env :: X.outer) (hf : X.env.frame = some X.env.locals) (hN : X.N.Nodup) (hi : X.N[i]? = some n) (hln : X.env.kindOf n = some .local) (hc : Names X x cv) (tk : Takes X XW)
    (hh : HitOk X.K G cv hit)
    (hb : ∀ (W : WX) (pn : List (Addr × Obj)) (xe : Value → Shared → Prop), Takes (X.tr pn xe) W → PassesOwn (model X.prog X.w) X.A X.env xe → PSs (X.tr pn xe) body (tS G W mb))
    (hsu : ∀ (a : Addr) (oe : Obj) (cls : Value) (d : Option Addr) (pn : List (Addr × Obj)), Zc cls d oe → (∃ vs, oe.data = .fields vs) → PSs (X.suite a ((a, oe) :: pn)) (b0 :: suite) (tS (G.sup a cls d) WF ms)) :
    PS X (.Try body [.ExceptHandler (some (.Name x np)) (some n) (b0 :: suite) pos'] [] [] pos) (tS G XW (sTry hit i mb ms)) := by
  refine PS.weak (ps_try_as (tb := fun W => tS G W mb) (ts := fun a cls d => tS (G.sup a cls d) WF ms) hs hf hN hi hln hc tk hb hsu) fun D σ H ⟨B, W, env, e, R, S, o⟩ => ?_
  subst e
  refine ⟨B, W, env, rfl, R, S, ?_⟩
  unfold sTry at o
  cases q : mb env W.st with
  | ok fl s =>
    rw [q] at o
    cases fl with
    | nx env1 => exact o
    | rt d => exact o
    | bk env1 => exact o
    | ct env1 => exact o
    | xc e env1 =>
      cases z : hit e.c with
      | none => simp only [z] at o; exact o.elim
      | some b =>
        simp only [z] at o
        intro W' x R1 e1 σ1 cls dd S1 rx
        obtain ⟨ec, rx2⟩ := id rx
        subst ec
        refine ⟨b, hh _ _ z, fun hb1 a ha => ?_, fun hb1 => ?_⟩
        · subst hb1
          subst e1
          have o1 : Out G B W E0 (outS i W'.st (ms (env1.set i (some (.exn e.c e.ns e.vs))) W'.st)) (FlQ G B XW D) := o
          refine ⟨B, W', _, rfl, R1.sup hg, (S1.sup hg).set i (v := .ref a) (d := .exn e.c e.ns e.vs) ?_, out_sup (R1.noX hg) (Out.ext o1 x)⟩
          rcases rx2 with ⟨h1, h2, h3⟩ | ⟨d, fs, h3, h4, h5, h6⟩
          · subst h3
            rw [h1, h2]
            exact .exn0 (show (if a = a then some (Value.ref (G.cl e.c), none) else none) = _ by rw [if_pos rfl])
          · subst h3
            exact .exn1 (G := G.sup a (.ref (G.cl e.c)) (some d)) (show (if a = a then some (Value.ref (G.cl e.c), some d) else none) = _ by rw [if_pos rfl]) h4 h5 (Reps.sup hg _ _ h6)
        · subst hb1
          exact o W' x R1 e1 σ1 _ dd S1 rx
  | exc e s => rw [q] at o; exact o
  | bad => rw [q] at o; exact o.elim
/-- e.f, e the error that the suite holds, of the class c -/
def mXf (c f : Str) (mo : M D) : M D := fun env st => (mo env st).bind fun d s => match d with
  | .exn c' ns vs => if c' = c then (match (ns.zip vs).lookup f with
    | some z => .ok z s
    | none => .bad) else .bad
  | _ => .bad
theorem je_xf {E : ES} {a : Addr} {oe : Obj} {cls : Value} {dd : Option Addr} {pn : List (Addr × Obj)} {e : Expr} {mo : M D} {pos : Pos} {c n : Str} (T : XfC X.K (G.cl c)) (hno : PySem.W.findIn X.K (.ref (G.cl c)) n = some none)
    (hz : Zc cls dd oe) (hf : ∃ vs, oe.data = .fields vs) (he : PE (X.suite a ((a, oe) :: pn)) e (tE (G.sup a cls dd) E mo)) (hb : attributeBase e n X.env (eval e X.env) = eval e X.env := by rfl) :
    PE (X.suite a ((a, oe) :: pn)) (.Attribute e n pos) (tE (G.sup a cls dd) E (mXf c n mo)) := by
  refine PE.weak (pe_xf T hno hz hf he hb) fun σ H Q ⟨B, W, env, e, R, S, o⟩ => ?_
  subst e
  refine tE_of R S o fun d W1 v x1 R1 S1 r1 o1 => ?_
  cases r1 with
  | @exn0 a' c' h =>
    exfalso
    by_cases hcc : c' = c
    · simp only [if_pos hcc] at o1
      exact o1.elim
    · simp only [if_neg hcc] at o1
      exact o1.elim
  | @exn1 a' d1 c' fs ns ds h hx e t =>
    by_cases hcc : c' = c
    · subst hcc
      simp only [if_pos rfl] at o1
      cases z : (ns.zip ds).lookup n with
      | none => simp only [z] at o1; exact o1.elim
      | some w =>
        simp only [z] at o1
        subst e
        obtain ⟨u, h4, h5⟩ := Reps.lookup t z
        have h2 : (if a' = a then some (cls, dd) else none) = some (Value.ref (G.cl c'), some d1) := h
        by_cases ea : a' = a
        · subst ea
          rw [if_pos rfl] at h2
          cases h2
          exact ⟨rfl, rfl, d1, fs, u, rfl, hx, h4, o1.ret R1 u h5⟩
        · rw [if_neg ea] at h2; cases h2
    · simp only [if_neg hcc] at o1
      exact o1.elim
  | _ => exact o1.elim
end
end DL

set_option maxHeartbeats 2000000
/-! DLC: zip, enumerate. -/
namespace DL
open PySem PySem.Spec PyProof.Rows L2

def isT : D → Bool
  | .tup _ => true
  | _ => false
def pairsD : List D → List D → List D
  | x :: xs, y :: ys => .tup [x, y] :: pairsD xs ys
  | _, _ => []
theorem pairs_get : ∀ {xs ys : List D} {i : Nat} {d : D}, (pairsD xs ys)[i]? = some d → ∃ x y, xs[i]? = some x ∧ ys[i]? = some y ∧ d = .tup [x, y]
  | x :: xs, y :: ys, 0, d, e => by
    simp only [pairsD, List.getElem?_cons_zero, Option.some.injEq] at e
    exact ⟨x, y, rfl, rfl, e.symm⟩
  | x :: xs, y :: ys, i + 1, d, e => by
    simp only [pairsD, List.getElem?_cons_succ] at e
    simpa using pairs_get e
  | [], _, _, _, e => by simp [pairsD] at e
  | _ :: _, [], _, _, e => by simp [pairsD] at e
theorem pairs_len : ∀ {xs ys : List D}, (pairsD xs ys).length = min xs.length ys.length
  | x :: xs, y :: ys => by simp only [pairsD, List.length_cons, pairs_len]; omega
  | [], ys => by simp [pairsD]
  | _ :: _, [] => by simp [pairsD]
section
variable {G : Cn} {B B' : Addr → Prop} {W W' W0 : Wd}
/-- what stands at a, in a later world too -/
def StL (G : Cn) (B : Addr → Prop) (W0 : Wd) (a : Addr) (r : Src) : Prop := ∀ W, Ext W0 W → ∀ B', (∀ a, B a → B' a) → Rel G B' W → (∀ v d, Rep G B W0 v d → Rep G B' W v d) → r.okS W.st → ∃ vs, SqL G.K W.H a vs ∧ Reps G B' W vs r.items
def StT (G : Cn) (B : Addr → Prop) (W0 : Wd) (a : Addr) (r : Src) : Prop := ∀ W, Ext W0 W → ∀ B', (∀ a, B a → B' a) → Rel G B' W → (∀ v d, Rep G B W0 v d → Rep G B' W v d) → r.okS W.st → ∃ vs, SqT G.K W.H a vs ∧ Reps G B' W vs r.items
theorem Rep.stands {v : V} {d : D} {r : Src} (R : Rel G B W) (h : Rep G B W v d) (e : srcOf W.st d = some r) :
    (isT d = false ∧ ∃ a, v = .ref a ∧ (∃ xs, SqL G.K W.H a xs) ∧ StL G B W a r) ∨ (isT d = true ∧ ∃ a, v = .ref a ∧ (∃ xs, SqT G.K W.H a xs) ∧ StT G B W a r) := by
  have rl : ∀ {a : Addr} {xs : List D}, Rep G B W (.ref a) (.lst xs) → StL G B W a ⟨xs, []⟩ := fun {a xs} h W2 x B' hB R2 hR ok => by
    have z := hR _ _ h
    cases z with
    | lst h' n t => exact ⟨_, SqL.of h', t⟩
  have rf : ∀ {a : Addr} {xs : List D}, Rep G B W (.ref a) (.fro xs) → StL G B W a ⟨xs, []⟩ := fun {a xs} h W2 x B' hB R2 hR ok => by
    have z := hR _ _ h
    cases z with
    | fro h' t =>
      rcases h' with ⟨o, h'⟩ | ⟨o, its, n, k⟩
      · exact ⟨_, .inl (.inr ⟨o, h'⟩), t⟩
      · exact ⟨_, .inr ⟨o, its, n, k⟩, t⟩
  have rt : ∀ {a : Addr} {xs : List D}, Rep G B W (.ref a) (.tup xs) → StT G B W a ⟨xs, []⟩ := fun {a xs} h W2 x B' hB R2 hR ok => by
    have z := hR _ _ h
    cases z with
    | tup h' t => exact ⟨_, h', t⟩
  cases h with
  | tup h t => cases e; exact .inr ⟨rfl, _, rfl, ⟨_, h⟩, rt (.tup h t)⟩
  | lst h n t => cases e; exact .inl ⟨rfl, _, rfl, ⟨_, SqL.of h⟩, rl (.lst h n t)⟩
  | fro h t =>
    cases e
    refine .inl ⟨rfl, _, rfl, ?_, rf (.fro h t)⟩
    rcases h with ⟨o, h'⟩ | ⟨o, its, n, k⟩
    · exact ⟨_, .inl (.inr ⟨o, h'⟩)⟩
    · exact ⟨_, .inr ⟨o, its, n, k⟩⟩
  | @loc a n h =>
    cases q : W.st[n]? with
    | none => simp only [srcOf, q] at e; cases e
    | some c =>
      cases c with
      | lst xs =>
        simp only [srcOf, q] at e
        cases e
        obtain ⟨vs, h1, h2⟩ := R.cell n a _ h q
        refine .inl ⟨rfl, a, rfl, ⟨vs, SqL.of h1⟩, fun W2 x B' hB R2 hR ok => ?_⟩
        have z := hR _ _ (.loc h)
        have q2 := ok (n, xs) (by simp)
        cases z with
        | loc h' =>
          obtain ⟨us, h3, h4⟩ := R2.cell n a _ h' q2
          exact ⟨us, SqL.of h3, h4⟩
      | _ => simp only [srcOf, q] at e; cases e
  | _ => cases e
theorem okS_app {r s : Src} {items : List D} {st : Store} (h : Src.okS ⟨items, r.guard ++ s.guard⟩ st) : r.okS st ∧ s.okS st :=
  ⟨fun p hp => h p (List.mem_append.mpr (.inl hp)), fun p hp => h p (List.mem_append.mpr (.inr hp))⟩
theorem yields2 {T : Addr} (R : Rel G B W) (hT : W.H T = none) {x y : V} {d e : D} (rx : Rep G B W x d) (ry : Rep G B W y e) :
    ∃ W', W'.H = upd W.H T (.tup [x, y]) ∧ W'.st = W.st ∧ W'.r = W.r ∧ (∀ a o, W.H a = some o → upd W.H T (.tup [x, y]) a = some o) ∧ Ext W W' ∧ Rel G B W' ∧ Rep G B W' (.ref T) (.tup [d, e]) :=
  ⟨W.new T (.tup [x, y]), rfl, rfl, rfl, fun a o q => (upd_ne (ne_of_none q hT)).trans q, Ext.new R.len hT, R.new hT, .newT R hT (.cons rx (.cons ry .nil))⟩
theorem walks_zipL {a b : Addr} {r s : Src} (h1 : StL G B W0 a r) (h2 : StL G B W0 b s) : Walks G B W0 (Itz G.K a b) ⟨pairsD r.items s.items, r.guard ++ s.guard⟩ := by
  intro W x B' hB R hR ok
  obtain ⟨k1, k2⟩ := okS_app ok
  obtain ⟨vs, e1, t1⟩ := h1 W x B' hB R hR k1
  obtain ⟨us, e2, t2⟩ := h2 W x B' hB R hR k2
  refine ⟨fun i d e => ?_, fun i hi => ⟨vs, us, e1, e2, ?_⟩⟩
  · obtain ⟨dx, dy, h3, h4, rfl⟩ := pairs_get e
    obtain ⟨vx, g1, rx⟩ := t1.get h3
    obtain ⟨vy, g2, ry⟩ := t2.get h4
    refine ⟨⟨vs, us, vx, vy, e1, e2, g1, g2⟩, fun z H' y => ?_⟩
    obtain ⟨T, x', y', rfl, hT, rfl, y1, y2⟩ := y
    have q1 := y1 vs e1
    have q2 := y2 us e2
    rw [g1] at q1
    rw [g2] at q2
    cases q1
    cases q2
    exact yields2 R hT rx ry
  · rw [pairs_len] at hi
    rw [t1.length, t2.length]
    omega
theorem walks_zipT {a b : Addr} {r s : Src} (h1 : StT G B W0 a r) (h2 : StT G B W0 b s) : Walks G B W0 (RZ.ItzT G.K a b) ⟨pairsD r.items s.items, r.guard ++ s.guard⟩ := by
  intro W x B' hB R hR ok
  obtain ⟨k1, k2⟩ := okS_app ok
  obtain ⟨vs, e1, t1⟩ := h1 W x B' hB R hR k1
  obtain ⟨us, e2, t2⟩ := h2 W x B' hB R hR k2
  refine ⟨fun i d e => ?_, fun i hi => ⟨vs, us, e1, e2, ?_⟩⟩
  · obtain ⟨dx, dy, h3, h4, rfl⟩ := pairs_get e
    obtain ⟨vx, g1, rx⟩ := t1.get h3
    obtain ⟨vy, g2, ry⟩ := t2.get h4
    refine ⟨⟨vs, us, vx, vy, e1, e2, g1, g2⟩, fun z H' y => ?_⟩
    obtain ⟨T, x', y', rfl, hT, rfl, y1, y2⟩ := y
    have q1 := y1 vs e1
    have q2 := y2 us e2
    rw [g1] at q1
    rw [g2] at q2
    cases q1
    cases q2
    exact yields2 R hT rx ry
  · rw [pairs_len] at hi
    rw [t1.length, t2.length]
    omega
end
/-- zip(x, y): two lists or two tuples -/
def mZip (ms : M (List D)) : M Src := fun env st => (ms env st).bind fun ds s => match ds with
  | [d, e] => if isT d = isT e then (match srcOf s d, srcOf s e with
    | some r, some q => .ok ⟨pairsD r.items q.items, r.guard ++ q.guard⟩ s
    | _, _ => .bad) else .bad
  | _ => .bad
/-- enumerate(x): a list -/
def numD : Nat → List D → List D
  | _, [] => []
  | n, x :: xs => .tup [.int n, x] :: numD (n + 1) xs
theorem num_get : ∀ {xs : List D} {n i : Nat} {d : D}, (numD n xs)[i]? = some d → ∃ x, xs[i]? = some x ∧ d = .tup [.int ((n + i : Nat) : Int), x]
  | x :: xs, n, 0, d, e => by
    simp only [numD, List.getElem?_cons_zero, Option.some.injEq] at e
    exact ⟨x, rfl, e.symm⟩
  | x :: xs, n, i + 1, d, e => by
    simp only [numD, List.getElem?_cons_succ] at e
    obtain ⟨y, h1, h2⟩ := num_get e
    exact ⟨y, by simpa using h1, by rw [h2]; congr 4; omega⟩
  | [], _, _, _, e => by simp [numD] at e
theorem num_len : ∀ {xs : List D} {n : Nat}, (numD n xs).length = xs.length
  | [], _ => rfl
  | x :: xs, n => congrArg (· + 1) num_len
theorem walks_enum {G : Cn} {B : Addr → Prop} {W0 : Wd} {a : Addr} {r : Src} (h1 : StL G B W0 a r) : Walks G B W0 (Ite G.K a) ⟨numD 0 r.items, r.guard⟩ := by
  intro W x B' hB R hR ok
  obtain ⟨vs, e1, t1⟩ := h1 W x B' hB R hR ok
  refine ⟨fun i d e => ?_, fun i hi => ⟨vs, e1, ?_⟩⟩
  · obtain ⟨dx, h3, rfl⟩ := num_get e
    obtain ⟨vx, g1, rx⟩ := t1.get h3
    refine ⟨⟨vs, vx, e1, g1⟩, fun z H' y => ?_⟩
    obtain ⟨T, x', rfl, hT, rfl, y1⟩ := y
    have q1 := y1 vs e1
    rw [g1] at q1
    cases q1
    rw [Nat.zero_add]
    exact yields2 R hT (.int _) rx
  · rw [num_len] at hi
    rw [t1.length]
    exact hi
def mEnum (ms : M (List D)) : M Src := fun env st => (ms env st).bind fun ds s => match ds with
  | [d] => if isT d = false then (match srcOf s d with
    | some r => .ok ⟨numD 0 r.items, r.guard⟩ s
    | none => .bad) else .bad
  | _ => .bad
section
variable {X : Cx} {G : Cn} {E : ES} {e e2 : Expr} {ms : M (List D)} {p pos tpos : Pos} {elts : List Expr} {kk : Nat}
theorem ji_zip (hK : G.K = X.K) (hg : Gl X "zip") (hm : X.mg "zip" = none) (ha : PA X [e, e2] (tA G E ms))
    (hs : starEach [e, e2] X.env = (false, eval e X.env) :: starEach [e2] X.env := by rfl) (hpl : (backTo pos (starEach [e2] X.env)).any (·.1) = false := by rfl) : PI X (.Tuple elts kk tpos) (.Call (.Name "zip" p) [e, e2] [] pos) (tI G E (mZip ms)) := by
  refine PI.weak (RZ.pi_zipA hg hm ha hs hpl) fun σ H Q ⟨B, W, env, e, R, S, o⟩ => ?_
  subst e
  rw [← hK]
  refine tA_of R S o fun ds W1 vs x1 R1 S1 r1 o1 => ?_
  match ds, r1, o1 with
  | [d, f], .cons h1 (.cons h2 .nil), o1 =>
    by_cases c : isT d = isT f
    · simp only [if_pos c] at o1
      cases q1 : srcOf W1.st d with
      | none => simp only [q1] at o1; exact o1.elim
      | some r =>
        cases q2 : srcOf W1.st f with
        | none => simp only [q1, q2] at o1; exact o1.elim
        | some s =>
          simp only [q1, q2] at o1
          rcases h1.stands R1 q1 with ⟨t1, a, rfl, ⟨xs, e1⟩, w1⟩ | ⟨t1, a, rfl, ⟨xs, e1⟩, w1⟩
          · rcases h2.stands R1 q2 with ⟨t2, b, rfl, ⟨ys, e2⟩, w2⟩ | ⟨t2, b, rfl, ⟨ys, e2⟩, w2⟩
            · exact ⟨a, b, xs, ys, rfl, .inl ⟨e1, e2, o1.ret R1 _ (walks_zipL w1 w2)⟩⟩
            · rw [t1, t2] at c; cases c
          · rcases h2.stands R1 q2 with ⟨t2, b, rfl, ⟨ys, e2⟩, w2⟩ | ⟨t2, b, rfl, ⟨ys, e2⟩, w2⟩
            · rw [t1, t2] at c; cases c
            · exact ⟨a, b, xs, ys, rfl, .inr ⟨e1, e2, o1.ret R1 _ (walks_zipT w1 w2)⟩⟩
    · simp only [if_neg c] at o1
      exact o1.elim
theorem ji_enum (hK : G.K = X.K) (hg : Gl X "enumerate") (hm : X.mg "enumerate" = none) (ha : PA X [e] (tA G E ms))
    (hs : starEach [e] X.env = [(false, eval e X.env)] := by rfl) : PI X (.Tuple elts kk tpos) (.Call (.Name "enumerate" p) [e] [] pos) (tI G E (mEnum ms)) := by
  refine PI.weak (pi_enum hg hm ha hs) fun σ H Q ⟨B, W, env, e, R, S, o⟩ => ?_
  subst e
  rw [← hK]
  refine tA_of R S o fun ds W1 vs x1 R1 S1 r1 o1 => ?_
  match ds, r1, o1 with
  | [d], .cons h1 .nil, o1 =>
    by_cases c : isT d = false
    · simp only [if_pos c] at o1
      cases q1 : srcOf W1.st d with
      | none => simp only [q1] at o1; exact o1.elim
      | some r =>
        simp only [q1] at o1
        rcases h1.stands R1 q1 with ⟨t1, a, rfl, ⟨xs, e1⟩, w1⟩ | ⟨t1, a, rfl, ⟨xs, e1⟩, w1⟩
        · exact ⟨a, xs, rfl, e1, o1.ret R1 _ (walks_enum w1)⟩
        · rw [t1] at c; cases c
    · simp only [if_neg c] at o1
      exact o1.elim
end
end DL

set_option maxHeartbeats 2000000
/-! DLZ: the law's call, where its promise is one of FnG; a law's end. -/
namespace DL
open PySem PySem.Spec PyProof.Rows L2

/-- the only thing that may be tracked at the law's call: its script, locked -/
def scrH (on : Bool) (a : Addr) (o : Obj) (xs : List V) : Hp := fun b => bif on && b == a then some (.frz o (.lst xs)) else none
theorem scrH_some {on : Bool} {a b : Addr} {o : Obj} {xs : List V} {u : HO} (h : scrH on a o xs b = some u) : on = true ∧ b = a ∧ u = .frz o (.lst xs) := by
  unfold scrH at h
  cases on with
  | false => cases h
  | true =>
    cases q : b == a with
    | false => rw [q] at h; cases h
    | true => rw [q] at h; cases h; exact ⟨rfl, eq_of_beq q, rfl⟩
theorem scrH_at {a : Addr} {o : Obj} {xs : List V} : scrH true a o xs a = some (.frz o (.lst xs)) := by
  unfold scrH
  rw [beq_self_eq_true] <;> rfl
theorem rm_caller {k : Nat} (h : Room k callerA) : Rm k callerA := ⟨h, rfl⟩
/-- the law's def is called with its script -/
theorem lawG_call {P : Program} {w : World} {K : PySem.W.Frag} {mg mb : Str → Option Value} {k : Nat} {fa a : Addr} {fd : FuncData} {x : Str} {sp : Sp} {sh : Shared} {us : List Value} {zs : List Int}
    (inK : K.In sh.heap) (nG : sh.heap.Ns mainGlobals mg) (nB : sh.heap.Ns builtinsNs mb) (boot : ∀ y : Str, y ≠ "__name__" → mb y = bootBuiltins y) (noL : sh.heap.NoLimit) (noG : sh.gens = #[])
    (at_a : sh.heap.get? a = some { cls := .type "list", data := .seq us.toArray }) (are : IntsAre us zs) (le : zs.length ≤ sizeLine) (room : Room k callerA)
    (F : ∀ base : Heap, K.In base → base.Ns mainGlobals mg → FnG P w K mg base k fa fd [x] sp) (binds : ∀ (s : Shared) (u : Value), BindsTo s fd ⟨[u], []⟩ [(x, u)])
    (goal : ∀ H : Hp, Only H → SqL K H a (zs.map V.int) → sp [.ref a] H (fun v _ => v = .bl true) E0) :
    codeAny (model P w) callerA (.call (.ref fa) ⟨[.ref a], []⟩) (fun r s' => r = .ok (.ret (.bool true)) ∧ OldK sh.heap s'.heap ∧ s'.os = sh.os ∧ AllBare s'.gens) sh := by
  have valsU : Vals (zs.map V.int) us := vals_ints are
  have long : us.length = zs.length := are.length
  obtain ⟨on, hon⟩ : ∃ on : Bool, on = (K.lookup a).isNone := ⟨_, rfl⟩
  let ob : Obj := { cls := .type "list", data := .seq us.toArray }
  let T : Hp := scrH on a ob (zs.map V.int)
  have only : Only T := fun b => by
    cases q : T b with
    | none => exact .inl rfl
    | some u =>
      obtain ⟨_, _, rfl⟩ := scrH_some q
      exact .inr ⟨_, _, rfl⟩
  have reads : SqL K T a (zs.map V.int) := by
    cases hk : K.lookup a with
    | none =>
      rw [hk] at hon
      have e : on = true := hon
      refine .inl (.inr ⟨ob, ?_⟩)
      show scrH on a ob _ a = _
      rw [e]
      exact scrH_at
    | some o =>
      have e := (inK a o hk).symm.trans at_a
      cases e
      exact .inr ⟨_, us.toArray, _, hk, rfl, rfl, rfl, by rw [List.size_toArray, long]; exact le, by simpa using valsU⟩
  have fine : HOk P w T sh.heap := fun b u q => by
    obtain ⟨_, rfl, rfl⟩ := scrH_some q
    exact ⟨at_a, by rw [List.length_map]; exact le, us, _, valsU, at_a⟩
  have bare : ∀ {b : Addr} {o : Obj}, K.lookup b = some o → T b = none := fun {b o} e => by
    cases q : T b with
    | none => rfl
    | some u =>
      obtain ⟨e1, rfl, _⟩ := scrH_some q
      rw [e, e1] at hon
      cases hon
  have nod : ∀ {b : Addr} {o : Obj} {m : Array DictEntry} {n : Nat}, sh.heap.get? b = some o → o.data = .dict m n → T b = none := fun {b o m n} e d => by
    cases q : T b with
    | none => rfl
    | some u =>
      obtain ⟨_, rfl, _⟩ := scrH_some q
      have e2 := e.symm.trans at_a
      cases e2
      cases d
  have seen : ∀ {b : Addr} {m : Str → Option Value}, sh.heap.Ns b m → (hidT sh.heap T).Ns b m := fun h => by
    obtain ⟨o, m1, n1, e, d, r⟩ := h
    exact ⟨o, m1, n1, hidT_get e (nod e d), d, r⟩
  have inB : K.In (hidT sh.heap T) := fun b o e => hidT_get (inK b o e) (bare e)
  obtain ⟨mc, l1, l2⟩ := noL
  have env : Env0 P w K mg (hidT sh.heap T) callerA [] sh T :=
    ⟨rfl, ⟨inB, seen nG, ⟨mb, seen nB, boot⟩, ⟨mc, seen l1, l2⟩⟩, fun b o => of_hidT, Nat.le_of_eq (hidT_size _ _), trivial, fun b hb => (by cases (show b ∈ ([] : List Addr) from hb)), fine, .of_eq noG⟩
  have go := (F _ inB (seen nG)).go callerA [] sh T ⟨[.ref a], []⟩ [.ref a] [.ref a] _ E0 (rm_caller room) env (binds sh (.ref a)) (.cons rfl .nil) (goal T only reads)
  refine codeAny_mono go fun r s' fin => ?_
  match r, fin with
  | .error e, fin =>
    obtain ⟨_, _, _, _, _, _, _, _, _, _, _, _, z⟩ := fin
    exact z.elim
  | .ok (.ret u), fin =>
    obtain ⟨v, T', hos, hba, un, ok', ru, q⟩ := fin
    have q' : v = .bl true := q
    subst q'
    obtain rfl : u = Value.bool true := ru
    refine ⟨rfl, OldK.of_keep fun b o e => ?_, hos, hba⟩
    cases q : T b with
    | none => exact un.keep b o e q (fun z => by cases (show b ∈ ([] : List Addr) from z)) (by simp)
    | some t =>
      obtain ⟨_, _, rfl⟩ := scrH_some q
      have later := (ok' b _ (un.frzs b _ _ q)).1
      have early := (fine b _ q).1
      rw [early] at e
      cases e
      exact later
  | .ok .next, fin => exact fin.elim
  | .ok .brk, fin => exact fin.elim
  | .ok .cont, fin => exact fin.elim
/-- a law by its def's promise -/
theorem lawG {l : PySem.W.OpenLaw} {n k : Nat} {q : Program} {loose : List Str} {XP : (Str → Option Value) → Heap → Prop} {YP : World → Heap → Prop} {d : DefRec} {x : Str} (most : l.most = some n) (le : n ≤ sizeLine) (noD : d.params.defaults = []) (room : Room k callerA)
    (F : ∀ (w : World) (mg : Str → Option Value) (fa : Addr) (h : Heap), YP w h → h.Ns mainGlobals mg → mg d.name = some (.ref fa) →
      ∃ (K : PySem.W.Frag) (fd : FuncData) (sp : Sp), K.In h ∧ (∀ (s : Shared) (u : Value), BindsTo s fd ⟨[u], []⟩ [(x, u)]) ∧
        (∀ (H : Hp) (a : Addr) (zs : List Int), zs.length ≤ n → Only H → SqL K H a (zs.map V.int) → sp [.ref a] H (fun v _ => v = .bl true) E0) ∧
        ∀ base : Heap, K.In base → base.Ns mainGlobals mg → FnG l.prog w K mg base k fa fd [x] sp) :
    PySem.W.WalkO q loose XP YP l.row.toRowW d [] (fun f us => PySem.call f us) := by
  refine Att.attach_call most noD fun w s0 sh mg mb fa o pm cd doc a us zs G Y ho hd hcd hmg at_a are len noG => ?_
  obtain ⟨K, fd, sp, inK, binds, goal, hF⟩ := F w mg fa _ Y G.T.g hmg
  exact lawG_call inK G.T.g G.T.b G.T.builtins G.T.nolimit noG at_a are (Nat.le_trans len le) room hF binds fun H hO hS => goal H a zs len hO hS
/-- the script as data -/
theorem script_rep {G : Cn} {H : Hp} {a : Addr} {zs : List Int} (h0 : Only H) (h : SqL G.K H a (zs.map V.int)) : Rel G (fun _ => False) ⟨[], [], H⟩ ∧ Rep G (fun _ => False) ⟨[], [], H⟩ (.ref a) (.fro (zs.map D.int)) := by
  refine ⟨⟨rfl, List.nodup_nil, fun _ h => h.elim, fun n a c h => by simp at h, fun n a c h => by simp at h⟩, ?_⟩
  have t : ∀ zs : List Int, Reps G (fun _ => False) ⟨[], [], H⟩ (zs.map V.int) (zs.map D.int) := fun zs => by
    induction zs with
    | nil => exact .nil
    | cons z zs ih => exact .cons (.int z) ih
  rcases h with (h | ⟨o, h⟩) | h
  · rcases h0 a with z | ⟨o, xs, z⟩
    · rw [h] at z; cases z
    · rw [h] at z; cases z
  · exact .fro (.inl ⟨o, h⟩) (t zs)
  · exact .fro (.inr h) (t zs)
/-- the law's promise over trees -/
theorem sp_law {G : Cn} {fn : Fn} {n : Nat} (h : ∀ zs : List Int, zs.length ≤ n → ∃ s, fn [.fro (zs.map D.int)] [] = .ok (.bl true) s) : ∀ (H : Hp) (a : Addr) (zs : List Int), zs.length ≤ n → Only H → SqL G.K H a (zs.map V.int) → spOf G 1 fn [.ref a] H (fun v _ => v = .bl true) E0 := by
  intro H a zs hl hO hS
  obtain ⟨R, r⟩ := script_rep (G := G) hO hS
  refine ⟨rfl, _, ⟨[], [], H⟩, [.fro (zs.map D.int)], rfl, R, .cons r .nil, ?_⟩
  obtain ⟨s, e⟩ := h zs hl
  rw [e]
  intro W' x R' es v rv
  cases rv
  rfl
end DL


set_option maxHeartbeats 2000000
/-! DF: what the walks ask of the written part, as facts that the head finds. -/
namespace DL
open PySem PySem.Spec PyProof.Rows L2

def kdv (K : PySem.W.Frag) : Kd → Value
  | .ty n => .type n
  | .own c => .ref (He.ga K c)
  | .err c => .ref (He.ga K c)
inductive Fq where
  | fa (f : He.Fa) | isc (x : Str) | isx (x : Str) | oex (x : Str) | ini (x : Str) | prop (x m : Str) | stat (x m : Str) | isa (a b : Kd) (r : Bool) | xf (x : Str) | same (x y : Str) | isas (rows : List ((Kd × Kd) × Bool)) | hits (x : Str) (rows : List (Str × Bool))
def eqV (a b : Option Value) : Bool := decide (a = b)
def eqB (a b : Option Bool) : Bool := decide (a = b)
def clsFacts (K : PySem.W.Frag) (C : Addr) : Bool := He.eqO (PySem.W.findIn K (.ref C) "__class__") (some (some (.builtin "object.__class__"))) && (He.eqO (PySem.W.specialIn K (.builtin "object.__class__") "__get__") (some (some (.builtin "getset_descriptor.__get__"))) && (eqB (PySem.W.takesIn K (.builtin "object.__class__")) (some true) && eqB (PySem.W.mroIn K C (.type "object")) (some true)))
def excFacts (K : PySem.W.Frag) (C : Addr) : Bool := (PySem.W.clsIn K C).isSome && (He.eqO (PySem.W.findIn K (.ref C) "__getattribute__") (some (some (.builtin "BaseException.__getattribute__"))) && (He.eqO (PySem.W.findIn K (.ref C) "__getattr__") (some none) && eqB (PySem.W.subIn K (.ref C) (.type "BaseException")) (some true)))
def oexB (K : PySem.W.Frag) (C : Addr) : Bool := match K.lookup C with
  | some ⟨.type "type", _, .cls cd, ⟨[_, _, _, _, some (.builtin n), _]⟩⟩ => (match cd.mro with
    | .ref C' :: bm => decide (C' = C) && (decide (n = "ValueError.__new__") && (cd.hasDict && (!cd.hasDel && PySem.HandSPX.refsVE bm)))
    | _ => false)
  | _ => false
def Fq.ok (K : PySem.W.Frag) : Fq → Bool
  | .fa f => f.ok K
  | .isc x => (He.Fa.cls x).ok K && clsFacts K (He.ga K x)
  | .isx x => excFacts K (He.ga K x) && clsFacts K (He.ga K x)
  | .oex x => oexB K (He.ga K x) && (He.eqO (PySem.W.findIn K (.ref (He.ga K x)) "__setattr__") (some (some (.builtin "object.__setattr__"))) && (eqB (PySem.W.subIn K (.ref (He.ga K x)) (.type "BaseException")) (some true) && (eqV (PySem.W.typeIn K (.ref (He.ga K x))) (some (.type "type")) && PySem.W.keepIn K (.ref (He.ga K x)))))
  | .ini x => He.eqO (PySem.W.findIn K (.ref (He.ga K x)) "__init__") (some (some (.ref (He.ma K (He.ga K x) "__init__")))) && eqV (PySem.W.typeIn K (.ref (He.ma K (He.ga K x) "__init__"))) (some (.type "function"))
  | .prop x m => He.eqO (PySem.W.findIn K (.ref (He.ga K x)) m) (some (some (.ref (He.ma K (He.ga K x) m)))) && (He.eqO (PySem.W.specialIn K (.ref (He.ma K (He.ga K x) m)) "__get__") (some (some (.builtin "property.__get__"))) && (eqB (PySem.W.takesIn K (.ref (He.ma K (He.ga K x) m))) (some true) && (match PySem.W.recIn K (He.ma K (He.ga K x) m) "property" with
    | some (.ref _ :: _) => true
    | _ => false)))
  | .stat x m => He.eqO (PySem.W.specialIn K (.ref (He.ga K x)) "__getattribute__") (some (some (.builtin "type.__getattribute__"))) && (PySem.W.readsIn K (He.ga K x) (.type "type") && ((match PySem.W.findCls K (.ref (He.ga K x)) (.type "type") m with
    | some (.get (.builtin g) (.ref p) .none (.ref c)) => decide (g = "staticmethod.__get__") && (decide (p = He.ma K (He.ga K x) m) && decide (c = He.ga K x))
    | _ => false) && ((match PySem.W.recIn K (He.ma K (He.ga K x) m) "staticmethod" with
    | some (.ref _ :: _) => true
    | _ => false) && PySem.W.keepIn K (.ref (DH.pS x m K)))))
  | .isa a b r => eqB (PySem.W.kitOne K (kdv K a) (kdv K b)) (some r)
  | .xf x => xfB K (He.ga K x)
  | .same x y => decide (He.ga K x = He.ga K y)
  | .isas rows => (rows.all fun r => eqB (PySem.W.kitOne K (kdv K r.1.1) (kdv K r.1.2)) (some r.2)) && rows.all fun r => match r.1.1 with
    | .own c => (He.Fa.cls c).ok K && clsFacts K (He.ga K c)
    | .err c => excFacts K (He.ga K c) && clsFacts K (He.ga K c)
    | .ty _ => true
  | .hits x rows => rows.all fun r => eqB (PySem.W.exmOne K (.ref (He.ga K r.1)) (.ref (He.ga K x))) (some r.2)
section
variable {K : PySem.W.Frag} {x m : Str}
theorem eqB_ok {a b : Option Bool} (h : eqB a b = true) : a = b := of_decide_eq_true h
theorem eqV_ok {a b : Option Value} (h : eqV a b = true) : a = b := of_decide_eq_true h
theorem isc_ok (h : (Fq.isc x).ok K = true) : IsaC K (He.ga K x) := by
  obtain ⟨h0, h⟩ := He.ba h
  obtain ⟨h1, h⟩ := He.ba h
  obtain ⟨h2, h⟩ := He.ba h
  obtain ⟨h3, h4⟩ := He.ba h
  exact ⟨He.cls_ok h0, He.eqO_ok h1, He.eqO_ok h2, eqB_ok h3, eqB_ok h4⟩
theorem isx_ok (h : (Fq.isx x).ok K = true) : IsaX K (He.ga K x) := by
  obtain ⟨h0, h⟩ := He.ba h
  obtain ⟨h1, h⟩ := He.ba h
  obtain ⟨h2, h⟩ := He.ba h
  obtain ⟨h3, h4⟩ := He.ba h
  obtain ⟨g1, g⟩ := He.ba h0
  obtain ⟨g2, g⟩ := He.ba g
  obtain ⟨g3, g4⟩ := He.ba g
  exact ⟨g1, He.eqO_ok g2, He.eqO_ok g3, eqB_ok g4, He.eqO_ok h1, He.eqO_ok h2, eqB_ok h3, eqB_ok h4⟩
theorem oexB_ok {C : Addr} (h : oexB K C = true) : ∃ nm q N bs bm sn sub ab col dd k0 k1 k2 k3 k5, K.lookup C = some (excClassObj nm q C N bs bm true sn sub ab col dd k0 k1 k2 k3 k5 "ValueError.__new__") ∧ PySem.HandSPX.refsVE bm = true := by
  unfold oexB at h
  split at h
  · rename_i dd cd k0 k1 k2 k3 n k5 ho
    obtain ⟨nm, bs, mro, ns, qn, hd, sn, sub, ab, col, del⟩ := cd
    split at h
    · rename_i C' bm em
      dsimp only at em
      subst em
      obtain ⟨h1, h⟩ := He.ba h
      obtain ⟨h2, h⟩ := He.ba h
      obtain ⟨h3, h⟩ := He.ba h
      obtain ⟨h4, h5⟩ := He.ba h
      have e1 := of_decide_eq_true h1
      have e2 := of_decide_eq_true h2
      subst e1 e2
      have e3 : hd = true := h3
      have e4 : del = false := by simpa using h4
      subst e3 e4
      exact ⟨_, _, _, _, bm, _, _, _, _, _, _, _, _, _, _, ho, h5⟩
    · cases h
  · cases h
theorem oex_ok (h : (Fq.oex x).ok K = true) : OexC K (He.ga K x) := by
  obtain ⟨h0, h⟩ := He.ba h
  obtain ⟨h1, h⟩ := He.ba h
  obtain ⟨h2, h⟩ := He.ba h
  obtain ⟨h3, h4⟩ := He.ba h
  exact ⟨oexB_ok h0, He.eqO_ok h1, eqB_ok h2, eqV_ok h3, h4⟩
theorem ini_ok (h : (Fq.ini x).ok K = true) : PySem.W.findIn K (.ref (He.ga K x)) "__init__" = some (some (.ref (DH.pM x "__init__" K))) ∧ PySem.W.typeIn K (.ref (DH.pM x "__init__" K)) = some (.type "function") := by
  obtain ⟨h0, h⟩ := He.ba h
  exact ⟨He.eqO_ok h0, eqV_ok h⟩
theorem prop_ok (h : (Fq.prop x m).ok K = true) : PropOf K (He.ga K x) m (He.ma K (He.ga K x) m) (DH.pP x m K) := by
  obtain ⟨h0, h⟩ := He.ba h
  obtain ⟨h1, h⟩ := He.ba h
  obtain ⟨h2, h3⟩ := He.ba h
  refine ⟨He.eqO_ok h0, He.eqO_ok h1, eqB_ok h2, ?_⟩
  unfold DH.pP
  split at h3
  · rename_i g rest e
    rw [e]
    exact ⟨_, rfl⟩
  · cases h3
theorem stat_ok (h : (Fq.stat x m).ok K = true) : Stat K (He.ga K x) m (He.ma K (He.ga K x) m) (DH.pS x m K) := by
  obtain ⟨h0, h⟩ := He.ba h
  obtain ⟨h1, h⟩ := He.ba h
  obtain ⟨h2, h⟩ := He.ba h
  obtain ⟨h3, h4⟩ := He.ba h
  refine ⟨He.eqO_ok h0, h1, ?_, ?_, h4⟩
  · split at h2
    · rename_i g p c e
      obtain ⟨g1, h2⟩ := He.ba h2
      obtain ⟨g2, g3⟩ := He.ba h2
      rw [e, of_decide_eq_true g1, of_decide_eq_true g2, of_decide_eq_true g3]
    · cases h2
  · unfold DH.pS
    split at h3
    · rename_i g rest e
      rw [e]
      exact ⟨_, rfl⟩
    · cases h3
theorem isa_ok {a b : Kd} {r : Bool} (h : (Fq.isa a b r).ok K = true) : PySem.W.kitOne K (kdv K a) (kdv K b) = some r := eqB_ok h
end
/-- the constants of a text: its classes are where its globals tell -/
abbrev cnOf (K : PySem.W.Frag) : Cn := { K := K, cl := fun c => He.ga K c }
theorem kdv_eq {K : PySem.W.Frag} : ∀ k : Kd, kdv K k = k.val (cnOf K)
  | .ty _ => rfl
  | .own _ => rfl
  | .err _ => rfl
/-- isinstance by rows -/
def isaR (rows : List ((Kd × Kd) × Bool)) : Isa := fun a b => match a, b with
  | .ty n, .ty m => kitB n m
  | a, b => rows.lookup (a, b)
theorem look_mem {α β : Type} [BEq α] [LawfulBEq α] {k : α} {r : β} : ∀ {l : List (α × β)}, l.lookup k = some r → (k, r) ∈ l
  | [], h => by cases h
  | (a, b) :: l, h => by
    rw [List.lookup_cons] at h
    cases q : k == a with
    | true =>
      rw [q] at h
      cases h
      rw [eq_of_beq q]
      exact List.mem_cons_self
    | false =>
      rw [q] at h
      exact List.mem_cons_of_mem _ (look_mem h)
theorem isaR_look {rows : List ((Kd × Kd) × Bool)} {a b : Kd} {r : Bool} (h : isaR rows a b = some r) : (∃ n m, a = .ty n ∧ b = .ty m ∧ kitB n m = some r) ∨ ((a, b), r) ∈ rows := by
  cases a with
  | ty n =>
    cases b with
    | ty m => exact .inl ⟨n, m, rfl, rfl, h⟩
    | _ => exact .inr (look_mem h)
  | _ => exact .inr (look_mem h)
theorem isaR_ok {K : PySem.W.Frag} {rows : List ((Kd × Kd) × Bool)} (h : (Fq.isas rows).ok K = true) : IsaOk (cnOf K) (isaR rows) := by
  obtain ⟨h1, h2⟩ := He.ba h
  refine ⟨fun a b r e => ?_, fun c b r e => ?_, fun c b r e => ?_⟩
  · rcases isaR_look e with ⟨n, m, rfl, rfl, e⟩ | m
    · exact kit_ty e
    · have z := eqB_ok (List.all_eq_true.mp h1 _ m)
      rw [kdv_eq, kdv_eq] at z
      exact z
  · rcases isaR_look e with ⟨n, m, q, _⟩ | m
    · cases q
    · exact isc_ok (x := c) (List.all_eq_true.mp h2 _ m)
  · rcases isaR_look e with ⟨n, m, q, _⟩ | m
    · cases q
    · exact isx_ok (x := c) (List.all_eq_true.mp h2 _ m)
def hitR (rows : List (Str × Bool)) : Str → Option Bool := fun c => rows.lookup c
theorem hitR_ok {K : PySem.W.Frag} {x : Str} {rows : List (Str × Bool)} (h : (Fq.hits x rows).ok K = true) : HitOk K (cnOf K) (.ref (He.ga K x)) (hitR rows) := fun c b e => eqB_ok (List.all_eq_true.mp h _ (look_mem e))
theorem same_ok {K : PySem.W.Frag} {x y : Str} (h : (Fq.same x y).ok K = true) : He.ga K x = He.ga K y := of_decide_eq_true h
theorem fn_zero {P : Program} {w : World} {G : Cn} {mg : Str → Option Value} {base : Heap} {k n : Nat} {f : Addr} {fd : FuncData} {ps : List Str} (h : n = ps.length) : FnG P w G.K mg base k f fd ps (spOf G n fun _ _ => .bad) :=
  ⟨fun vs H Q E q => q.1.trans h, fun A outer s H args us vs Q E rm e b r ⟨_, _, _, _, _, _, _, o⟩ => o.elim⟩
end DL

set_option maxHeartbeats 2000000
/-! DJ: the rules in short, as a printed walk uses them. -/
namespace DL
open PySem PySem.Spec PyProof.Rows L2

section
variable {X : Cx} {G : Cn} {E : ES} {XW : WX} {a b c e o i : Expr} {es : List Expr} {ma mb mc m mo mi mv : M D} {ms : M (List D)} {pos p p1 p2 apos pos' : Pos}
theorem jv (i : Nat) {x : Str} (hN : X.N[i]? = some x := by rfl) (hv : Vis X.env.scope x := by first | exact Or.inl rfl | exact Or.inr (Or.inl rfl) | exact Or.inr (Or.inr rfl)) (hd : (x == ("__debug__" : Str)) = false := by decide)
    (hcd : (x == ("__classdict__" : Str)) = false := by decide) : PE X (.Name x pos) (tE G E (mVar i)) := je_var i (pe_var hN hv hd hcd)
/-! operators -/
theorem j_add (ha : PE X a (tE G E ma)) (hb : PE X b (tE G E mb)) (hK : G.K = X.K := by rfl) : PE X (.BinOp a .Add b pos) (tE G E (mOp opAdd ma mb)) := je_op op_addA (by rw [← hK]; exact os_add) ha hb
theorem j_sub (ha : PE X a (tE G E ma)) (hb : PE X b (tE G E mb)) : PE X (.BinOp a .Sub b pos) (tE G E (mOp opSub ma mb)) := je_op op_sub os_sub ha hb
theorem j_mul (ha : PE X a (tE G E ma)) (hb : PE X b (tE G E mb)) : PE X (.BinOp a .Mult b pos) (tE G E (mOp opMul ma mb)) := je_op op_mulB os_mul ha hb
theorem j_div (ha : PE X a (tE G E ma)) (hb : PE X b (tE G E mb)) : PE X (.BinOp a .FloorDiv b pos) (tE G E (mOp opDiv ma mb)) := je_op op_fdiv os_div ha hb
theorem j_mod (ha : PE X a (tE G E ma)) (hb : PE X b (tE G E mb)) : PE X (.BinOp a .Mod b pos) (tE G E (mOp opMod ma mb)) := je_op op_mod os_mod ha hb
theorem j_pow (ha : PE X a (tE G E ma)) (hb : PE X b (tE G E mb)) : PE X (.BinOp a .Pow b pos) (tE G E (mOp opPow ma mb)) := je_op op_pow os_pow ha hb
theorem j_ix (ha : PE X a (tE G E ma)) (hb : PE X b (tE G E mb)) (hK : G.K = X.K := by rfl) (hp : PlainIx b := by intro _ _; rfl) : PE X (.Subscript a b pos) (tE G E (mOp opIx ma mb)) := je_ix ix_seq (by rw [← hK]; exact os_ix) ha hb hp
/-! comparisons -/
theorem j_lt (ha : PE X a (tE G E ma)) (hb : PE X b (tE G E mb)) : PE X (.Compare a [.Lt] [b] pos) (tE G E (mOp opLtI ma mb)) := je_cmp op_lt os_cmpI ha hb (nomark _)
theorem j_le (ha : PE X a (tE G E ma)) (hb : PE X b (tE G E mb)) : PE X (.Compare a [.LtE] [b] pos) (tE G E (mOp opLeI ma mb)) := je_cmp op_le os_cmpI ha hb (nomark _)
theorem j_gt (ha : PE X a (tE G E ma)) (hb : PE X b (tE G E mb)) : PE X (.Compare a [.Gt] [b] pos) (tE G E (mOp opGtI ma mb)) := je_cmp op_gt os_cmpI ha hb (nomark _)
theorem j_ge (ha : PE X a (tE G E ma)) (hb : PE X b (tE G E mb)) : PE X (.Compare a [.GtE] [b] pos) (tE G E (mOp opGeI ma mb)) := je_cmp op_ge os_cmpI ha hb (nomark _)
theorem j_isN (ha : PE X a (tE G E ma)) (hb : PE X b (tE G E mb)) : PE X (.Compare a [.Is] [b] pos) (tE G E (mOp (opIsN false) ma mb)) := je_cmp op_isN os_isN ha hb (nomark _)
theorem j_notN (ha : PE X a (tE G E ma)) (hb : PE X b (tE G E mb)) : PE X (.Compare a [.IsNot] [b] pos) (tE G E (mOp (opIsN true) ma mb)) := je_cmp op_notN os_notN ha hb (nomark _)
theorem j_eq (hu : X.A.units + 64 < cLine) (ha : PE X a (tE G E ma)) (hb : PE X b (tE G E mb)) (hK : G.K = X.K := by rfl) : PE X (.Compare a [.Eq] [b] pos) (tE G E (mOp (opEqD false) ma mb)) := je_cmp (op_eqD hu) (by rw [← hK]; exact os_eqD) ha hb (nomark _)
theorem j_ne (hu : X.A.units + 64 < cLine) (ha : PE X a (tE G E ma)) (hb : PE X b (tE G E mb)) (hK : G.K = X.K := by rfl) : PE X (.Compare a [.NotEq] [b] pos) (tE G E (mOp (opEqD true) ma mb)) := je_cmp (op_neD hu) (by rw [← hK]; exact os_neD) ha hb (nomark _)
theorem j_in (ha : PE X a (tE G E ma)) (hb : PE X b (tE G E mb)) (hK : G.K = X.K := by rfl) (hm : behindInMarks .In b = false := by rfl) : PE X (.Compare a [.In] [b] pos) (tE G E (mOp (opIn false) ma mb)) := je_cmp op_in_seq (by rw [← hK]; exact os_in) ha hb hm
theorem j_notIn (ha : PE X a (tE G E ma)) (hb : PE X b (tE G E mb)) (hK : G.K = X.K := by rfl) (hm : behindInMarks .NotIn b = false := by rfl) : PE X (.Compare a [.NotIn] [b] pos) (tE G E (mOp (opIn true) ma mb)) := je_cmp op_notIn_seq (by rw [← hK]; exact os_in) ha hb hm
theorem jt_lt (ha : PE X a (tE G E ma)) (hb : PE X b (tE G E mb)) : PT X (.Compare a [.Lt] [b] pos) (tT G E (mTest (mOp opLtI ma mb))) := jt_cmp op_lt os_cmpI ha hb (nomark _)
theorem jt_le (ha : PE X a (tE G E ma)) (hb : PE X b (tE G E mb)) : PT X (.Compare a [.LtE] [b] pos) (tT G E (mTest (mOp opLeI ma mb))) := jt_cmp op_le os_cmpI ha hb (nomark _)
theorem jt_gt (ha : PE X a (tE G E ma)) (hb : PE X b (tE G E mb)) : PT X (.Compare a [.Gt] [b] pos) (tT G E (mTest (mOp opGtI ma mb))) := jt_cmp op_gt os_cmpI ha hb (nomark _)
theorem jt_ge (ha : PE X a (tE G E ma)) (hb : PE X b (tE G E mb)) : PT X (.Compare a [.GtE] [b] pos) (tT G E (mTest (mOp opGeI ma mb))) := jt_cmp op_ge os_cmpI ha hb (nomark _)
theorem jt_isN (ha : PE X a (tE G E ma)) (hb : PE X b (tE G E mb)) : PT X (.Compare a [.Is] [b] pos) (tT G E (mTest (mOp (opIsN false) ma mb))) := jt_cmp op_isN os_isN ha hb (nomark _)
theorem jt_notN (ha : PE X a (tE G E ma)) (hb : PE X b (tE G E mb)) : PT X (.Compare a [.IsNot] [b] pos) (tT G E (mTest (mOp (opIsN true) ma mb))) := jt_cmp op_notN os_notN ha hb (nomark _)
theorem jt_eq (hu : X.A.units + 64 < cLine) (ha : PE X a (tE G E ma)) (hb : PE X b (tE G E mb)) (hK : G.K = X.K := by rfl) : PT X (.Compare a [.Eq] [b] pos) (tT G E (mTest (mOp (opEqD false) ma mb))) := jt_cmp (op_eqD hu) (by rw [← hK]; exact os_eqD) ha hb (nomark _)
theorem jt_ne (hu : X.A.units + 64 < cLine) (ha : PE X a (tE G E ma)) (hb : PE X b (tE G E mb)) (hK : G.K = X.K := by rfl) : PT X (.Compare a [.NotEq] [b] pos) (tT G E (mTest (mOp (opEqD true) ma mb))) := jt_cmp (op_neD hu) (by rw [← hK]; exact os_neD) ha hb (nomark _)
theorem jt_in (ha : PE X a (tE G E ma)) (hb : PE X b (tE G E mb)) (hK : G.K = X.K := by rfl) (hm : behindInMarks .In b = false := by rfl) : PT X (.Compare a [.In] [b] pos) (tT G E (mTest (mOp (opIn false) ma mb))) := jt_cmp op_in_seq (by rw [← hK]; exact os_in) ha hb hm
theorem jt_notIn (ha : PE X a (tE G E ma)) (hb : PE X b (tE G E mb)) (hK : G.K = X.K := by rfl) (hm : behindInMarks .NotIn b = false := by rfl) : PT X (.Compare a [.NotIn] [b] pos) (tT G E (mTest (mOp (opIn true) ma mb))) := jt_cmp op_notIn_seq (by rw [← hK]; exact os_in) ha hb hm
theorem j_t (h : PE X e (tE G E m)) (hK : G.K = X.K := by rfl) (he : ∀ whole, isTrue e X.env whole = (do let v ← whole; standAt e.pos; holding [v] (truthy v)) := by intro _; rfl) : PT X e (tT G E (mTru m)) := jt_tru hK h he
theorem j_not (ha : PE X a (tE G E ma)) (hK : G.K = X.K := by rfl) : PE X (.UnaryOp .Not a pos) (tE G E (mNot ma)) := je_not hK ha
/-! built-in functions -/
section
variable (ha : PA X (e :: es) (tA G E ms)) (he : starEach (e :: es) X.env = (false, eval e X.env) :: starEach es X.env) (hpl : (backTo pos (starEach es X.env)).any (·.1) = false)
include ha
theorem jb_len (hm : X.mg "len" = none) (hK : G.K = X.K := by rfl) (hg : Gl X "len" := by rfl) (he : starEach (e :: es) X.env = (false, eval e X.env) :: starEach es X.env := by rfl) (hpl : (backTo pos (starEach es X.env)).any (·.1) = false := by rfl) : PE X (.Call (.Name "len" p) (e :: es) [] pos) (tE G E (mCall fLen ms)) := je_callB call_len (by rw [← hK]; exact cs_len) hg hm boot_len ha (he := he) (hpl := hpl)
theorem jb_abs (hm : X.mg "abs" = none) (hg : Gl X "abs" := by rfl) (he : starEach (e :: es) X.env = (false, eval e X.env) :: starEach es X.env := by rfl) (hpl : (backTo pos (starEach es X.env)).any (·.1) = false := by rfl) : PE X (.Call (.Name "abs" p) (e :: es) [] pos) (tE G E (mCall fAbs ms)) := je_callB call_abs cs_abs hg hm (by decide +kernel) ha (he := he) (hpl := hpl)
theorem jb_max (hc : X.calm = true) (hm : X.mg "max" = none) (hg : Gl X "max" := by rfl) (he : starEach (e :: es) X.env = (false, eval e X.env) :: starEach es X.env := by rfl) (hpl : (backTo pos (starEach es X.env)).any (·.1) = false := by rfl) : PE X (.Call (.Name "max" p) (e :: es) [] pos) (tE G E (mCall fMax2 ms)) := je_callB (call_max2 hc) cs_max2 hg hm (by decide +kernel) ha (he := he) (hpl := hpl)
theorem jb_min (hc : X.calm = true) (hm : X.mg "min" = none) (hg : Gl X "min" := by rfl) (he : starEach (e :: es) X.env = (false, eval e X.env) :: starEach es X.env := by rfl) (hpl : (backTo pos (starEach es X.env)).any (·.1) = false := by rfl) : PE X (.Call (.Name "min" p) (e :: es) [] pos) (tE G E (mCall fMin2 ms)) := je_callB (call_min2 hc) cs_min2 hg hm (by decide +kernel) ha (he := he) (hpl := hpl)
theorem jb_sum (hc : X.calm = true) (hm : X.mg "sum" = none) (hK : G.K = X.K := by rfl) (hg : Gl X "sum" := by rfl) (he : starEach (e :: es) X.env = (false, eval e X.env) :: starEach es X.env := by rfl) (hpl : (backTo pos (starEach es X.env)).any (·.1) = false := by rfl) : PE X (.Call (.Name "sum" p) (e :: es) [] pos) (tE G E (mCall (fS gSum) ms)) := je_callB (call_sumA hc) (by rw [← hK]; exact cs_sumA) hg hm (by decide +kernel) ha (he := he) (hpl := hpl)
theorem jb_all (hc : X.calm = true) (hm : X.mg "all" = none) (hK : G.K = X.K := by rfl) (hg : Gl X "all" := by rfl) (he : starEach (e :: es) X.env = (false, eval e X.env) :: starEach es X.env := by rfl) (hpl : (backTo pos (starEach es X.env)).any (·.1) = false := by rfl) : PE X (.Call (.Name "all" p) (e :: es) [] pos) (tE G E (mCall (fL gAll) ms)) := je_callB (cr_all hc) (by rw [← hK]; exact cs_all) hg hm (by decide +kernel) ha (he := he) (hpl := hpl)
theorem jb_any (hc : X.calm = true) (hm : X.mg "any" = none) (hK : G.K = X.K := by rfl) (hg : Gl X "any" := by rfl) (he : starEach (e :: es) X.env = (false, eval e X.env) :: starEach es X.env := by rfl) (hpl : (backTo pos (starEach es X.env)).any (·.1) = false := by rfl) : PE X (.Call (.Name "any" p) (e :: es) [] pos) (tE G E (mCall (fL gAny) ms)) := je_callB (cr_any hc) (by rw [← hK]; exact cs_any) hg hm (by decide +kernel) ha (he := he) (hpl := hpl)
theorem jb_int (hm : X.mg "int" = none) (hg : Gl X "int" := by rfl) (he : starEach (e :: es) X.env = (false, eval e X.env) :: starEach es X.env := by rfl) (hpl : (backTo pos (starEach es X.env)).any (·.1) = false := by rfl) : PE X (.Call (.Name "int" p) (e :: es) [] pos) (tE G E (mCall fInt ms)) := je_callT call_int1 cs_int hg hm (by decide +kernel) ha (he := he) (hpl := hpl)
theorem jb_tuple (hm : X.mg "tuple" = none) (hK : G.K = X.K := by rfl) (hg : Gl X "tuple" := by rfl) (he : starEach (e :: es) X.env = (false, eval e X.env) :: starEach es X.env := by rfl) (hpl : (backTo pos (starEach es X.env)).any (·.1) = false := by rfl) : PE X (.Call (.Name "tuple" p) (e :: es) [] pos) (tE G E (mCall fTup ms)) := je_callT call_tuple_of (by rw [← hK]; exact cs_tup) hg hm (by decide +kernel) ha (he := he) (hpl := hpl)
theorem jb_list (hm : X.mg "list" = none) (hK : G.K = X.K := by rfl) (hg : Gl X "list" := by rfl) (he : starEach (e :: es) X.env = (false, eval e X.env) :: starEach es X.env := by rfl) (hpl : (backTo pos (starEach es X.env)).any (·.1) = false := by rfl) : PE X (.Call (.Name "list" p) (e :: es) [] pos) (tE G E (mCall fList ms)) := je_callT call_list_of (by rw [← hK]; exact cs_list) hg hm (by decide +kernel) ha (he := he) (hpl := hpl)
theorem jb_listC (hm : X.mg "list" = none) (hK : G.K = X.K := by rfl) (hg : Gl X "list" := by rfl) (he : starEach (e :: es) X.env = (false, eval e X.env) :: starEach es X.env := by rfl) (hpl : (backTo pos (starEach es X.env)).any (·.1) = false := by rfl) : PE X (.Call (.Name "list" p) (e :: es) [] pos) (tE G E (mCall fListC ms)) := je_callT call_list_of (by rw [← hK]; exact cs_listC) hg hm (by decide +kernel) ha (he := he) (hpl := hpl)
end
/-! methods of lists -/
theorem j_app (ho : PE X o (tE G E mo)) (ha : PA X (e :: es) (tA G E ms)) (hK : G.K = X.K := by rfl) (hbase : attributeBase o "append" X.env (eval o X.env) = eval o X.env := by rfl)
    (hfew : ((backTo pos (starEach (e :: es) X.env)).all (fun x => !x.1) && (backToKw pos (keywordEach [] X.env)).all (fun x => x.1.isSome)
      && decide ((e :: es).length + ([] : List Keyword).length + (if ([] : List Keyword).isEmpty then 0 else 1) < 30)) = true := by rfl)
    (hline : (apos.endLine == pos.line) = true := by rfl) (hs : starEach (e :: es) X.env = (false, eval e X.env) :: starEach es X.env := by rfl) (hpl : (backTo pos (starEach es X.env)).any (·.1) = false := by rfl) :
    PE X (.Call (.Attribute o "append" apos) (e :: es) [] pos) (tE G E (mApp mo ms)) := je_app hK ho ha (pe_bm PySem.F.plainAttrs_list PySem.F.slot_list_append PySem.F.type_list_append mt_append ho ha hbase hfew hline hs hpl)
theorem j_popAt (ho : PE X o (tE G E mo)) (ha : PA X (e :: es) (tA G E ms)) (hK : G.K = X.K := by rfl) (hbase : attributeBase o "pop" X.env (eval o X.env) = eval o X.env := by rfl)
    (hfew : ((backTo pos (starEach (e :: es) X.env)).all (fun x => !x.1) && (backToKw pos (keywordEach [] X.env)).all (fun x => x.1.isSome)
      && decide ((e :: es).length + ([] : List Keyword).length + (if ([] : List Keyword).isEmpty then 0 else 1) < 30)) = true := by rfl)
    (hline : (apos.endLine == pos.line) = true := by rfl) (hs : starEach (e :: es) X.env = (false, eval e X.env) :: starEach es X.env := by rfl) (hpl : (backTo pos (starEach es X.env)).any (·.1) = false := by rfl) :
    PE X (.Call (.Attribute o "pop" apos) (e :: es) [] pos) (tE G E (mPopAt mo ms)) := je_popAt hK (pe_bm PySem.F.plainAttrs_list PySem.F.slot_list_pop PySem.F.type_list_pop mt_popAt ho ha hbase hfew hline hs hpl)
/-! dicts by value: none, one key -/
theorem Rep.newD {B : Addr → Prop} {W : Wd} {q : Addr} (R : Rel G B W) (h : W.H q = none) {kvs : List (Key × V)} {ks : List Key} {ds : List D} (e : kvs.map (·.1) = ks) (r : Reps G B W (kvs.map (·.2)) ds) : Rep G B (W.new q (.dK kvs)) (.ref q) (.dct ks ds) := .dct upd_same (R.notMu h) e (r.new R h)
theorem j_dnew : PE X (.Dict [] [] pos) (tE G E (mC (.dct [] []))) := PE.weak pe_dnewK fun σ H Q ⟨B, W, env, e, R, S, o⟩ => by
  subst e
  intro q hq
  exact o (W.new q (.dK [])) (Ext.new R.len hq) (R.new hq) rfl _ (Rep.newD R hq rfl .nil)
theorem j_dict1 {k v : Int} {j1 j2} : PE X (.Dict [some (.Constant (.int k) j1 p1)] [.Constant (.int v) j2 p2] pos) (tE G E (mC (.dct [.inl k] [.int v]))) := PE.weak (pe_disp (pps_cons pe_int pe_int pps_nil) rfl rfl (by simp) (by simp)) fun σ H Q ⟨B, W, env, e, R, S, o⟩ => by
  subst e
  intro q hq
  refine ⟨upd_same, [(.inl k, .int v)], rfl, by simp, ?_⟩
  have e2 : upd (upd W.H q (.dK [])) q (.dK (mergeK [] [(.inl k, .int v)])) = (W.new q (.dK [(.inl k, .int v)])).H := by
    funext b
    show _ = upd W.H q _ b
    rw [upd_at, upd_at, upd_at]
    by_cases hb : b = q
    · rw [if_pos hb, if_pos hb]; rfl
    · rw [if_neg hb, if_neg hb, if_neg hb]
  rw [e2]
  exact o _ (Ext.new R.len hq) (R.new hq) rfl _ (Rep.newD R hq rfl (.cons (.int v) .nil))
/-! statements -/
theorem j_set {x : Str} (i : Nat) (hN : X.N.Nodup) (he : PE X e (tE G (eX XW) m)) (hi : X.N[i]? = some x := by rfl) (hx : Loc X.env.scope x := by first | exact Or.inl rfl | exact Or.inr rfl) (hs : swapsWith e (some (.Name x pos')) pos.line X.env = pure false := by rfl)
    (hf : X.fn x = true ∨ X.env.scope.names.lookup x = some .local := by first | exact .inl rfl | exact .inr rfl) : PS X (.Assign [.Name x pos'] e pos) (tS G XW (sSet i m)) := js_set (ps_set hN hi hx he hs hf)
theorem j_subset (hv : PE X e (tE G (eX XW) mv)) (ho : PE X o (tE G (eX XW) mo)) (hi : PE X i (tE G (eX XW) mi)) (hK : G.K = X.K := by rfl) (ha : ∀ v, assign (.Subscript o i pos') X.env v = (do
      let ov ← holding [v] (eval o X.env)
      let iv ← holding [v, ov] (eval i X.env)
      standAt pos'
      holding [v, ov, iv] (setItem ov iv v)
      release [v, ov, iv] []) := by intro _; rfl) (hs : swapsWithSole [.Subscript o i pos'] e pos.line X.env = pure false := by rfl) (hw : swappedStores [.Subscript o i pos'] e X.env = pure none := by rfl)
    (h1 : (assignEach [.Subscript o i pos'] X.env).map (·.2) = [assign (.Subscript o i pos') X.env] := by rfl) : PS X (.Assign [.Subscript o i pos'] e pos) (tS G XW (sSub mo mi mv)) := js_sub hK (ps_asg hv (pg_sub ho hi set_list ha) hs hw h1)
theorem jg_name {x : Str} (i : Nat) (hN : X.N.Nodup) (hi : X.N[i]? = some x := by rfl) (hx : Loc X.env.scope x := by first | exact Or.inl rfl | exact Or.inr rfl) (hf : X.fn x = true ∨ X.env.scope.names.lookup x = some .local := by first | exact .inl rfl | exact .inr rfl) : PG X (.Name x pos) (gT X.K (.nm i)) := jg_nm (pg_name hN hi hx hf)
theorem pss0 : Pss X e0 := fun pins σ H s e s' I h => by
  obtain ⟨_, _, _, _, _, _, _, _, _, _, _, _, z⟩ := h
  exact z.elim
end
/-- a def that may be called -/
def Fk (P : Program) (w : World) (K : PySem.W.Frag) (mg : Str → Option Value) (base : Heap) (k : Nat) (f : Addr) (ps : List Str) (sp : Sp) : Prop := ∃ fd, FnG P w K mg base k f fd ps sp ∧ Binds K fd ps [] ∧ PySem.W.keepIn K (.ref f) = true
section
variable {X : Cx} {G : Cn} {E : ES} {x : Str} {p pos : Pos} {e o : Expr} {es : List Expr} {ms : M (List D)} {fn : Fn} {mo : M D} {k j n : Nat} {f : Addr} {ps : List Str} {m c : Str} {apos : Pos}
theorem j_call (F : Fk X.prog X.w X.K X.mg X.base j f ps (spOf G n fn)) (le : j ≤ k) (rm : Rm k X.A) (hm : X.mg x = some (.ref f)) (hx : Pss X E) (ha : PA X (e :: es) (tA G E ms)) (hg : Gl X x := by rfl)
    (hdb : (x == ("__debug__" : Str)) = false := by decide) (he : starEach (e :: es) X.env = (false, eval e X.env) :: starEach es X.env := by rfl) (hpl : (backTo pos (starEach es X.env)).any (·.1) = false := by rfl) : PE X (.Call (.Name x p) (e :: es) [] pos) (tE G E (mCall (ar n fn) ms)) := by
  obtain ⟨fd, F, b, kp⟩ := F
  exact je_call (F.mono le) rm hg hm kp b hx ha hdb he hpl
theorem j_call0 (F : Fk X.prog X.w X.K X.mg X.base j f ps (spOf G n fn)) (le : j ≤ k) (rm : Rm k X.A) (hm : X.mg x = some (.ref f)) (hx : Pss X E) (hg : Gl X x := by rfl)
    (hdb : (x == ("__debug__" : Str)) = false := by decide) : PE X (.Call (.Name x p) [] [] pos) (tE G E (mCall (ar n fn) mNil)) := by
  obtain ⟨fd, F, b, kp⟩ := F
  exact je_call0 (F.mono le) rm hg hm kp b hx hdb
theorem j_make (F : Fk X.prog X.w X.K X.mg X.base j f ps (spOf G n fn)) (le : j + 1 ≤ k) (rm : Rm k X.A) (Mk0 : Mk X.K (G.cl c) f) (hm : X.mg x = some (.ref (G.cl c))) (hx : Pss X E) (ha : PA X (e :: es) (tA G E ms)) (hg : Gl X x := by rfl)
    (hdb : (x == ("__debug__" : Str)) = false := by decide) (he : starEach (e :: es) X.env = (false, eval e X.env) :: starEach es X.env := by rfl) (hpl : (backTo pos (starEach es X.env)).any (·.1) = false := by rfl) : PE X (.Call (.Name x p) (e :: es) [] pos) (tE G E (mCall (mkF c (ar n fn)) ms)) := by
  obtain ⟨fd, F, b, kp⟩ := F
  exact je_make Mk0 F (rm.mono le) hg hm b hx ha hdb he hpl
theorem j_prop {pp : Addr} (F : Fk X.prog X.w X.K X.mg X.base j f ps (spOf G 1 fn)) (le : j + 1 ≤ k) (rm : Rm k X.A) (hc : Cls X.K (G.cl c)) (hp : PropOf X.K (G.cl c) m pp f) (he : PE X o (tE G E mo))
    (hab : attributeBase o m X.env (eval o X.env) = eval o X.env := by rfl) : PE X (.Attribute o m pos) (tE G E (mProp c fn mo)) := by
  obtain ⟨fd, F, b, kp⟩ := F
  exact je_prop he hc hp F (rm.mono le) b hab
theorem j_stat0 {C pp : Addr} {p2 : Pos} {pl : Sem Bool} (F : Fk X.prog X.w X.K X.mg X.base j f ps (spOf G n fn)) (le : j ≤ k) (rm : Rm k X.A) (hg : Gl X x) (hm : X.mg x = some (.ref C)) (T : Stat X.K C m pp f) (hx : Pss X E)
    (ht : eval (.Call (.Attribute (.Name x p2) m apos) [] [] pos) X.env = (do
      let ov ← eval (.Name x p2) X.env
      standAt apos.atName
      let (g, first) ← holding [ov] (getMethod ov m pl)
      callWith pos g first (backTo pos (starEach [] X.env)) (backToKw pos (keywordEach [] X.env))) := by rfl) (hdb : (x == ("__debug__" : Str)) = false := by decide) : PE X (.Call (.Attribute (.Name x p2) m apos) [] [] pos) (tE G E (mCall (ar n fn) mNil)) := by
  obtain ⟨fd, F, b, kp⟩ := F
  exact je_stat0 (pl := pl) hg hm T (F.mono le) rm b hx ht hdb
theorem j_meth {pl : Sem Bool} (F : Fk X.prog X.w X.K X.mg X.base j f ps (spOf G n fn)) (le : j ≤ k) (rm : Rm k X.A) (hc : Cls X.K (G.cl c)) (hm : Meth X.K (G.cl c) m f) (hx : Pss X E) (he : PE X o (tE G E mo)) (ha : PA X (e :: es) (tA G E ms))
    (hst : starEach (e :: es) X.env = (false, eval e X.env) :: starEach es X.env := by rfl) (hpl : (backTo pos (starEach es X.env)).any (·.1) = false := by rfl)
    (ht : eval (.Call (.Attribute o m apos) (e :: es) [] pos) X.env = (do
      let ov ← eval o X.env
      standAt apos.atName
      let (g, first) ← holding [ov] (getMethod ov m pl)
      callWith pos g first (backTo pos (starEach (e :: es) X.env)) (backToKw pos (keywordEach [] X.env))) := by rfl) : PE X (.Call (.Attribute o m apos) (e :: es) [] pos) (tE G E (mMeth c m (ar n fn) mo ms)) := by
  obtain ⟨fd, F, b, kp⟩ := F
  exact je_meth (pl := pl) he hc hm (F.mono le) rm b hx ha hst hpl ht
theorem j_meth0 {pl : Sem Bool} (F : Fk X.prog X.w X.K X.mg X.base j f ps (spOf G n fn)) (le : j ≤ k) (rm : Rm k X.A) (hc : Cls X.K (G.cl c)) (hm : Meth X.K (G.cl c) m f) (hx : Pss X E) (he : PE X o (tE G E mo))
    (ht : eval (.Call (.Attribute o m apos) [] [] pos) X.env = (do
      let ov ← eval o X.env
      standAt apos.atName
      let (g, first) ← holding [ov] (getMethod ov m pl)
      callWith pos g first (backTo pos (starEach [] X.env)) (backToKw pos (keywordEach [] X.env))) := by rfl) : PE X (.Call (.Attribute o m apos) [] [] pos) (tE G E (mMeth c m (ar n fn) mo mNil)) := by
  obtain ⟨fd, F, b, kp⟩ := F
  exact je_meth0 (pl := pl) he hc hm (F.mono le) rm b hx ht
end
end DL

set_option maxHeartbeats 2000000
/-! DP: plain reckoning over the meanings. -/
namespace DL
open PySem PySem.Spec PyProof.Rows L2

/-! isinstance among the language's own -/
@[simp] theorem kb_nonetype_int : kitB "NoneType" "int" = some false := by decide +kernel
@[simp] theorem kb_nonetype_bool : kitB "NoneType" "bool" = some false := by decide +kernel
@[simp] theorem kb_nonetype_str : kitB "NoneType" "str" = some false := by decide +kernel
@[simp] theorem kb_nonetype_tuple : kitB "NoneType" "tuple" = some false := by decide +kernel
@[simp] theorem kb_nonetype_list : kitB "NoneType" "list" = some false := by decide +kernel
@[simp] theorem kb_nonetype_dict : kitB "NoneType" "dict" = some false := by decide +kernel
@[simp] theorem kb_bool_int : kitB "bool" "int" = some true := by decide +kernel
@[simp] theorem kb_bool_bool : kitB "bool" "bool" = some true := by decide +kernel
@[simp] theorem kb_bool_str : kitB "bool" "str" = some false := by decide +kernel
@[simp] theorem kb_bool_tuple : kitB "bool" "tuple" = some false := by decide +kernel
@[simp] theorem kb_bool_list : kitB "bool" "list" = some false := by decide +kernel
@[simp] theorem kb_bool_dict : kitB "bool" "dict" = some false := by decide +kernel
@[simp] theorem kb_int_int : kitB "int" "int" = some true := by decide +kernel
@[simp] theorem kb_int_bool : kitB "int" "bool" = some false := by decide +kernel
@[simp] theorem kb_int_str : kitB "int" "str" = some false := by decide +kernel
@[simp] theorem kb_int_tuple : kitB "int" "tuple" = some false := by decide +kernel
@[simp] theorem kb_int_list : kitB "int" "list" = some false := by decide +kernel
@[simp] theorem kb_int_dict : kitB "int" "dict" = some false := by decide +kernel
@[simp] theorem kb_str_int : kitB "str" "int" = some false := by decide +kernel
@[simp] theorem kb_str_bool : kitB "str" "bool" = some false := by decide +kernel
@[simp] theorem kb_str_str : kitB "str" "str" = some true := by decide +kernel
@[simp] theorem kb_str_tuple : kitB "str" "tuple" = some false := by decide +kernel
@[simp] theorem kb_str_list : kitB "str" "list" = some false := by decide +kernel
@[simp] theorem kb_str_dict : kitB "str" "dict" = some false := by decide +kernel
@[simp] theorem kb_tuple_int : kitB "tuple" "int" = some false := by decide +kernel
@[simp] theorem kb_tuple_bool : kitB "tuple" "bool" = some false := by decide +kernel
@[simp] theorem kb_tuple_str : kitB "tuple" "str" = some false := by decide +kernel
@[simp] theorem kb_tuple_tuple : kitB "tuple" "tuple" = some true := by decide +kernel
@[simp] theorem kb_tuple_list : kitB "tuple" "list" = some false := by decide +kernel
@[simp] theorem kb_tuple_dict : kitB "tuple" "dict" = some false := by decide +kernel
@[simp] theorem kb_list_int : kitB "list" "int" = some false := by decide +kernel
@[simp] theorem kb_list_bool : kitB "list" "bool" = some false := by decide +kernel
@[simp] theorem kb_list_str : kitB "list" "str" = some false := by decide +kernel
@[simp] theorem kb_list_tuple : kitB "list" "tuple" = some false := by decide +kernel
@[simp] theorem kb_list_list : kitB "list" "list" = some true := by decide +kernel
@[simp] theorem kb_list_dict : kitB "list" "dict" = some false := by decide +kernel
@[simp] theorem kb_dict_int : kitB "dict" "int" = some false := by decide +kernel
@[simp] theorem kb_dict_bool : kitB "dict" "bool" = some false := by decide +kernel
@[simp] theorem kb_dict_str : kitB "dict" "str" = some false := by decide +kernel
@[simp] theorem kb_dict_tuple : kitB "dict" "tuple" = some false := by decide +kernel
@[simp] theorem kb_dict_list : kitB "dict" "list" = some false := by decide +kernel
@[simp] theorem kb_dict_dict : kitB "dict" "dict" = some true := by decide +kernel
/-! statements, one by one -/
section
variable {a b : SM} {env env' : Sl} {st st' : Store} {m : M D} {d : D} {i : Nat} {r : R Fl}
theorem seq_nx (h : a env st = .ok (.nx env') st') : sSeq a b env st = b env' st' := by
  show thenS (a env st) b = _
  rw [h] <;> rfl
theorem seq_end (h : a env st = .ok (.rt d) st') : sSeq a b env st = .ok (.rt d) st' := by
  show thenS (a env st) b = _
  rw [h] <;> rfl
theorem seq_xc {e : Ex} (h : a env st = .ok (.xc e env') st') : sSeq a b env st = .ok (.xc e env') st' := by
  show thenS (a env st) b = _
  rw [h] <;> rfl
theorem set_ok (h : m env st = .ok d st') : sSet i m env st = .ok (.nx (env.set i (some d))) st' := by
  show lift (m env st) env _ = _
  rw [h] <;> rfl
theorem ret_ok (h : m env st = .ok d st') : sRet m env st = .ok (.rt d) st' := by
  show lift (m env st) env _ = _
  rw [h] <;> rfl
theorem drop_ok (h : m env st = .ok d st') : sDrop m env st = .ok (.nx env) st' := by
  show lift (m env st) env _ = _
  rw [h] <;> rfl
theorem if_t {c : M Bool} (h : c env st = .ok true st') : sIf c a b env st = a env st' := by
  show lift (c env st) env _ = _
  rw [h] <;> rfl
theorem if_f {c : M Bool} (h : c env st = .ok false st') : sIf c a b env st = b env st' := by
  show lift (c env st) env _ = _
  rw [h] <;> rfl
theorem asg_ok {t : Tgt} (h : m env st = .ok d st') (hb : bindT t d env = some env') : sAsg t m env st = .ok (.nx env') st' := by
  show lift (m env st) env _ = _
  rw [h, lift_ok, hb] <;> rfl
theorem fnB_rt {n nn : Nat} {mm : SM} {ds : List D} (hl : ds.length = n) (h : mm (ds.map some ++ List.replicate (nn - n) none) st = .ok (.rt d) st') : fnB n nn mm ds st = .ok d st' := by
  unfold fnB
  rw [if_pos hl, h]
theorem fnB_nx {n nn : Nat} {mm : SM} {ds : List D} (hl : ds.length = n) (h : mm (ds.map some ++ List.replicate (nn - n) none) st = .ok (.nx env') st') : fnB n nn mm ds st = .ok .non st' := by
  unfold fnB
  rw [if_pos hl, h]
theorem fnB_xc {n nn : Nat} {mm : SM} {ds : List D} {e : Ex} (hl : ds.length = n) (h : mm (ds.map some ++ List.replicate (nn - n) none) st = .ok (.xc e env') st') : fnB n nn mm ds st = .exc e st' := by
  unfold fnB
  rw [if_pos hl, h]
theorem ar_ok {n : Nat} {fn : Fn} {ds : List D} (hl : ds.length = n) : ar n fn ds st = fn ds st := if_pos hl
end
/-! loops by an invariant -/
theorem okS_nil {items : List D} {st : Store} : Src.okS ⟨items, []⟩ st := fun _ h => by cases h
section
variable {t : Tgt} {body : SM} {src : Src}
theorem for_inv (I : Nat → Sl → Store → Prop) : ∀ (ds : List D) (k : Nat) (env : Sl) (st : Store), (∀ j d env s, k ≤ j → ds[j - k]? = some d → I j env s → src.okS s ∧ ∃ env1 env2 s2, bindT t d env = some env1 ∧ (body env1 s = .ok (.nx env2) s2 ∨ body env1 s = .ok (.ct env2) s2) ∧ I (j + 1) env2 s2) →
    (∀ env s, I (k + ds.length) env s → src.okS s) → I k env st → ∃ env2 s2, forGo t body src ds env st = .ok (.nx env2) s2 ∧ I (k + ds.length) env2 s2
  | [], k, env, st, _, hf, h => by
    refine ⟨env, st, ?_, h⟩
    unfold forGo
    rw [if_pos (hf env st h)]
  | d :: ds, k, env, st, step, hf, h => by
    obtain ⟨ok, env1, env2, s2, hb, hr, hI⟩ := step k d env st (Nat.le_refl _) (by simp) h
    have e : k + (d :: ds).length = k + 1 + ds.length := by simp; omega
    obtain ⟨env3, s3, h3, h4⟩ := for_inv I ds (k + 1) env2 s2 (fun j d' env s hj hd hI => step j d' env s (by omega) (by
      have e2 : j - k = (j - (k + 1)) + 1 := by omega
      rw [e2, List.getElem?_cons_succ]; exact hd) hI) (fun env s hI => hf env s (by rw [e]; exact hI)) hI
    refine ⟨env3, s3, ?_, by rw [e]; exact h4⟩
    unfold forGo
    rw [if_pos ok, hb]
    rcases hr with hr | hr <;> simp only [hr] <;> exact h3
theorem forGo_nil {env : Sl} {st : Store} (ok : src.okS st) : forGo t body src [] env st = .ok (.nx env) st := by
  unfold forGo
  rw [if_pos ok]
theorem forGo_nx {d : D} {ds : List D} {env env1 env2 : Sl} {st s : Store} (ok : src.okS st) (hb : bindT t d env = some env1) (h : body env1 st = .ok (.nx env2) s) : forGo t body src (d :: ds) env st = forGo t body src ds env2 s := by
  conv => lhs; unfold forGo
  rw [if_pos ok, hb]
  simp only [h]
theorem forGo_rt {d z : D} {ds : List D} {env env1 : Sl} {st s : Store} (ok : src.okS st) (hb : bindT t d env = some env1) (h : body env1 st = .ok (.rt z) s) : forGo t body src (d :: ds) env st = .ok (.rt z) s := by
  unfold forGo
  rw [if_pos ok, hb]
  simp only [h]
theorem forGo_xc {d : D} {ds : List D} {e : Ex} {env env1 env2 : Sl} {st s : Store} (ok : src.okS st) (hb : bindT t d env = some env1) (h : body env1 st = .ok (.xc e env2) s) : forGo t body src (d :: ds) env st = .ok (.xc e env2) s := by
  unfold forGo
  rw [if_pos ok, hb]
  simp only [h]
theorem sFor_ok {mi : M Src} {env : Sl} {st s1 : Store} (hm : mi env st = .ok src s1) : sFor t mi body env st = forGo t body src src.items env s1 := by
  show lift (mi env st) env _ = _
  rw [hm] <;> rfl
end
section
variable {t : Tgt} {tt : M Bool} {te : M D} {src : Src} {env : Sl}
theorem lc_inv (I : Nat → List D → Store → Prop) : ∀ (ds : List D) (k : Nat) (acc : List D) (st : Store),
    (∀ j d acc s, k ≤ j → ds[j - k]? = some d → I j acc s → src.okS s ∧ ∃ env1, bindT t d env = some env1 ∧ ((∃ s2, tt env1 s = .ok false s2 ∧ I (j + 1) acc s2) ∨ ∃ s2 y s3, tt env1 s = .ok true s2 ∧ te env1 s2 = .ok y s3 ∧ acc.length < sizeLine ∧ I (j + 1) (acc ++ [y]) s3)) →
    (∀ acc s, I (k + ds.length) acc s → src.okS s) → I k acc st → ∃ acc2 s2, lcGo t tt te src env ds acc st = .ok (.lst acc2) s2 ∧ I (k + ds.length) acc2 s2
  | [], k, acc, st, _, hf, h => by
    refine ⟨acc, st, ?_, h⟩
    unfold lcGo
    rw [if_pos (hf acc st h)]
  | d :: ds, k, acc, st, step, hf, h => by
    obtain ⟨ok, env1, hb, hr⟩ := step k d acc st (Nat.le_refl _) (by simp) h
    have e : k + (d :: ds).length = k + 1 + ds.length := by simp; omega
    have next : ∀ acc2 s2, I (k + 1) acc2 s2 → ∃ acc3 s3, lcGo t tt te src env ds acc2 s2 = .ok (.lst acc3) s3 ∧ I (k + 1 + ds.length) acc3 s3 := fun acc2 s2 hI => lc_inv I ds (k + 1) acc2 s2 (fun j d' acc s hj hd hI => step j d' acc s (by omega) (by
      have e2 : j - k = (j - (k + 1)) + 1 := by omega
      rw [e2, List.getElem?_cons_succ]; exact hd) hI) (fun acc s hI => hf acc s (by rw [e]; exact hI)) hI
    unfold lcGo
    rw [if_pos ok, hb]
    rcases hr with ⟨s2, h1, hI⟩ | ⟨s2, y, s3, h1, h2, hl, hI⟩
    · obtain ⟨acc3, s3, h3, h4⟩ := next acc s2 hI
      exact ⟨acc3, s3, by simp only [h1]; exact h3, by rw [e]; exact h4⟩
    · obtain ⟨acc3, s4, h3, h4⟩ := next (acc ++ [y]) s3 hI
      exact ⟨acc3, s4, by simp only [h1, h2, if_pos hl]; exact h3, by rw [e]; exact h4⟩
/-- .. where nothing changes: filtered, then mapped -/
theorem lc_map {p : D → Bool} {g : D → D} {st : Store} (ok : src.okS st) : ∀ (ds : List D) (acc : List D), acc.length + ds.length ≤ sizeLine → (∀ d ∈ ds, ∃ env1, bindT t d env = some env1 ∧ tt env1 st = .ok (p d) st ∧ (p d = true → te env1 st = .ok (g d) st)) →
    lcGo t tt te src env ds acc st = .ok (.lst (acc ++ (ds.filter p).map g)) st
  | [], acc, _, _ => by
    unfold lcGo
    rw [if_pos ok]
    simp
  | d :: ds, acc, hl, h => by
    obtain ⟨env1, hb, h1, h2⟩ := h d (by simp)
    have hl' : acc.length + 1 + ds.length ≤ sizeLine := by simp only [List.length_cons] at hl; omega
    unfold lcGo
    rw [if_pos ok, hb]
    simp only [h1]
    cases q : p d with
    | false => simp only [List.filter_cons, q]; exact lc_map ok ds acc (by omega) fun d' hd => h d' (by simp [hd])
    | true =>
      simp only [h2 q, List.filter_cons, q, if_true, List.map_cons]
      rw [if_pos (by omega), lc_map ok ds (acc ++ [g d]) (by simp; omega) fun d' hd => h d' (by simp [hd]), List.append_assoc]
      rfl
end
theorem lc_ok_of {t : Tgt} {mi : M Src} {tt : M Bool} {te : M D} {own : List Nat} {env : Sl} {st s1 : Store} {src : Src} (hm : mi env st = .ok src s1) : mLc t mi tt te own env st = lcGo t tt te src (wipeD env own) src.items [] s1 := by
  unfold mLc
  rw [hm] <;> rfl
/-! evaluation, for simp -/
section
variable {a b : SM} {env env' : Sl} {st st' : Store} {m ma mb mc mo mi mv : M D} {ms : M (List D)} {d : D} {i : Nat} {fn : Fn} {ct ca cb : M Bool} {f g : D → D → Store → R D} {k : Sl → Store → R Fl}
@[simp] theorem ev_var : mVar i env st = (match env[i]? with | some (some d) => .ok d st | _ => .bad) := rfl
@[simp] theorem ev_c : mC d env st = .ok d st := rfl
@[simp] theorem ev_op : mOp f ma mb env st = (ma env st).bind fun x s1 => (mb env s1).bind fun y s2 => f x y s2 := rfl
@[simp] theorem ev_nil : mNil env st = .ok [] st := rfl
@[simp] theorem ev_cons : mCons m ms env st = (m env st).bind fun d s => (ms env s).bind fun ds s2 => .ok (d :: ds) s2 := rfl
@[simp] theorem ev_tup : mTup ms env st = (ms env st).bind fun ds s => if ds.length ≤ sizeLine then .ok (.tup ds) s else .bad := rfl
@[simp] theorem ev_lst : mLst ms env st = (ms env st).bind fun ds s => if ds.length ≤ sizeLine then .ok (.lst ds) s else .bad := rfl
@[simp] theorem ev_lstC : mLstC ms env st = (ms env st).bind fun ds s => if ds.length ≤ sizeLine then .ok (.loc s.length) (s ++ [Cell.lst ds]) else .bad := rfl
@[simp] theorem ev_call : mCall fn ms env st = (ms env st).bind fn := rfl
@[simp] theorem ev_test : mTest m env st = (m env st).bind fun d s => match d with | .bl b => .ok b s | _ => .bad := rfl
@[simp] theorem ev_tru : mTru m env st = (m env st).bind fun d s => match tru s d with | some b => .ok b s | none => .bad := rfl
@[simp] theorem ev_andT : mAndT ca cb env st = (ca env st).bind fun c s => if c then cb env s else .ok false s := rfl
@[simp] theorem ev_orT : mOrT ca cb env st = (ca env st).bind fun c s => if c then .ok true s else cb env s := rfl
@[simp] theorem ev_notT : mNotT ca env st = (ca env st).bind fun c s => .ok (!c) s := rfl
@[simp] theorem ev_and : mAnd ma mb env st = (ma env st).bind fun x s => match x with | .bl true => mb env s | .bl false => .ok (.bl false) s | _ => .bad := rfl
@[simp] theorem ev_or : mOr ma mb env st = (ma env st).bind fun x s => match x with | .bl true => .ok (.bl true) s | .bl false => mb env s | _ => .bad := rfl
@[simp] theorem ev_not : mNot ma env st = (ma env st).bind fun x s => match tru s x with | some b => .ok (.bl (!b)) s | none => .bad := rfl
@[simp] theorem ev_neg : mNeg ma env st = (ma env st).bind fun x s => match x with | .int i => .ok (.int (-i)) s | _ => .bad := rfl
@[simp] theorem ev_if : mIf ct ma mb env st = (ct env st).bind fun k s => if k then ma env s else mb env s := rfl
@[simp] theorem ev_chain : mChain f g ma mb mc env st = (ma env st).bind fun x s1 => (mb env s1).bind fun y s2 => (f x y s2).bind fun z s3 => match z with
  | .bl true => (mc env s3).bind fun w s4 => g y w s4
  | .bl false => .ok (.bl false) s3
  | _ => .bad := rfl
@[simp] theorem ev_isi {isa : Isa} {ks : List Kd} : mIsi isa ks m env st = (m env st).bind fun d s => match kd s d with
  | some k => (match isaAny isa k ks with
    | some b => .ok (.bl b) s
    | none => .bad)
  | none => .bad := rfl
@[simp] theorem ev_fld {c f : Str} : mFld c f mo env st = (mo env st).bind fun d s => match insOf s d with
  | some (c', ns, vs) => if c' = c then (match (ns.zip vs).lookup f with
    | some z => .ok z s
    | none => .bad) else .bad
  | none => .bad := rfl
@[simp] theorem ev_seq : sSeq a b env st = thenS (a env st) b := rfl
@[simp] theorem then_nx : thenS (.ok (.nx env) st) k = k env st := rfl
@[simp] theorem then_rt : thenS (.ok (.rt d) st) k = .ok (.rt d) st := rfl
@[simp] theorem then_xc {e : Ex} : thenS (.ok (.xc e env) st) k = .ok (.xc e env) st := rfl
@[simp] theorem then_bk : thenS (.ok (.bk env) st) k = .ok (.bk env) st := rfl
@[simp] theorem then_ct : thenS (.ok (.ct env) st) k = .ok (.ct env) st := rfl
@[simp] theorem ev_sNil : sNil env st = .ok (.nx env) st := rfl
@[simp] theorem ev_set : sSet i m env st = lift (m env st) env fun d s => .ok (.nx (env.set i (some d))) s := rfl
@[simp] theorem ev_ret : sRet m env st = lift (m env st) env fun d s => .ok (.rt d) s := rfl
@[simp] theorem ev_retN : sRetN env st = .ok (.rt .non) st := rfl
@[simp] theorem ev_drop : sDrop m env st = lift (m env st) env fun d s => .ok (.nx env) s := rfl
@[simp] theorem ev_sIf : sIf ct a b env st = lift (ct env st) env fun k s => if k then a env s else b env s := rfl
@[simp] theorem ev_asg {t : Tgt} : sAsg t m env st = lift (m env st) env fun d s => match bindT t d env with
  | some env' => .ok (.nx env') s
  | none => .bad := rfl
@[simp] theorem ev_sub : sSub mo mi mv env st = lift (mv env st) env fun d s1 => lift (mo env s1) env fun x s2 => lift (mi env s2) env fun i s3 => match listAt s3 x, i with
  | some (n, xs), .int k => (match ixN xs.length k with
    | some j => .ok (.nx env) (s3.set n (.lst (xs.set j d)))
    | none => .bad)
  | _, _ => .bad := rfl
@[simp] theorem ev_setF {c f : Str} : DL.sFld c f mo mv env st = lift (mv env st) env fun d s1 => lift (mo env s1) env fun x s2 => match x with
  | .loc n => (match s2[n]? with
    | some (.ins c' ns vs) => if c' = c ∧ ns.length < 1000 then .ok (.nx env) (s2.set n (.ins c (putN f d ns vs).1 (putN f d ns vs).2)) else .bad
    | _ => .bad)
  | _ => .bad := rfl
@[simp] theorem ev_raise {c : Str} {names : List Str} : sRaise c names ms env st = lift (ms env st) env fun ds s => if ds.length = names.length then .ok (.xc ⟨c, names.reverse, ds.reverse⟩ env) s else .bad := rfl
theorem sz (n : Nat) (h : n ≤ 1000000) : (n ≤ sizeLine) = True := by rw [sizeLine_eq]; simp; omega
end
/-! lists of numbers -/
theorem pys_ints : ∀ zs : List Int, D.pys (zs.map .int) = some (zs.map PyData.int)
  | [] => rfl
  | z :: zs => by simp [D.pys, D.py, pys_ints zs]
theorem lay_ints : ∀ zs : List Int, PyData.canLayAll0 (zs.map PyData.int) = true
  | [] => rfl
  | z :: zs => by simp [PyData.canLayAll0, PyData.canLay0, lay_ints zs]
theorem dep_ints : ∀ zs : List Int, PyData.depthAll (zs.map PyData.int) ≤ 0 + 1
  | [] => by simp [PyData.depthAll]
  | z :: zs => by
    have h := dep_ints zs
    simp only [List.map_cons, PyData.depthAll]
    have : PyData.depth (.int z) ≤ 1 := by simp [PyData.depth]
    omega
theorem shaped_ints (zs : List Int) : SeqAt.shaped (.list (zs.map PyData.int)) = true := by
  unfold SeqAt.shaped
  have h := dep_ints zs
  have e1 : PyData.canLay0 (.list (zs.map PyData.int)) = true := by simp [PyData.canLay0, lay_ints]
  have e2 : PyData.depth (.list (zs.map PyData.int)) = PyData.depthAll (zs.map PyData.int) + 1 := by simp [PyData.depth]
  rw [e1, e2]
  simp
  omega
theorem shaped_nil : SeqAt.shaped (.list []) = true := shaped_ints []
/-- xs != [] -/
theorem neNil {x : D} {st : Store} {zs : List Int} (h : res st x = .lst (zs.map .int)) : opEqD true x (.lst []) st = .ok (.bl (!zs.isEmpty)) st := by
  unfold opEqD
  have e1 : (res st x).py = some (.list (zs.map PyData.int)) := by
    rw [h]
    simp [D.py, pys_ints]
  have e2 : (res st (.lst [])).py = some (.list []) := rfl
  rw [e1, e2]
  simp only [shaped_ints, shaped_nil, and_self, if_true]
  cases zs <;> simp [PyData.eqv, PyData.eqvAll]
/-! range -/
theorem rng1_ok {env : Sl} {st s : Store} {ms : M (List D)} {j : Int} (h : ms env st = .ok [.int j] s) (c : -(2 ^ 62) ≤ j ∧ j < 2 ^ 62) : mRng1 ms env st = .ok ⟨intsD 0 j.toNat, []⟩ s := by
  unfold mRng1
  rw [h]
  exact if_pos c
theorem rng2_ok {env : Sl} {st s : Store} {ms : M (List D)} {i j : Int} (h : ms env st = .ok [.int i, .int j] s) (c : -(2 ^ 62) ≤ i ∧ i < 2 ^ 62 ∧ -(2 ^ 62) ≤ j ∧ j < 2 ^ 62) : mRng2 ms env st = .ok ⟨intsD i (j - i).toNat, []⟩ s := by
  unfold mRng2
  rw [h]
  exact if_pos c
end DL

set_option maxHeartbeats 2000000
namespace K02
open PySem PySem.Spec PyProof.Rows L2 DH DL
def top (i : Nat) : Stmt := PySem.Challenge.pw_partsjoined_k02_faults_made.main.body.getD i (.Pass ⟨0, 0, 0, 0⟩)
abbrev d_Faults_falls : DefQ := ⟨pP "Faults" "falls", "falls", "Faults.falls", inClass (top 10) 4⟩
abbrev d_Faults_late : DefQ := ⟨pP "Faults" "late", "late", "Faults.late", inClass (top 10) 3⟩
abbrev d_Faults_lost : DefQ := ⟨pP "Faults" "lost", "lost", "Faults.lost", inClass (top 10) 2⟩
abbrev d_BadFaults_init : DefQ := ⟨pM "BadFaults" "__init__", "__init__", "BadFaults.__init__", inClass (top 4) 0⟩
abbrev d_is_whole : DefQ := ⟨pG "is_whole", "is_whole", "is_whole", top 6⟩
abbrev d_is_within : DefQ := ⟨pG "is_within", "is_within", "is_within", top 7⟩
abbrev d_Faults_init : DefQ := ⟨pM "Faults" "__init__", "__init__", "Faults.__init__", inClass (top 10) 0⟩
abbrev d_Faults_none : DefQ := ⟨pS "Faults" "none", "none", "Faults.none", inClass (top 10) 1⟩
abbrev d_Faults_sweeps : DefQ := ⟨pP "Faults" "sweeps", "sweeps", "Faults.sweeps", inClass (top 10) 5⟩
abbrev d_Faults_total : DefQ := ⟨pP "Faults" "total", "total", "Faults.total", inClass (top 10) 6⟩
abbrev d__law_deck : DefQ := ⟨pG "_law_deck", "_law_deck", "_law_deck", top 12⟩
abbrev d__law_next : DefQ := ⟨pG "_law_next", "_law_next", "_law_next", top 13⟩
abbrev d__law_odd : DefQ := ⟨pG "_law_odd", "_law_odd", "_law_odd", top 16⟩
abbrev d__law_same : DefQ := ⟨pG "_law_same", "_law_same", "_law_same", top 14⟩
abbrev d__law_told : DefQ := ⟨pG "_law_told", "_law_told", "_law_told", top 17⟩
abbrev d__law_whole : DefQ := ⟨pG "_law_whole", "_law_whole", "_law_whole", top 15⟩
abbrev d_law : DefQ := ⟨pG "law", "law", "law", top 18⟩
def fnl : List DefQ := [d_Faults_falls, d_Faults_late, d_Faults_lost, d_BadFaults_init, d_is_whole, d_is_within, d_Faults_init, d_Faults_none, d_Faults_sweeps, d_Faults_total, d__law_deck, d__law_next, d__law_odd, d__law_same, d__law_told, d__law_whole, d_law]
def rows : List ((Kd × Kd) × Bool) := [((.own "Faults", .ty "int"), false), ((.own "Faults", .ty "bool"), false), ((.own "Faults", .ty "tuple"), false), ((.own "Faults", .ty "list"), false), ((.own "Faults", .ty "str"), false), ((.own "Faults", .ty "dict"), false), ((.err "BadFaults", .err "BadFaults"), true)]
def isa : Isa := isaR rows
def hit_PartsError : Str → Option Bool := hitR [("BadFaults", true)]
def facts : List Fq := [.fa (.glo "_law_deck"),
  .fa (.free "range"),
  .fa (.glo "_law_next"),
  .fa (.glo "_law_odd"),
  .fa (.glo "_law_whole"),
  .fa (.free "tuple"),
  .fa (.free "sum"),
  .fa (.glo "_law_same"),
  .fa (.glo "_law_told"),
  .fa (.glo "Faults"),
  .stat "Faults" "none",
  .fa (.cls "Faults"),
  .prop "Faults" "lost",
  .prop "Faults" "late",
  .prop "Faults" "falls",
  .prop "Faults" "sweeps",
  .prop "Faults" "total",
  .fa (.noat "Faults" "four"),
  .fa (.mkr "Faults"),
  .fa (.glo "is_within_kinds"),
  .same "is_within_kinds" "is_within",
  .fa (.int "MAX_FAULT" 3),
  .oex "BadFaults",
  .ini "BadFaults",
  .fa (.glo "BadFaults"),
  .fa (.glo "is_whole"),
  .fa (.free "isinstance"),
  .fa (.free "int"),
  .fa (.free "bool"),
  .fa (.free "abs"),
  .fa (.free "len"),
  .fa (.free "list"),
  .fa (.free "zip"),
  .fa (.free "all"),
  .fa (.free "str"),
  .fa (.free "dict"),
  .xf "BadFaults",
  .fa (.noat "BadFaults" "place"),
  .fa (.glo "PartsError"),
  .fa (.glo "law"),
  .isas rows,
  .hits "PartsError" [("BadFaults", true)]]
def fb (K : PySem.W.Frag) : Bool := facts.all fun f => f.ok K
structure Ok (K : PySem.W.Frag) (mg : Str → Option Value) : Prop where
  g__law_deck : mg "_law_deck" = some (.ref (He.ga K "_law_deck"))
  g_range : mg "range" = none
  g__law_next : mg "_law_next" = some (.ref (He.ga K "_law_next"))
  g__law_odd : mg "_law_odd" = some (.ref (He.ga K "_law_odd"))
  g__law_whole : mg "_law_whole" = some (.ref (He.ga K "_law_whole"))
  g_tuple : mg "tuple" = none
  g_sum : mg "sum" = none
  g__law_same : mg "_law_same" = some (.ref (He.ga K "_law_same"))
  g__law_told : mg "_law_told" = some (.ref (He.ga K "_law_told"))
  g_Faults : mg "Faults" = some (.ref (He.ga K "Faults"))
  stat_Faults_none : Stat K (He.ga K "Faults") "none" (He.ma K (He.ga K "Faults") "none") (pS "Faults" "none" K)
  cls_Faults : Cls K (He.ga K "Faults")
  prop_Faults_lost : PropOf K (He.ga K "Faults") "lost" (He.ma K (He.ga K "Faults") "lost") (pP "Faults" "lost" K)
  prop_Faults_late : PropOf K (He.ga K "Faults") "late" (He.ma K (He.ga K "Faults") "late") (pP "Faults" "late" K)
  prop_Faults_falls : PropOf K (He.ga K "Faults") "falls" (He.ma K (He.ga K "Faults") "falls") (pP "Faults" "falls" K)
  prop_Faults_sweeps : PropOf K (He.ga K "Faults") "sweeps" (He.ma K (He.ga K "Faults") "sweeps") (pP "Faults" "sweeps" K)
  prop_Faults_total : PropOf K (He.ga K "Faults") "total" (He.ma K (He.ga K "Faults") "total") (pP "Faults" "total" K)
  noat_Faults_four : NoAttr K (He.ga K "Faults") "four"
  mk_Faults : Mk K (He.ga K "Faults") (pM "Faults" "__init__" K)
  g_is_within_kinds : mg "is_within_kinds" = some (.ref (He.ga K "is_within_kinds"))
  al_is_within_kinds : He.ga K "is_within_kinds" = He.ga K "is_within"
  c_MAX_FAULT : ∃ t, mg "MAX_FAULT" = some (.int 3 t)
  oex_BadFaults : OexC K (He.ga K "BadFaults")
  ini_BadFaults : PySem.W.findIn K (.ref (He.ga K "BadFaults")) "__init__" = some (some (.ref (pM "BadFaults" "__init__" K))) ∧ PySem.W.typeIn K (.ref (pM "BadFaults" "__init__" K)) = some (.type "function")
  g_BadFaults : mg "BadFaults" = some (.ref (He.ga K "BadFaults"))
  g_is_whole : mg "is_whole" = some (.ref (He.ga K "is_whole"))
  g_isinstance : mg "isinstance" = none
  g_int : mg "int" = none
  g_bool : mg "bool" = none
  g_abs : mg "abs" = none
  g_len : mg "len" = none
  g_list : mg "list" = none
  g_zip : mg "zip" = none
  g_all : mg "all" = none
  g_str : mg "str" = none
  g_dict : mg "dict" = none
  xf_BadFaults : XfC K (He.ga K "BadFaults")
  noat_BadFaults_place : NoAttr K (He.ga K "BadFaults") "place"
  g_PartsError : mg "PartsError" = some (.ref (He.ga K "PartsError"))
  g_law : mg "law" = some (.ref (He.ga K "law"))
  isa : IsaOk (cnOf K) isa
  hit_PartsError : HitOk K (cnOf K) (.ref (He.ga K "PartsError")) hit_PartsError
theorem ok_of {K : PySem.W.Frag} {mg : Str → Option Value} {base : Heap} (X : K.In base) (N : base.Ns mainGlobals mg) (c : SaysQ fb fnl K) : Ok K mg := by
  have hf : ∀ (i : Nat) (f : Fq), facts[i]? = some f → f.ok K = true := fun i f h => List.all_eq_true.mp c.fact f (List.mem_of_getElem? h)
  exact ⟨He.glo_ok X N (hf 0 (.fa (.glo "_law_deck")) rfl), He.free_ok X N (hf 1 (.fa (.free "range")) rfl), He.glo_ok X N (hf 2 (.fa (.glo "_law_next")) rfl), He.glo_ok X N (hf 3 (.fa (.glo "_law_odd")) rfl), He.glo_ok X N (hf 4 (.fa (.glo "_law_whole")) rfl), He.free_ok X N (hf 5 (.fa (.free "tuple")) rfl), He.free_ok X N (hf 6 (.fa (.free "sum")) rfl), He.glo_ok X N (hf 7 (.fa (.glo "_law_same")) rfl), He.glo_ok X N (hf 8 (.fa (.glo "_law_told")) rfl), He.glo_ok X N (hf 9 (.fa (.glo "Faults")) rfl), stat_ok (hf 10 (.stat "Faults" "none") rfl), He.cls_ok (hf 11 (.fa (.cls "Faults")) rfl), prop_ok (hf 12 (.prop "Faults" "lost") rfl), prop_ok (hf 13 (.prop "Faults" "late") rfl), prop_ok (hf 14 (.prop "Faults" "falls") rfl), prop_ok (hf 15 (.prop "Faults" "sweeps") rfl), prop_ok (hf 16 (.prop "Faults" "total") rfl), He.noat_ok (hf 17 (.fa (.noat "Faults" "four")) rfl), He.mkr_ok (hf 18 (.fa (.mkr "Faults")) rfl), He.glo_ok X N (hf 19 (.fa (.glo "is_within_kinds")) rfl), same_ok (hf 20 (.same "is_within_kinds" "is_within") rfl), He.int_ok X N (hf 21 (.fa (.int "MAX_FAULT" 3)) rfl), oex_ok (hf 22 (.oex "BadFaults") rfl), ini_ok (hf 23 (.ini "BadFaults") rfl), He.glo_ok X N (hf 24 (.fa (.glo "BadFaults")) rfl), He.glo_ok X N (hf 25 (.fa (.glo "is_whole")) rfl), He.free_ok X N (hf 26 (.fa (.free "isinstance")) rfl), He.free_ok X N (hf 27 (.fa (.free "int")) rfl), He.free_ok X N (hf 28 (.fa (.free "bool")) rfl), He.free_ok X N (hf 29 (.fa (.free "abs")) rfl), He.free_ok X N (hf 30 (.fa (.free "len")) rfl), He.free_ok X N (hf 31 (.fa (.free "list")) rfl), He.free_ok X N (hf 32 (.fa (.free "zip")) rfl), He.free_ok X N (hf 33 (.fa (.free "all")) rfl), He.free_ok X N (hf 34 (.fa (.free "str")) rfl), He.free_ok X N (hf 35 (.fa (.free "dict")) rfl), xfB_ok (hf 36 (.xf "BadFaults") rfl), He.noat_ok (hf 37 (.fa (.noat "BadFaults" "place")) rfl), He.glo_ok X N (hf 38 (.fa (.glo "PartsError")) rfl), He.glo_ok X N (hf 39 (.fa (.glo "law")) rfl), isaR_ok (hf 40 (.isas rows) rfl), hitR_ok (hf 41 (.hits "PartsError" [("BadFaults", true)]) rfl)⟩
section
variable {P : Program} {w : World} {K : PySem.W.Frag} {mg : Str → Option Value} {base : Heap}
abbrev N_Faults_falls : List Str := ["self"]
theorem sc_Faults_falls : FnScope ["self"] ["self"] (defScope d_Faults_falls.st) := ⟨rfl, rfl, rfl, by decide +kernel, rfl, by decide +kernel, by decide +kernel⟩
noncomputable def m_Faults_falls : SM :=
    (sRet (mOp opIx (mFld "Faults" "four" (mVar 0)) (mC (.int 2))))
noncomputable def f_Faults_falls : Fn := fnB 1 1 m_Faults_falls
theorem w_Faults_falls (O : Ok K mg) (c : SaysQ fb fnl K) : Fk P w K mg base 1 (d_Faults_falls.path K) ["self"] (spOf (cnOf K) 1 f_Faults_falls) := by
  obtain ⟨fd, F⟩ := c.def_ 0 (d := d_Faults_falls)
  have b : L2.Binds K fd ["self"] [] := F.binds fun _ _ _ _ _ _ us hl => match us, hl with | [_], _ => rfl
  have z := fn_def (P := P) (w := w) (mg := mg) (base := base) (k := 0) (G := cnOf K) (m := m_Faults_falls) F sc_Faults_falls fun cdv A outer s H E rm =>
    (js_one (js_ret (j_ix (je_fld (c := "Faults") rfl (jv 0) O.cls_Faults O.noat_Faults_four) je_int)))
  exact ⟨fd, z, b, F.kp⟩
abbrev N_Faults_late : List Str := ["self"]
theorem sc_Faults_late : FnScope ["self"] ["self"] (defScope d_Faults_late.st) := ⟨rfl, rfl, rfl, by decide +kernel, rfl, by decide +kernel, by decide +kernel⟩
noncomputable def m_Faults_late : SM :=
    (sRet (mOp opIx (mFld "Faults" "four" (mVar 0)) (mC (.int 1))))
noncomputable def f_Faults_late : Fn := fnB 1 1 m_Faults_late
theorem w_Faults_late (O : Ok K mg) (c : SaysQ fb fnl K) : Fk P w K mg base 1 (d_Faults_late.path K) ["self"] (spOf (cnOf K) 1 f_Faults_late) := by
  obtain ⟨fd, F⟩ := c.def_ 1 (d := d_Faults_late)
  have b : L2.Binds K fd ["self"] [] := F.binds fun _ _ _ _ _ _ us hl => match us, hl with | [_], _ => rfl
  have z := fn_def (P := P) (w := w) (mg := mg) (base := base) (k := 0) (G := cnOf K) (m := m_Faults_late) F sc_Faults_late fun cdv A outer s H E rm =>
    (js_one (js_ret (j_ix (je_fld (c := "Faults") rfl (jv 0) O.cls_Faults O.noat_Faults_four) je_int)))
  exact ⟨fd, z, b, F.kp⟩
abbrev N_Faults_lost : List Str := ["self"]
theorem sc_Faults_lost : FnScope ["self"] ["self"] (defScope d_Faults_lost.st) := ⟨rfl, rfl, rfl, by decide +kernel, rfl, by decide +kernel, by decide +kernel⟩
noncomputable def m_Faults_lost : SM :=
    (sRet (mOp opIx (mFld "Faults" "four" (mVar 0)) (mC (.int 0))))
noncomputable def f_Faults_lost : Fn := fnB 1 1 m_Faults_lost
theorem w_Faults_lost (O : Ok K mg) (c : SaysQ fb fnl K) : Fk P w K mg base 1 (d_Faults_lost.path K) ["self"] (spOf (cnOf K) 1 f_Faults_lost) := by
  obtain ⟨fd, F⟩ := c.def_ 2 (d := d_Faults_lost)
  have b : L2.Binds K fd ["self"] [] := F.binds fun _ _ _ _ _ _ us hl => match us, hl with | [_], _ => rfl
  have z := fn_def (P := P) (w := w) (mg := mg) (base := base) (k := 0) (G := cnOf K) (m := m_Faults_lost) F sc_Faults_lost fun cdv A outer s H E rm =>
    (js_one (js_ret (j_ix (je_fld (c := "Faults") rfl (jv 0) O.cls_Faults O.noat_Faults_four) je_int)))
  exact ⟨fd, z, b, F.kp⟩
abbrev N_BadFaults_init : List Str := ["self", "place"]
theorem sc_BadFaults_init : FnScope ["self", "place"] ["self", "place"] (defScope d_BadFaults_init.st) := ⟨rfl, rfl, rfl, by decide +kernel, rfl, by decide +kernel, by decide +kernel⟩
theorem w_BadFaults_init (O : Ok K mg) (c : SaysQ fb fnl K) : ∃ fd, FnOk P w K mg base (L2.CX P w) 1 (d_BadFaults_init.path K) fd ["self", "place"] (spI (He.ga K "BadFaults") ["place"]) ∧ Binds K fd ["self", "place"] [] ∧ PySem.W.keepIn K (.ref (d_BadFaults_init.path K)) = true := by
  obtain ⟨fd, F⟩ := c.def_ 3 (d := d_BadFaults_init)
  exact ⟨fd, init_ok1 F sc_BadFaults_init O.oex_BadFaults O.noat_BadFaults_place (fun cdv A outer s1 H E => (pss_one (ps_ost (pv 0) (pv 1)))), F.binds fun _ _ _ _ _ _ us hl => match us, hl with | [_, _], _ => rfl, F.kp⟩
abbrev N_is_whole : List Str := ["value"]
theorem sc_is_whole : FnScope ["value"] ["value"] (defScope d_is_whole.st) := ⟨rfl, rfl, rfl, by decide +kernel, rfl, by decide +kernel, by decide +kernel⟩
noncomputable def m_is_whole : SM :=
    (sRet (mAnd (mIsi isa [.ty "int"] (mVar 0)) (mNot (mIsi isa [.ty "bool"] (mVar 0)))))
noncomputable def f_is_whole : Fn := fnB 1 1 m_is_whole
theorem w_is_whole (O : Ok K mg) (c : SaysQ fb fnl K) : Fk P w K mg base 1 (d_is_whole.path K) ["value"] (spOf (cnOf K) 1 f_is_whole) := by
  obtain ⟨fd, F⟩ := c.def_ 4 (d := d_is_whole)
  have b : L2.Binds K fd ["value"] [] := F.binds fun _ _ _ _ _ _ us hl => match us, hl with | [_], _ => rfl
  have z := fn_def (P := P) (w := w) (mg := mg) (base := base) (k := 0) (G := cnOf K) (m := m_is_whole) F sc_is_whole fun cdv A outer s H E rm =>
    (js_one (js_ret (je_and (je_isi (isiX_of rfl O.isa rfl) rfl O.g_isinstance (jv 0) (cls_ty rfl O.g_int (by decide +kernel))) (je_one (j_not (je_isi (isiX_of rfl O.isa rfl) rfl O.g_isinstance (jv 0) (cls_ty rfl O.g_bool (by decide +kernel))))))))
  exact ⟨fd, z, b, F.kp⟩
abbrev N_is_within : List Str := ["value", "low", "high"]
theorem sc_is_within : FnScope ["value", "low", "high"] ["value", "low", "high"] (defScope d_is_within.st) := ⟨rfl, rfl, rfl, by decide +kernel, rfl, by decide +kernel, by decide +kernel⟩
noncomputable def m_is_within : SM :=
    (sRet (mAnd (mCall (ar 1 f_is_whole) (mCons (mVar 0) mNil)) (mChain opLeI opLeI (mVar 1) (mVar 0) (mVar 2))))
noncomputable def f_is_within : Fn := fnB 3 3 m_is_within
theorem w_is_within (O : Ok K mg) (c : SaysQ fb fnl K) : Fk P w K mg base 2 (d_is_within.path K) ["value", "low", "high"] (spOf (cnOf K) 3 f_is_within) := by
  have W_is_whole := w_is_whole (P := P) (w := w) (base := base) O c
  obtain ⟨fd, F⟩ := c.def_ 5 (d := d_is_within)
  have b : L2.Binds K fd ["value", "low", "high"] [] := F.binds fun _ _ _ _ _ _ us hl => match us, hl with | [_, _, _], _ => rfl
  have z := fn_def (P := P) (w := w) (mg := mg) (base := base) (k := 1) (G := cnOf K) (m := m_is_within) F sc_is_within fun cdv A outer s H E rm =>
    (js_one (js_ret (je_and (j_call W_is_whole (by decide) rm O.g_is_whole pss_body (ja_cons (jv 0) ja_nil)) (je_one (je_chain op_le op_le os_cmpI os_cmpI (jv 1) (jv 0) (jv 2))))))
  exact ⟨fd, z, b, F.kp⟩
abbrev N_Faults_init : List Str := ["self", "lost", "late", "falls", "sweeps", "place"]
theorem sc_Faults_init : FnScope ["self", "lost", "late", "falls", "sweeps", "place"] ["self", "lost", "late", "falls", "sweeps"] (defScope d_Faults_init.st) := ⟨rfl, rfl, rfl, by decide +kernel, rfl, by decide +kernel, by decide +kernel⟩
noncomputable def m_Faults_init : SM :=
    (sSeq (DL.sFld "Faults" "four" (mVar 0) (mTup (mCons (mVar 1) (mCons (mVar 2) (mCons (mVar 3) (mCons (mVar 4) mNil))))))
    (sFor (.nm 5) (mRng1 (mCons (mC (.int 4)) mNil))
    (sIf (mNotT (mTru (mCall (ar 3 f_is_within) (mCons (mOp opIx (mFld "Faults" "four" (mVar 0)) (mVar 5)) (mCons (mC (.int 0)) (mCons (mC (.int 3)) mNil))))))
    (sRaise "BadFaults" ["place"] (mCons (mVar 5) mNil))
    sNil)))
noncomputable def f_Faults_init : Fn := fnB 5 6 m_Faults_init
theorem w_Faults_init (O : Ok K mg) (c : SaysQ fb fnl K) : Fk P w K mg base 3 (d_Faults_init.path K) ["self", "lost", "late", "falls", "sweeps"] (spOf (cnOf K) 5 f_Faults_init) := by
  have W_BadFaults_init := w_BadFaults_init (P := P) (w := w) (base := base) O c
  have W_is_within := w_is_within (P := P) (w := w) (base := base) O c
  obtain ⟨fd, F⟩ := c.def_ 6 (d := d_Faults_init)
  have b : L2.Binds K fd ["self", "lost", "late", "falls", "sweeps"] [] := F.binds fun _ _ _ _ _ _ us hl => match us, hl with | [_, _, _, _, _], _ => rfl
  have z := fn_def (P := P) (w := w) (mg := mg) (base := base) (k := 2) (G := cnOf K) (m := m_Faults_init) F sc_Faults_init fun cdv A outer s H E rm =>
    (js_cons (js_fld (c := "Faults") rfl O.cls_Faults O.noat_Faults_four (ps_fld (jv 0) (je_tup (ja_cons (jv 1) (ja_cons (jv 2) (ja_cons (jv 3) (ja_cons (jv 4) ja_nil))))) rfl))
    (js_one (js_for rfl (passes_of rfl) rfl (ji_rng1 rfl O.g_range (ja_cons je_int ja_nil)) (jg_name 5 sc_Faults_init.nd)
    (js_one (js_if (jt_not (j_t (j_call W_is_within (by decide) rm (O.g_is_within_kinds.trans (congrArg (fun a => some (Value.ref a)) O.al_is_within_kinds)) pss_body (ja_cons (j_ix (je_fld (c := "Faults") rfl (jv 0) O.cls_Faults O.noat_Faults_four) (jv 5)) (ja_cons je_int (ja_cons (by obtain ⟨t, h⟩ := O.c_MAX_FAULT; exact je_gint rfl h ⟨t, rfl⟩) ja_nil))))))
    (js_one (by obtain ⟨fd, F1, b1, kp1⟩ := W_BadFaults_init; exact js_raise (c := "BadFaults") rfl (takes_of rfl rfl rfl rfl) O.oex_BadFaults O.ini_BadFaults.1 O.ini_BadFaults.2 F1 (rm.r.mono (by decide)) b1 rfl O.g_BadFaults (ja_cons (jv 5) ja_nil)))
    js_nil)))))
  exact ⟨fd, z, b, F.kp⟩
abbrev N_Faults_none : List Str := []
theorem sc_Faults_none : FnScope [] [] (defScope d_Faults_none.st) := ⟨rfl, rfl, rfl, by decide +kernel, rfl, by decide +kernel, by decide +kernel⟩
noncomputable def m_Faults_none : SM :=
    (sRet (mCall (mkF "Faults" (ar 5 f_Faults_init)) (mCons (mC (.int 0)) (mCons (mC (.int 0)) (mCons (mC (.int 0)) (mCons (mC (.int 0)) mNil))))))
noncomputable def f_Faults_none : Fn := fnB 0 0 m_Faults_none
theorem w_Faults_none (O : Ok K mg) (c : SaysQ fb fnl K) : Fk P w K mg base 5 (d_Faults_none.path K) [] (spOf (cnOf K) 0 f_Faults_none) := by
  have W_Faults_init := w_Faults_init (P := P) (w := w) (base := base) O c
  obtain ⟨fd, F⟩ := c.def_ 7 (d := d_Faults_none)
  have b : L2.Binds K fd [] [] := F.binds fun _ _ _ _ _ _ us hl => match us, hl with | [], _ => rfl
  have z := fn_def (P := P) (w := w) (mg := mg) (base := base) (k := 4) (G := cnOf K) (m := m_Faults_none) F sc_Faults_none fun cdv A outer s H E rm =>
    (js_one (js_ret (j_make (c := "Faults") W_Faults_init (by decide) rm O.mk_Faults O.g_Faults pss_body (ja_cons je_int (ja_cons je_int (ja_cons je_int (ja_cons je_int ja_nil)))))))
  exact ⟨fd, z, b, F.kp⟩
abbrev N_Faults_sweeps : List Str := ["self"]
theorem sc_Faults_sweeps : FnScope ["self"] ["self"] (defScope d_Faults_sweeps.st) := ⟨rfl, rfl, rfl, by decide +kernel, rfl, by decide +kernel, by decide +kernel⟩
noncomputable def m_Faults_sweeps : SM :=
    (sRet (mOp opIx (mFld "Faults" "four" (mVar 0)) (mC (.int 3))))
noncomputable def f_Faults_sweeps : Fn := fnB 1 1 m_Faults_sweeps
theorem w_Faults_sweeps (O : Ok K mg) (c : SaysQ fb fnl K) : Fk P w K mg base 1 (d_Faults_sweeps.path K) ["self"] (spOf (cnOf K) 1 f_Faults_sweeps) := by
  obtain ⟨fd, F⟩ := c.def_ 8 (d := d_Faults_sweeps)
  have b : L2.Binds K fd ["self"] [] := F.binds fun _ _ _ _ _ _ us hl => match us, hl with | [_], _ => rfl
  have z := fn_def (P := P) (w := w) (mg := mg) (base := base) (k := 0) (G := cnOf K) (m := m_Faults_sweeps) F sc_Faults_sweeps fun cdv A outer s H E rm =>
    (js_one (js_ret (j_ix (je_fld (c := "Faults") rfl (jv 0) O.cls_Faults O.noat_Faults_four) je_int)))
  exact ⟨fd, z, b, F.kp⟩
abbrev N_Faults_total : List Str := ["self"]
theorem sc_Faults_total : FnScope ["self"] ["self"] (defScope d_Faults_total.st) := ⟨rfl, rfl, rfl, by decide +kernel, rfl, by decide +kernel, by decide +kernel⟩
noncomputable def m_Faults_total : SM :=
    (sRet (mCall (fS gSum) (mCons (mFld "Faults" "four" (mVar 0)) mNil)))
noncomputable def f_Faults_total : Fn := fnB 1 1 m_Faults_total
theorem w_Faults_total (O : Ok K mg) (c : SaysQ fb fnl K) : Fk P w K mg base 1 (d_Faults_total.path K) ["self"] (spOf (cnOf K) 1 f_Faults_total) := by
  obtain ⟨fd, F⟩ := c.def_ 9 (d := d_Faults_total)
  have b : L2.Binds K fd ["self"] [] := F.binds fun _ _ _ _ _ _ us hl => match us, hl with | [_], _ => rfl
  have z := fn_def (P := P) (w := w) (mg := mg) (base := base) (k := 0) (G := cnOf K) (m := m_Faults_total) F sc_Faults_total fun cdv A outer s H E rm =>
    (js_one (js_ret (jb_sum (ja_cons (je_fld (c := "Faults") rfl (jv 0) O.cls_Faults O.noat_Faults_four) ja_nil) rfl O.g_sum)))
  exact ⟨fd, z, b, F.kp⟩
abbrev N__law_deck : List Str := ["_law_script", "_law_cells", "_law_number"]
theorem sc__law_deck : FnScope ["_law_script", "_law_cells", "_law_number"] ["_law_script"] (defScope d__law_deck.st) := ⟨rfl, rfl, rfl, by decide +kernel, rfl, by decide +kernel, by decide +kernel⟩
noncomputable def m__law_deck : SM :=
    (sSeq (sSet 1 (mLc (.nm 2) (mIt (mVar 0)) mYes (mCall fAbs (mCons (mVar 2) mNil)) [2]))
    (sRet (mLstC (mCons (mLcC (.nm 2) (mIt (mVar 1)) (mTest (mOp opGeI (mVar 2) (mOp opPow (mC (.int 10)) (mC (.int 18))))) (mVar 2) [2]) (mCons (mOp opAdd (mVar 1) (mLst (mCons (mOp opAdd (mCall fLen (mCons (mVar 1) mNil)) (mC (.int 5))) mNil))) (mCons (mC (.int 0)) mNil))))))
noncomputable def f__law_deck : Fn := fnB 1 3 m__law_deck
theorem w__law_deck (O : Ok K mg) (c : SaysQ fb fnl K) : Fk P w K mg base 1 (d__law_deck.path K) ["_law_script"] (spOf (cnOf K) 1 f__law_deck) := by
  obtain ⟨fd, F⟩ := c.def_ 10 (d := d__law_deck)
  have b : L2.Binds K fd ["_law_script"] [] := F.binds fun _ _ _ _ _ _ us hl => match us, hl with | [_], _ => rfl
  have z := fn_def (P := P) (w := w) (mg := mg) (base := base) (k := 0) (G := cnOf K) (m := m__law_deck) F sc__law_deck fun cdv A outer s H E rm =>
    (js_cons (js_setLc (i := 1) (own := [("_law_number", 2)]) (t := (.nm 2)) rfl rfl sc__law_deck.nd rfl rfl (sw_true rfl rfl rfl (by decide +kernel)) (ji_seq rfl (jv 0)) (blkOk_by (N := N__law_deck) (sc := defScope d__law_deck.st) (by decide +kernel)) (by decide) (fun _ _ _ _ _ => (jg_name 2 sc__law_deck.nd)) (fun _ _ _ _ _ => jts_nil) (fun _ _ _ _ _ => (jb_abs (ja_cons (jv 2) ja_nil) O.g_abs)))
    (js_one (js_ret (je_lstC (ja_cons (je_lcC (own := [("_law_number", 2)]) (t := (.nm 2)) rfl rfl sc__law_deck.nd (ji_seq rfl (jv 1)) (blkOk_by (N := N__law_deck) (sc := defScope d__law_deck.st) (by decide +kernel)) (by decide) (fun _ _ _ _ _ => (jg_name 2 sc__law_deck.nd)) (fun _ _ _ _ _ => (jts_one (jt_ge (jv 2) (j_pow je_int je_int)))) (fun _ _ _ _ _ => (jv 2))) (ja_cons (j_add (jv 1) (je_lst (ja_cons (j_add (jb_len (ja_cons (jv 1) ja_nil) O.g_len) je_int) ja_nil))) (ja_cons je_int ja_nil)))))))
  exact ⟨fd, z, b, F.kp⟩
abbrev N__law_next : List Str := ["_law_deck_here", "_law_many", "_law_rest", "_law_turn", "_law_number", "_law_mixed"]
theorem sc__law_next : FnScope ["_law_deck_here", "_law_many", "_law_rest", "_law_turn", "_law_number", "_law_mixed"] ["_law_deck_here", "_law_many"] (defScope d__law_next.st) := ⟨rfl, rfl, rfl, by decide +kernel, rfl, by decide +kernel, by decide +kernel⟩
noncomputable def m__law_next : SM :=
    (sSeq (whileGo (mTest (mOp (opEqD true) (mOp opIx (mVar 0) (mC (.int 0))) (mLst mNil)))
    (sSeq (sSet 2 (mOp opIx (mOp opIx (mVar 0) (mC (.int 0))) (mC (.int 0))))
    (sSeq (sIf (mTest (mOp opGtI (mVar 2) (mC (.int 0))))
    (sSeq (sSub (mOp opIx (mVar 0) (mC (.int 0))) (mC (.int 0)) (mOp opDiv (mVar 2) (mVar 1)))
    (sRet (mOp opMod (mCall fInt (mCons (mVar 2) mNil)) (mVar 1))))
    sNil)
    (sDrop (mPopAt (mOp opIx (mVar 0) (mC (.int 0))) (mCons (mC (.int 0)) mNil))))) 64)
    (sSeq (sSub (mVar 0) (mC (.int 2)) (mOp opAdd (mOp opIx (mVar 0) (mC (.int 2))) (mC (.int 1))))
    (sSeq (sSet 3 (mOp opIx (mVar 0) (mC (.int 2))))
    (sSeq (sSet 4 (mOp opMod (mCall fInt (mCons (mOp opIx (mOp opIx (mVar 0) (mC (.int 1))) (mOp opMod (mCall fInt (mCons (mVar 3) mNil)) (mCall fLen (mCons (mOp opIx (mVar 0) (mC (.int 1))) mNil)))) mNil)) (mC (.int 2147483629))))
    (sSeq (sSet 5 (mOp opMod (mCall fInt (mCons (mOp opAdd (mOp opAdd (mOp opMul (mVar 4) (mOp opAdd (mC (.int 50331)) (mOp opMul (mC (.int 68111)) (mVar 3)))) (mOp opMul (mOp opMul (mC (.int 41287)) (mVar 3)) (mVar 3))) (mC (.int 19))) mNil)) (mC (.int 2147483587))))
    (sRet (mOp opMod (mOp opDiv (mOp opMod (mCall fInt (mCons (mOp opMul (mVar 5) (mVar 5)) mNil)) (mC (.int 2147483579))) (mC (.int 16))) (mVar 1))))))))
noncomputable def f__law_next : Fn := fnB 2 6 m__law_next
theorem w__law_next (O : Ok K mg) (c : SaysQ fb fnl K) : Fk P w K mg base 1 (d__law_next.path K) ["_law_deck_here", "_law_many"] (spOf (cnOf K) 2 f__law_next) := by
  obtain ⟨fd, F⟩ := c.def_ 11 (d := d__law_next)
  have b : L2.Binds K fd ["_law_deck_here", "_law_many"] [] := F.binds fun _ _ _ _ _ _ us hl => match us, hl with | [_, _], _ => rfl
  have z := fn_def (P := P) (w := w) (mg := mg) (base := base) (k := 0) (G := cnOf K) (m := m__law_next) F sc__law_next fun cdv A outer s H E rm =>
    (js_cons (js_while 64 (passes_of rfl) (jt_ne rm.units (j_ix (jv 0) je_int) (je_lst ja_nil))
    (js_cons (j_set 2 sc__law_next.nd (j_ix (j_ix (jv 0) je_int) je_int))
    (js_cons (js_if (jt_gt (jv 2) je_int)
    (js_cons (j_subset (j_div (jv 2) (jv 1)) (j_ix (jv 0) je_int) je_int)
    (js_one (js_ret (j_mod (jb_int (ja_cons (jv 2) ja_nil) O.g_int) (jv 1)))))
    js_nil)
    (js_one (js_expr (j_popAt (j_ix (jv 0) je_int) (ja_cons je_int ja_nil)))))))
    (js_cons (j_subset (j_add (j_ix (jv 0) je_int) je_int) (jv 0) je_int)
    (js_cons (j_set 3 sc__law_next.nd (j_ix (jv 0) je_int))
    (js_cons (j_set 4 sc__law_next.nd (j_mod (jb_int (ja_cons (j_ix (j_ix (jv 0) je_int) (j_mod (jb_int (ja_cons (jv 3) ja_nil) O.g_int) (jb_len (ja_cons (j_ix (jv 0) je_int) ja_nil) O.g_len))) ja_nil) O.g_int) je_int))
    (js_cons (j_set 5 sc__law_next.nd (j_mod (jb_int (ja_cons (j_add (j_add (j_mul (jv 4) (j_add je_int (j_mul je_int (jv 3)))) (j_mul (j_mul je_int (jv 3)) (jv 3))) je_int) ja_nil) O.g_int) je_int))
    (js_one (js_ret (j_mod (j_div (j_mod (jb_int (ja_cons (j_mul (jv 5) (jv 5)) ja_nil) O.g_int) je_int) je_int) (jv 1)))))))))
  exact ⟨fd, z, b, F.kp⟩
abbrev N__law_odd : List Str := ["_law_deck_here", "_law_some"]
theorem sc__law_odd : FnScope ["_law_deck_here", "_law_some"] ["_law_deck_here"] (defScope d__law_odd.st) := ⟨rfl, rfl, rfl, by decide +kernel, rfl, by decide +kernel, by decide +kernel⟩
noncomputable def m__law_odd : SM :=
    (sSeq (sSet 1 (mLst (mCons (mC .non) (mCons (mC (.bl true)) (mCons (mC (.bl false)) (mCons (mC (.int 0)) (mCons (mC (.int 1)) (mCons (mC (.int 2)) (mCons (mC (.int 3)) (mCons (mC (.int 4)) (mCons (mNeg (mC (.int 1))) (mCons (mC (.int 9)) (mCons (mC (.int 10)) (mCons (mC (.int 13)) (mCons (mOp opPow (mC (.int 10)) (mC (.int 30))) (mCons (mC (.str "")) (mCons (mC (.str "0")) (mCons (mC (.str "ok")) (mCons (mC (.str "go")) (mCons (mC (.str "begin")) (mCons (mC (.str "any")) (mCons (mTup mNil) (mCons (mLst mNil) mNil)))))))))))))))))))))))
    (sSeq (sSet 1 (mOp opAdd (mVar 1) (mLst (mCons (mTup (mCons (mC (.int 0)) mNil)) (mCons (mTup (mCons (mC (.int 0)) (mCons (mC (.int 1)) mNil))) (mCons (mLst (mCons (mC (.int 0)) (mCons (mC (.int 1)) mNil))) (mCons (mTup (mCons (mC .non) mNil)) (mCons (mTup (mCons (mC (.str "begin")) mNil)) (mCons (mLst (mCons (mC (.str "begin")) mNil)) (mCons (mTup (mCons (mC (.str "ok")) mNil)) (mCons (mLst (mCons (mC (.str "ok")) mNil)) (mCons (mTup (mCons (mC (.str "lost")) (mCons (mC (.str "ok")) mNil))) (mCons (mTup (mCons (mC (.int 4)) (mCons (mC (.int 7)) mNil))) (mCons (mC (.dct [] [])) mNil))))))))))))))
    (sSeq (sSet 1 (mOp opAdd (mVar 1) (mLst (mCons (mTup (mCons (mC (.bl true)) mNil)) (mCons (mTup (mCons (mC (.str "begin")) (mCons (mC (.int 0)) mNil))) (mCons (mTup (mCons (mC (.str "step")) (mCons (mC (.int 0)) (mCons (mC (.str "done")) mNil)))) (mCons (mTup (mCons (mC (.int 4)) (mCons (mLst (mCons (mC (.int 7)) mNil)) mNil))) (mCons (mTup (mCons (mC (.dct [] [])) mNil)) (mCons (mTup (mCons (mC (.str "ok")) (mCons (mC (.str "ok")) mNil))) (mCons (mTup (mCons (mC (.int 10)) mNil)) (mCons (mTup (mCons (mC (.int 4)) (mCons (mC (.int 7)) (mCons (mC (.int 0)) (mCons (mC (.int 9)) mNil))))) mNil)))))))))))
    (sSeq (sSet 1 (mOp opAdd (mVar 1) (mLst (mCons (mC (.dct [.inl 0] [.int 1])) (mCons (mC (.str "lost")) (mCons (mTup (mCons (mNeg (mC (.int 1))) mNil)) (mCons (mTup (mCons (mC (.int 4)) (mCons (mNeg (mC (.int 1))) mNil))) (mCons (mTup (mCons (mC (.int 0)) (mCons (mC (.int 10)) mNil))) mNil))))))))
    (sRet (mOp opIx (mVar 1) (mCall (ar 2 f__law_next) (mCons (mVar 0) (mCons (mCall fLen (mCons (mVar 1) mNil)) mNil)))))))))
noncomputable def f__law_odd : Fn := fnB 1 2 m__law_odd
theorem w__law_odd (O : Ok K mg) (c : SaysQ fb fnl K) : Fk P w K mg base 2 (d__law_odd.path K) ["_law_deck_here"] (spOf (cnOf K) 1 f__law_odd) := by
  have W__law_next := w__law_next (P := P) (w := w) (base := base) O c
  obtain ⟨fd, F⟩ := c.def_ 12 (d := d__law_odd)
  have b : L2.Binds K fd ["_law_deck_here"] [] := F.binds fun _ _ _ _ _ _ us hl => match us, hl with | [_], _ => rfl
  have z := fn_def (P := P) (w := w) (mg := mg) (base := base) (k := 1) (G := cnOf K) (m := m__law_odd) F sc__law_odd fun cdv A outer s H E rm =>
    (js_cons (j_set 1 sc__law_odd.nd (je_lst (ja_cons je_non (ja_cons je_bl (ja_cons je_bl (ja_cons je_int (ja_cons je_int (ja_cons je_int (ja_cons je_int (ja_cons je_int (ja_cons (je_neg je_int) (ja_cons je_int (ja_cons je_int (ja_cons je_int (ja_cons (j_pow je_int je_int) (ja_cons je_str (ja_cons je_str (ja_cons je_str (ja_cons je_str (ja_cons je_str (ja_cons je_str (ja_cons (je_tup ja_nil) (ja_cons (je_lst ja_nil) ja_nil)))))))))))))))))))))))
    (js_cons (j_set 1 sc__law_odd.nd (j_add (jv 1) (je_lst (ja_cons (je_tup (ja_cons je_int ja_nil)) (ja_cons (je_tup (ja_cons je_int (ja_cons je_int ja_nil))) (ja_cons (je_lst (ja_cons je_int (ja_cons je_int ja_nil))) (ja_cons (je_tup (ja_cons je_non ja_nil)) (ja_cons (je_tup (ja_cons je_str ja_nil)) (ja_cons (je_lst (ja_cons je_str ja_nil)) (ja_cons (je_tup (ja_cons je_str ja_nil)) (ja_cons (je_lst (ja_cons je_str ja_nil)) (ja_cons (je_tup (ja_cons je_str (ja_cons je_str ja_nil))) (ja_cons (je_tup (ja_cons je_int (ja_cons je_int ja_nil))) (ja_cons j_dnew ja_nil))))))))))))))
    (js_cons (j_set 1 sc__law_odd.nd (j_add (jv 1) (je_lst (ja_cons (je_tup (ja_cons je_bl ja_nil)) (ja_cons (je_tup (ja_cons je_str (ja_cons je_int ja_nil))) (ja_cons (je_tup (ja_cons je_str (ja_cons je_int (ja_cons je_str ja_nil)))) (ja_cons (je_tup (ja_cons je_int (ja_cons (je_lst (ja_cons je_int ja_nil)) ja_nil))) (ja_cons (je_tup (ja_cons j_dnew ja_nil)) (ja_cons (je_tup (ja_cons je_str (ja_cons je_str ja_nil))) (ja_cons (je_tup (ja_cons je_int ja_nil)) (ja_cons (je_tup (ja_cons je_int (ja_cons je_int (ja_cons je_int (ja_cons je_int ja_nil))))) ja_nil)))))))))))
    (js_cons (j_set 1 sc__law_odd.nd (j_add (jv 1) (je_lst (ja_cons j_dict1 (ja_cons je_str (ja_cons (je_tup (ja_cons (je_neg je_int) ja_nil)) (ja_cons (je_tup (ja_cons je_int (ja_cons (je_neg je_int) ja_nil))) (ja_cons (je_tup (ja_cons je_int (ja_cons je_int ja_nil))) ja_nil))))))))
    (js_one (js_ret (j_ix (jv 1) (j_call W__law_next (by decide) rm O.g__law_next pss_body (ja_cons (jv 0) (ja_cons (jb_len (ja_cons (jv 1) ja_nil) O.g_len) ja_nil))))))))))
  exact ⟨fd, z, b, F.kp⟩
abbrev N__law_same : List Str := ["_law_found", "_law_due", "_law_one", "_law_other"]
theorem sc__law_same : FnScope ["_law_found", "_law_due", "_law_one", "_law_other"] ["_law_found", "_law_due"] (defScope d__law_same.st) := ⟨rfl, rfl, rfl, by decide +kernel, rfl, by decide +kernel, by decide +kernel⟩
noncomputable def m__law_same (rec : Fn) : SM :=
    (sSeq (sIf (mTru (mIsi isa [.ty "tuple", .ty "list"] (mVar 1)))
    (sSeq (sIf (mOrT (mTest (mOp (opEqD true) (mIsi isa [.ty "tuple"] (mVar 1)) (mIsi isa [.ty "tuple"] (mVar 0)))) (mTest (mOp (opEqD true) (mIsi isa [.ty "list"] (mVar 1)) (mIsi isa [.ty "list"] (mVar 0)))))
    (sRet (mC (.bl false)))
    sNil)
    (sRet (mAnd (mOp (opEqD false) (mCall fLen (mCons (mVar 0) mNil)) (mCall fLen (mCons (mVar 1) mNil))) (mCall (fL gAll) (mCons (mLc (.tu [(.nm 2), (.nm 3)]) (mZip (mCons (mVar 0) (mCons (mVar 1) mNil))) mYes (mCall (ar 2 rec) (mCons (mVar 2) (mCons (mVar 3) mNil))) [2, 3]) mNil)))))
    sNil)
    (sSeq (sIf (mTest (mOp (opIsN false) (mVar 1) (mC .non)))
    (sRet (mOp (opIsN false) (mVar 0) (mC .non)))
    sNil)
    (sSeq (sIf (mTru (mIsi isa [.ty "str"] (mVar 1)))
    (sRet (mAnd (mIsi isa [.ty "str"] (mVar 0)) (mOp (opEqD false) (mVar 0) (mVar 1))))
    sNil)
    (sSeq (sIf (mOrT (mTru (mIsi isa [.ty "bool"] (mVar 1))) (mTru (mIsi isa [.ty "bool"] (mVar 0))))
    (sRet (mAnd (mIsi isa [.ty "bool"] (mVar 0)) (mAnd (mIsi isa [.ty "bool"] (mVar 1)) (mOp (opEqD false) (mVar 0) (mVar 1)))))
    sNil)
    (sSeq (sIf (mTru (mIsi isa [.ty "int"] (mVar 1)))
    (sRet (mAnd (mIsi isa [.ty "int"] (mVar 0)) (mOp (opEqD false) (mVar 0) (mVar 1))))
    sNil)
    (sRet (mAnd (mIsi isa [.ty "dict"] (mVar 1)) (mAnd (mIsi isa [.ty "dict"] (mVar 0)) (mOp (opEqD false) mBad mBad)))))))))
noncomputable def f__law_same : Nat → Fn
  | 0 => fun _ _ => .bad
  | n + 1 => fnB 2 4 (m__law_same (f__law_same n))
theorem w__law_same (O : Ok K mg) (c : SaysQ fb fnl K) (n : Nat) : Fk P w K mg base (1 + n) (d__law_same.path K) ["_law_found", "_law_due"] (spOf (cnOf K) 2 (f__law_same n)) := by
  obtain ⟨fd, F⟩ := c.def_ 13 (d := d__law_same)
  have b : L2.Binds K fd ["_law_found", "_law_due"] [] := F.binds fun _ _ _ _ _ _ us hl => match us, hl with | [_, _], _ => rfl
  induction n with
  | zero => exact ⟨fd, fn_zero (G := cnOf K) (n := 2) rfl, b, F.kp⟩
  | succ n W =>
    have z := fn_def (P := P) (w := w) (mg := mg) (base := base) (k := 1 + n) (G := cnOf K) (m := m__law_same (f__law_same n)) F sc__law_same fun cdv A outer s H E rm =>
      (js_cons (js_if (j_t (je_isiT (isiX_of rfl O.isa rfl) rfl O.g_isinstance (jv 1) (.cons (cls_ty rfl O.g_tuple (by decide +kernel)) (.cons (cls_ty rfl O.g_list (by decide +kernel)) .nil))))
    (js_cons (js_if (PW.pt (jw_or (jt_ne rm.units (je_isi (isiX_of rfl O.isa rfl) rfl O.g_isinstance (jv 1) (cls_ty rfl O.g_tuple (by decide +kernel))) (je_isi (isiX_of rfl O.isa rfl) rfl O.g_isinstance (jv 0) (cls_ty rfl O.g_tuple (by decide +kernel)))) (jw_or1 (jt_ne rm.units (je_isi (isiX_of rfl O.isa rfl) rfl O.g_isinstance (jv 1) (cls_ty rfl O.g_list (by decide +kernel))) (je_isi (isiX_of rfl O.isa rfl) rfl O.g_isinstance (jv 0) (cls_ty rfl O.g_list (by decide +kernel)))))))
    (js_one (js_ret je_bl))
    js_nil)
    (js_one (js_ret (je_and (j_eq rm.units (jb_len (ja_cons (jv 0) ja_nil) O.g_len) (jb_len (ja_cons (jv 1) ja_nil) O.g_len)) (je_one (jb_all (ja_cons (je_lc (own := [("_law_one", 2), ("_law_other", 3)]) (t := (.tu [(.nm 2), (.nm 3)])) rfl rfl sc__law_same.nd (ji_zip rfl rfl O.g_zip (ja_cons (jv 0) (ja_cons (jv 1) ja_nil))) (blkOk_by (N := N__law_same) (sc := defScope d__law_same.st) (by decide +kernel)) (by decide) (fun _ _ _ _ _ => (jg_tu rfl (jg_cons (jg_name 2 sc__law_same.nd) (jg_cons (jg_name 3 sc__law_same.nd) jg_nil)))) (fun _ _ _ _ _ => jts_nil) (fun _ _ _ _ _ => (j_call W (by omega) rm O.g__law_same pss0 (ja_cons (jv 2) (ja_cons (jv 3) ja_nil))))) ja_nil) rfl O.g_all))))))
    js_nil)
    (js_cons (js_if (jt_isN (jv 1) je_non)
    (js_one (js_ret (j_isN (jv 0) je_non)))
    js_nil)
    (js_cons (js_if (j_t (je_isi (isiX_of rfl O.isa rfl) rfl O.g_isinstance (jv 1) (cls_ty rfl O.g_str (by decide +kernel))))
    (js_one (js_ret (je_and (je_isi (isiX_of rfl O.isa rfl) rfl O.g_isinstance (jv 0) (cls_ty rfl O.g_str (by decide +kernel))) (je_one (j_eq rm.units (jv 0) (jv 1))))))
    js_nil)
    (js_cons (js_if (PW.pt (jw_or (j_t (je_isi (isiX_of rfl O.isa rfl) rfl O.g_isinstance (jv 1) (cls_ty rfl O.g_bool (by decide +kernel)))) (jw_or1 (j_t (je_isi (isiX_of rfl O.isa rfl) rfl O.g_isinstance (jv 0) (cls_ty rfl O.g_bool (by decide +kernel)))))))
    (js_one (js_ret (je_and (je_isi (isiX_of rfl O.isa rfl) rfl O.g_isinstance (jv 0) (cls_ty rfl O.g_bool (by decide +kernel))) (je_and (je_isi (isiX_of rfl O.isa rfl) rfl O.g_isinstance (jv 1) (cls_ty rfl O.g_bool (by decide +kernel))) (je_one (j_eq rm.units (jv 0) (jv 1)))))))
    js_nil)
    (js_cons (js_if (j_t (je_isi (isiX_of rfl O.isa rfl) rfl O.g_isinstance (jv 1) (cls_ty rfl O.g_int (by decide +kernel))))
    (js_one (js_ret (je_and (je_isi (isiX_of rfl O.isa rfl) rfl O.g_isinstance (jv 0) (cls_ty rfl O.g_int (by decide +kernel))) (je_one (j_eq rm.units (jv 0) (jv 1))))))
    js_nil)
    (js_one (js_ret (je_and (je_isi (isiX_of rfl O.isa rfl) rfl O.g_isinstance (jv 1) (cls_ty rfl O.g_dict (by decide +kernel))) (je_and (je_isi (isiX_of rfl O.isa rfl) rfl O.g_isinstance (jv 0) (cls_ty rfl O.g_dict (by decide +kernel))) (je_one (j_eq rm.units je_bad je_bad)))))))))))
    exact ⟨fd, z, b, F.kp⟩
abbrev N__law_told : List Str := ["_law_four", "_law_made", "error"]
theorem sc__law_told : FnScope ["_law_four", "_law_made", "error"] ["_law_four"] (defScope d__law_told.st) := ⟨rfl, rfl, rfl, by decide +kernel, rfl, by decide +kernel, by decide +kernel⟩
noncomputable def m__law_told : SM :=
    (sSeq (sTry hit_PartsError 2
    (sSet 1 (mCall (mkF "Faults" (ar 5 f_Faults_init)) (mCons (mOp opIx (mVar 0) (mC (.int 0))) (mCons (mOp opIx (mVar 0) (mC (.int 1))) (mCons (mOp opIx (mVar 0) (mC (.int 2))) (mCons (mOp opIx (mVar 0) (mC (.int 3))) mNil))))))
    (sRet (mIf (mTru (mIsi isa [.err "BadFaults"] (mVar 2))) (mXf "BadFaults" "place" (mVar 2)) (mC (.str "other")))))
    (sRet (mTup (mCons (mProp "Faults" f_Faults_lost (mVar 1)) (mCons (mProp "Faults" f_Faults_late (mVar 1)) (mCons (mProp "Faults" f_Faults_falls (mVar 1)) (mCons (mProp "Faults" f_Faults_sweeps (mVar 1)) (mCons (mProp "Faults" f_Faults_total (mVar 1)) mNil))))))))
noncomputable def f__law_told : Fn := fnB 1 3 m__law_told
theorem w__law_told (O : Ok K mg) (c : SaysQ fb fnl K) : Fk P w K mg base 5 (d__law_told.path K) ["_law_four"] (spOf (cnOf K) 1 f__law_told) := by
  have W_Faults_falls := w_Faults_falls (P := P) (w := w) (base := base) O c
  have W_Faults_init := w_Faults_init (P := P) (w := w) (base := base) O c
  have W_Faults_late := w_Faults_late (P := P) (w := w) (base := base) O c
  have W_Faults_lost := w_Faults_lost (P := P) (w := w) (base := base) O c
  have W_Faults_sweeps := w_Faults_sweeps (P := P) (w := w) (base := base) O c
  have W_Faults_total := w_Faults_total (P := P) (w := w) (base := base) O c
  obtain ⟨fd, F⟩ := c.def_ 14 (d := d__law_told)
  have b : L2.Binds K fd ["_law_four"] [] := F.binds fun _ _ _ _ _ _ us hl => match us, hl with | [_], _ => rfl
  have z := fn_def (P := P) (w := w) (mg := mg) (base := base) (k := 4) (G := cnOf K) (m := m__law_told) F sc__law_told fun cdv A outer s H E rm =>
    (js_cons (js_try (i := 2) (hit := hit_PartsError) rfl rfl rfl sc__law_told.nd rfl rfl ⟨rfl, by decide, .inl O.g_PartsError⟩ (takes_of rfl rfl rfl rfl) O.hit_PartsError (fun W pn xe tk po => (js_one (j_set 1 sc__law_told.nd (j_make (c := "Faults") W_Faults_init (by decide) rm O.mk_Faults O.g_Faults (pss_takes tk) (ja_cons (j_ix (jv 0) je_int) (ja_cons (j_ix (jv 0) je_int) (ja_cons (j_ix (jv 0) je_int) (ja_cons (j_ix (jv 0) je_int) ja_nil))))))))
    (fun a oe cls d pn hz hf => (js_one (js_ret (je_if (j_t (je_isi (isiX_sup rfl O.isa hz hf) rfl O.g_isinstance (jv 2) (cls_err rfl O.g_BadFaults))) (je_xf (c := "BadFaults") O.xf_BadFaults O.noat_BadFaults_place hz hf (jv 2)) je_str)))))
    (js_one (js_ret (je_tup (ja_cons (j_prop (c := "Faults") W_Faults_lost (by decide) rm O.cls_Faults O.prop_Faults_lost (jv 1)) (ja_cons (j_prop (c := "Faults") W_Faults_late (by decide) rm O.cls_Faults O.prop_Faults_late (jv 1)) (ja_cons (j_prop (c := "Faults") W_Faults_falls (by decide) rm O.cls_Faults O.prop_Faults_falls (jv 1)) (ja_cons (j_prop (c := "Faults") W_Faults_sweeps (by decide) rm O.cls_Faults O.prop_Faults_sweeps (jv 1)) (ja_cons (j_prop (c := "Faults") W_Faults_total (by decide) rm O.cls_Faults O.prop_Faults_total (jv 1)) ja_nil)))))))))
  exact ⟨fd, z, b, F.kp⟩
abbrev N__law_whole : List Str := ["_law_value"]
theorem sc__law_whole : FnScope ["_law_value"] ["_law_value"] (defScope d__law_whole.st) := ⟨rfl, rfl, rfl, by decide +kernel, rfl, by decide +kernel, by decide +kernel⟩
noncomputable def m__law_whole : SM :=
    (sRet (mAnd (mIsi isa [.ty "int"] (mVar 0)) (mNot (mIsi isa [.ty "bool"] (mVar 0)))))
noncomputable def f__law_whole : Fn := fnB 1 1 m__law_whole
theorem w__law_whole (O : Ok K mg) (c : SaysQ fb fnl K) : Fk P w K mg base 1 (d__law_whole.path K) ["_law_value"] (spOf (cnOf K) 1 f__law_whole) := by
  obtain ⟨fd, F⟩ := c.def_ 15 (d := d__law_whole)
  have b : L2.Binds K fd ["_law_value"] [] := F.binds fun _ _ _ _ _ _ us hl => match us, hl with | [_], _ => rfl
  have z := fn_def (P := P) (w := w) (mg := mg) (base := base) (k := 0) (G := cnOf K) (m := m__law_whole) F sc__law_whole fun cdv A outer s H E rm =>
    (js_one (js_ret (je_and (je_isi (isiX_of rfl O.isa rfl) rfl O.g_isinstance (jv 0) (cls_ty rfl O.g_int (by decide +kernel))) (je_one (j_not (je_isi (isiX_of rfl O.isa rfl) rfl O.g_isinstance (jv 0) (cls_ty rfl O.g_bool (by decide +kernel))))))))
  exact ⟨fd, z, b, F.kp⟩
abbrev N_law : List Str := ["_law_script", "_law_deck_here", "_law_turn", "_law_four", "_law_change", "_law_odd_here", "_law_wrong", "_law_due", "_law_none", "_law_place", "_law_k"]
theorem sc_law : FnScope ["_law_script", "_law_deck_here", "_law_turn", "_law_four", "_law_change", "_law_odd_here", "_law_wrong", "_law_due", "_law_none", "_law_place", "_law_k"] ["_law_script"] (defScope d_law.st) := ⟨rfl, rfl, rfl, by decide +kernel, rfl, by decide +kernel, by decide +kernel⟩
noncomputable def m_law : SM :=
    (sSeq (sSet 1 (mCall (ar 1 f__law_deck) (mCons (mVar 0) mNil)))
    (sSeq (sFor (.nm 2) (mRng1 (mCons (mC (.int 6)) mNil))
    (sSeq (sSet 3 (mLcC (.nm 9) (mRng1 (mCons (mC (.int 4)) mNil)) mYes (mCall (ar 2 f__law_next) (mCons (mVar 1) (mCons (mC (.int 4)) mNil))) [9]))
    (sSeq (sFor (.nm 4) (mRng1 (mCons (mOp opIx (mLst (mCons (mC (.int 0)) (mCons (mC (.int 0)) (mCons (mC (.int 1)) (mCons (mC (.int 1)) (mCons (mC (.int 2)) mNil)))))) (mCall (ar 2 f__law_next) (mCons (mVar 1) (mCons (mC (.int 5)) mNil)))) mNil))
    (sSeq (sSet 5 (mOp opIx (mLst (mCons (mCall (ar 1 f__law_odd) (mCons (mVar 1) mNil)) (mCons (mC (.int 4)) (mCons (mNeg (mC (.int 1))) (mCons (mC (.int 3)) (mCons (mC (.bl true)) (mCons (mC (.bl false)) mNil))))))) (mCall (ar 2 f__law_next) (mCons (mVar 1) (mCons (mC (.int 6)) mNil)))))
    (sSub (mVar 3) (mCall (ar 2 f__law_next) (mCons (mVar 1) (mCons (mC (.int 4)) mNil))) (mVar 5))))
    (sSeq (sSet 6 (mLc (.nm 10) (mRng1 (mCons (mC (.int 4)) mNil)) (mOrT (mNotT (mTru (mCall (ar 1 f__law_whole) (mCons (mOp opIx (mVar 3) (mVar 10)) mNil)))) (mOrT (mTest (mOp opLtI (mOp opIx (mVar 3) (mVar 10)) (mC (.int 0)))) (mTest (mOp opGtI (mOp opIx (mVar 3) (mVar 10)) (mC (.int 3)))))) (mVar 10) [10]))
    (sSeq (sSet 7 (mIf (mTest (mOp (opEqD true) (mVar 6) (mLst mNil))) (mOp opIx (mVar 6) (mC (.int 0))) (mOp opAdd (mCall fTup (mCons (mVar 3) mNil)) (mTup (mCons (mCall (fS gSum) (mCons (mVar 3) mNil)) mNil)))))
    (sIf (mNotT (mTru (mCall (ar 2 (f__law_same 4)) (mCons (mCall (ar 1 f__law_told) (mCons (mVar 3) mNil)) (mCons (mVar 7) mNil)))))
    (sRet (mC (.bl false)))
    sNil))))))
    (sSeq (sSet 8 (mCall (ar 0 f_Faults_none) mNil))
    (sRet (mCall (ar 2 (f__law_same 4)) (mCons (mTup (mCons (mProp "Faults" f_Faults_lost (mVar 8)) (mCons (mProp "Faults" f_Faults_late (mVar 8)) (mCons (mProp "Faults" f_Faults_falls (mVar 8)) (mCons (mProp "Faults" f_Faults_sweeps (mVar 8)) (mCons (mProp "Faults" f_Faults_total (mVar 8)) mNil)))))) (mCons (mTup (mCons (mC (.int 0)) (mCons (mC (.int 0)) (mCons (mC (.int 0)) (mCons (mC (.int 0)) (mCons (mC (.int 0)) mNil)))))) mNil)))))))
noncomputable def f_law : Fn := fnB 1 11 m_law
theorem w_law (O : Ok K mg) (c : SaysQ fb fnl K) {fd : FuncData} (F : Fun K "law" "law" d_law.st (d_law.path K) fd) : FnG P w K mg base 6 (d_law.path K) fd ["_law_script"] (spOf (cnOf K) 1 f_law) := by
  have W_Faults_falls := w_Faults_falls (P := P) (w := w) (base := base) O c
  have W_Faults_late := w_Faults_late (P := P) (w := w) (base := base) O c
  have W_Faults_lost := w_Faults_lost (P := P) (w := w) (base := base) O c
  have W_Faults_none := w_Faults_none (P := P) (w := w) (base := base) O c
  have W_Faults_sweeps := w_Faults_sweeps (P := P) (w := w) (base := base) O c
  have W_Faults_total := w_Faults_total (P := P) (w := w) (base := base) O c
  have W__law_deck := w__law_deck (P := P) (w := w) (base := base) O c
  have W__law_next := w__law_next (P := P) (w := w) (base := base) O c
  have W__law_odd := w__law_odd (P := P) (w := w) (base := base) O c
  have W__law_same := w__law_same (P := P) (w := w) (base := base) O c 4
  have W__law_told := w__law_told (P := P) (w := w) (base := base) O c
  have W__law_whole := w__law_whole (P := P) (w := w) (base := base) O c
  have z := fn_def (P := P) (w := w) (mg := mg) (base := base) (k := 5) (G := cnOf K) (m := m_law) F sc_law fun cdv A outer s H E rm =>
    (js_cons (j_set 1 sc_law.nd (j_call W__law_deck (by decide) rm O.g__law_deck pss_body (ja_cons (jv 0) ja_nil)))
    (js_cons (js_for rfl (passes_of rfl) rfl (ji_rng1 rfl O.g_range (ja_cons je_int ja_nil)) (jg_name 2 sc_law.nd)
    (js_cons (j_set 3 sc_law.nd (je_lcC (own := [("_law_place", 9)]) (t := (.nm 9)) rfl rfl sc_law.nd (ji_rng1 rfl O.g_range (ja_cons je_int ja_nil)) (blkOk_by (N := N_law) (sc := defScope d_law.st) (by decide +kernel)) (by decide) (fun _ _ _ _ _ => (jg_name 9 sc_law.nd)) (fun _ _ _ _ _ => jts_nil) (fun _ _ _ _ _ => (j_call W__law_next (by decide) rm O.g__law_next pss0 (ja_cons (jv 1) (ja_cons je_int ja_nil))))))
    (js_cons (js_for rfl (passes_of rfl) rfl (ji_rng1 rfl O.g_range (ja_cons (j_ix (je_lst (ja_cons je_int (ja_cons je_int (ja_cons je_int (ja_cons je_int (ja_cons je_int ja_nil)))))) (j_call W__law_next (by decide) rm O.g__law_next pss_body (ja_cons (jv 1) (ja_cons je_int ja_nil)))) ja_nil)) (jg_name 4 sc_law.nd)
    (js_cons (j_set 5 sc_law.nd (j_ix (je_lst (ja_cons (j_call W__law_odd (by decide) rm O.g__law_odd pss_body (ja_cons (jv 1) ja_nil)) (ja_cons je_int (ja_cons (je_neg je_int) (ja_cons je_int (ja_cons je_bl (ja_cons je_bl ja_nil))))))) (j_call W__law_next (by decide) rm O.g__law_next pss_body (ja_cons (jv 1) (ja_cons je_int ja_nil)))))
    (js_one (j_subset (jv 5) (jv 3) (j_call W__law_next (by decide) rm O.g__law_next pss_body (ja_cons (jv 1) (ja_cons je_int ja_nil)))))))
    (js_cons (js_setLc (i := 6) (own := [("_law_k", 10)]) (t := (.nm 10)) rfl rfl sc_law.nd rfl rfl (sw_true rfl rfl rfl (by decide +kernel)) (ji_rng1 rfl O.g_range (ja_cons je_int ja_nil)) (blkOk_by (N := N_law) (sc := defScope d_law.st) (by decide +kernel)) (by decide) (fun _ _ _ _ _ => (jg_name 10 sc_law.nd)) (fun _ _ _ _ _ => (jts_one (PW.pt (jw_or (jt_not (j_t (j_call W__law_whole (by decide) rm O.g__law_whole pss0 (ja_cons (j_ix (jv 3) (jv 10)) ja_nil)))) (jw_or (jt_lt (j_ix (jv 3) (jv 10)) je_int) (jw_or1 (jt_gt (j_ix (jv 3) (jv 10)) je_int))))))) (fun _ _ _ _ _ => (jv 10)))
    (js_cons (j_set 7 sc_law.nd (je_if (jt_ne rm.units (jv 6) (je_lst ja_nil)) (j_ix (jv 6) je_int) (j_add (jb_tuple (ja_cons (jv 3) ja_nil) O.g_tuple) (je_tup (ja_cons (jb_sum (ja_cons (jv 3) ja_nil) rfl O.g_sum) ja_nil)))))
    (js_one (js_if (jt_not (j_t (j_call W__law_same (by decide) rm O.g__law_same pss_body (ja_cons (j_call W__law_told (by decide) rm O.g__law_told pss_body (ja_cons (jv 3) ja_nil)) (ja_cons (jv 7) ja_nil)))))
    (js_one (js_ret je_bl))
    js_nil)))))))
    (js_cons (j_set 8 sc_law.nd (j_stat0 W_Faults_none (by decide) rm rfl O.g_Faults O.stat_Faults_none pss_body))
    (js_one (js_ret (j_call W__law_same (by decide) rm O.g__law_same pss_body (ja_cons (je_tup (ja_cons (j_prop (c := "Faults") W_Faults_lost (by decide) rm O.cls_Faults O.prop_Faults_lost (jv 8)) (ja_cons (j_prop (c := "Faults") W_Faults_late (by decide) rm O.cls_Faults O.prop_Faults_late (jv 8)) (ja_cons (j_prop (c := "Faults") W_Faults_falls (by decide) rm O.cls_Faults O.prop_Faults_falls (jv 8)) (ja_cons (j_prop (c := "Faults") W_Faults_sweeps (by decide) rm O.cls_Faults O.prop_Faults_sweeps (jv 8)) (ja_cons (j_prop (c := "Faults") W_Faults_total (by decide) rm O.cls_Faults O.prop_Faults_total (jv 8)) ja_nil)))))) (ja_cons (je_tup (ja_cons je_int (ja_cons je_int (ja_cons je_int (ja_cons je_int (ja_cons je_int ja_nil)))))) ja_nil))))))))
  exact z
end
end K02


set_option maxHeartbeats 2000000
namespace K02
open PySem PySem.Spec PyProof.Rows L2 DH DL
/-! the deck: numbers are drawn from it -/
structure Deck (T : Nat) (st : Store) : Prop where
  ex : ∃ (bigs cells : List Int) (t : Int), st[0]? = some (.lst (bigs.map .int)) ∧ st[1]? = some (.lst [.loc 0, .lst (cells.map .int), .int t]) ∧ bigs.length ≤ 63 ∧ cells ≠ [] ∧ cells.length ≤ 64 ∧ 0 ≤ t ∧ t ≤ T
  small : T ≤ 1000000
theorem sl64 {n : Nat} (h : n ≤ 1000) : n ≤ sizeLine := by rw [sizeLine_eq]; omega
theorem deck_ok (zs : List Int) (h : zs.length ≤ 63) : ∃ st, f__law_deck [.fro (zs.map .int)] [] = .ok (.loc 1) st ∧ Deck 0 st ∧ st.length = 2 := by
  let ab : Int → Int := fun i => if i < 0 then -i else i
  let cells := zs.map ab
  let bigs := cells.filter fun i => decide ((10 : Int) ^ 18 ≤ i)
  have hl : cells.length ≤ 63 := by simp [cells]; omega
  refine ⟨[.lst (bigs.map .int), .lst [.loc 0, .lst ((cells ++ [(cells.length : Int) + 5]).map .int), .int 0]], ?_, ⟨⟨bigs, cells ++ [(cells.length : Int) + 5], 0, rfl, rfl, ?_, by simp, by simp; omega, Int.le_refl _, by simp⟩, by omega⟩, rfl⟩
  · refine fnB_rt rfl ?_
    show m__law_deck [some (.fro (zs.map .int)), none, none] [] = _
    unfold m__law_deck
    have e1 : mLc (.nm 2) (mIt (mVar 0)) mYes (mCall fAbs (mCons (mVar 2) mNil)) [2] [some (.fro (zs.map .int)), none, none] [] = .ok (.lst (cells.map .int)) [] := by
      rw [lc_ok_of (src := ⟨zs.map .int, []⟩) (s1 := []) rfl, lc_map (p := fun _ => true) (g := fun d => match d with | .int i => .int (ab i) | d => d) okS_nil _ _ (by simp; exact sl64 (by omega))]
      · have : (zs.map D.int).filter (fun _ => true) = zs.map D.int := List.filter_eq_self.mpr fun _ _ => rfl
        simp only [this, List.map_map, List.nil_append, cells]
        rfl
      · intro d hd
        obtain ⟨i, _, rfl⟩ := List.mem_map.mp hd
        exact ⟨_, rfl, rfl, fun _ => rfl⟩
    have e2 : mLcC (.nm 2) (mIt (mVar 1)) (mTest (mOp opGeI (mVar 2) (mOp opPow (mC (.int 10)) (mC (.int 18))))) (mVar 2) [2] [some (.fro (zs.map .int)), some (.lst (cells.map .int)), none] [] = .ok (.loc 0) [.lst (bigs.map .int)] := by
      unfold mLcC
      rw [lc_ok_of (src := ⟨cells.map .int, []⟩) (s1 := []) rfl, lc_map (p := fun d => match d with | .int i => decide ((10 : Int) ^ 18 ≤ i) | d => false) (g := id) okS_nil _ _ (by simp [-sizeLine_eq]; exact sl64 (by omega))]
      · have : ((cells.map D.int).filter fun d => match d with | .int i => decide ((10 : Int) ^ 18 ≤ i) | d => false) = bigs.map .int := by
          rw [List.filter_map]
          rfl
        simp only [List.nil_append, List.map_id, this]
        rfl
      · intro d hd
        obtain ⟨i, _, rfl⟩ := List.mem_map.mp hd
        refine ⟨_, rfl, ?_, fun _ => rfl⟩
        have hp : CPow 10 18 := by decide
        simp [wipeD, opPow, DL.opI, hp, opGeI, opCmpI]
    have h2 : ∀ n, n ≤ 1000 → n ≤ sizeLine := fun n => sl64
    have h3 : cells.length + 1 ≤ sizeLine := sl64 (by omega)
    have h4 : 3 ≤ sizeLine := sl64 (by omega)
    have h5 : 1 ≤ sizeLine := sl64 (by omega)
    rw [seq_nx (set_ok e1)]
    refine ret_ok ?_
    show mLstC _ [some (.fro (zs.map .int)), some (.lst (cells.map .int)), none] [] = _
    simp [e2, fLen, asS, asL, asO, opAdd, catL, h3, h4, h5]
  · exact Nat.le_trans (List.length_filter_le _ _) hl
/-- the deck with its big numbers written anew -/
structure DeckAt (st : Store) (bigs cells : List Int) (t : Int) : Prop where
  c0 : st[0]? = some (.lst (bigs.map .int))
  c1 : st[1]? = some (.lst [.loc 0, .lst (cells.map .int), .int t])
theorem DeckAt.put {st : Store} {bigs cells : List Int} {t : Int} (h : DeckAt st bigs cells t) (bigs' : List Int) : DeckAt (st.set 0 (.lst (bigs'.map .int))) bigs' cells t := by
  have l0 : 0 < st.length := (List.getElem?_eq_some_iff.mp h.c0).1
  exact ⟨by rw [List.getElem?_set_self l0], by rw [List.getElem?_set_ne (by omega)]; exact h.c1⟩
abbrev nxCond : M Bool := mTest (mOp (opEqD true) (mOp opIx (mVar 0) (mC (.int 0))) (mLst mNil))
abbrev nxBody : SM := sSeq (sSet 2 (mOp opIx (mOp opIx (mVar 0) (mC (.int 0))) (mC (.int 0))))
    (sSeq (sIf (mTest (mOp opGtI (mVar 2) (mC (.int 0))))
    (sSeq (sSub (mOp opIx (mVar 0) (mC (.int 0))) (mC (.int 0)) (mOp opDiv (mVar 2) (mVar 1)))
    (sRet (mOp opMod (mCall fInt (mCons (mVar 2) mNil)) (mVar 1))))
    sNil)
    (sDrop (mPopAt (mOp opIx (mVar 0) (mC (.int 0))) (mCons (mC (.int 0)) mNil))))
section
variable {st : Store} {bigs cells : List Int} {t many : Int} {e2 : Option D}
theorem atI0 {α : Type} (x : α) (xs : List α) : atI (x :: xs) 0 = some x := by simp [atI, ixN]
theorem at0 (h : DeckAt st bigs cells t) : asS st (.loc 1) = some [.loc 0, .lst (cells.map .int), .int t] := by simp [asS, asL, h.c1]
theorem ix0 (h : DeckAt st bigs cells t) : opIx (.loc 1) (.int 0) st = .ok (.loc 0) st := by simp [opIx, at0 h, atI0]
theorem sizeZ : (0 ≤ sizeLine) = True := by simp
theorem cond_ok (h : DeckAt st bigs cells t) : nxCond [some (.loc 1), some (.int many), e2, none, none, none] st = .ok (!bigs.isEmpty) st := by
  have r : res st (.loc 0) = .lst (bigs.map .int) := by simp [res, h.c0]
  simp [ix0 h, neNil r]
theorem body_pos {b : Int} {bs : List Int} (h : DeckAt st (b :: bs) cells t) (hb : 0 < b) (h1 : 0 < many) (h2 : many < 1073741824) : nxBody [some (.loc 1), some (.int many), e2, none, none, none] st = .ok (.rt (.int (b % many))) (st.set 0 (.lst ((b / many :: bs).map .int))) := by
  have l0 : asS st (.loc 0) = some ((b :: bs).map .int) := by simp [asS, asL, h.c0]
  have hd : CDiv b many := ⟨h1, h2⟩
  have i1 : opIx (.loc 0) (.int 0) st = .ok (.int b) st := by simp [opIx, l0, atI0]
  have x0 : ixN (bs.length + 1) 0 = some 0 := by simp [ixN]
  have la : listAt st (.loc 0) = some (0, (b :: bs).map .int) := by simp [DL.listAt, h.c0]
  simp [ix0 h, i1, opGtI, opCmpI, DL.opI, hb, opDiv, hd, la, x0, fInt, opMod, h1]
theorem body_neg {b : Int} {bs : List Int} (h : DeckAt st (b :: bs) cells t) (hb : ¬ 0 < b) : nxBody [some (.loc 1), some (.int many), e2, none, none, none] st = .ok (.nx [some (.loc 1), some (.int many), some (.int b), none, none, none]) (st.set 0 (.lst (bs.map .int))) := by
  have l0 : asS st (.loc 0) = some ((b :: bs).map .int) := by simp [asS, asL, h.c0]
  have i1 : opIx (.loc 0) (.int 0) st = .ok (.int b) st := by simp [opIx, l0, atI0]
  have la : listAt st (.loc 0) = some (0, (b :: bs).map .int) := by simp [DL.listAt, h.c0]
  have sx : PySem.seqIndex? 0 (bs.length + 1) = some 0 := by simp [PySem.seqIndex?]
  simp [ix0 h, i1, opGtI, opCmpI, DL.opI, hb, mPopAt, la, sx]
theorem while_ok (h1 : 0 < many) (h2 : many < 1073741824) : ∀ (bigs : List Int) (n : Nat) (e2 : Option D) (st : Store), bigs.length < n → DeckAt st bigs cells t →
    (∃ (r : Int) (bigs' : List Int), whileGo nxCond nxBody n [some (.loc 1), some (.int many), e2, none, none, none] st = .ok (.rt (.int r)) (st.set 0 (.lst (bigs'.map .int))) ∧ 0 ≤ r ∧ r < many ∧ bigs'.length ≤ bigs.length) ∨
    (∃ e2', whileGo nxCond nxBody n [some (.loc 1), some (.int many), e2, none, none, none] st = .ok (.nx [some (.loc 1), some (.int many), e2', none, none, none]) (st.set 0 (.lst [])))
  | [], n + 1, e2, st, _, h => by
    refine .inr ⟨e2, ?_⟩
    have l0 : 0 < st.length := (List.getElem?_eq_some_iff.mp h.c0).1
    have q : st[0]'l0 = .lst [] := (List.getElem?_eq_some_iff.mp h.c0).2
    have e : st.set 0 (.lst []) = st := (congrArg (st.set 0) q.symm).trans (List.set_getElem_self l0)
    rw [e]
    unfold whileGo
    rw [cond_ok h]
    rfl
  | b :: bs, n + 1, e2, st, hn, h => by
    have ec : whileGo nxCond nxBody (n + 1) [some (.loc 1), some (.int many), e2, none, none, none] st = (match nxBody [some (.loc 1), some (.int many), e2, none, none, none] st with
      | .ok (.nx env2) s2 => whileGo nxCond nxBody n env2 s2
      | .ok (.ct env2) s2 => whileGo nxCond nxBody n env2 s2
      | .ok (.bk env2) s2 => .ok (.nx env2) s2
      | r => r) := by
      conv => lhs; unfold whileGo
      rw [cond_ok h]
      rfl
    by_cases hb : 0 < b
    · refine .inl ⟨b % many, b / many :: bs, ?_, Int.emod_nonneg _ (by omega), Int.emod_lt_of_pos _ h1, by simp⟩
      rw [ec, body_pos h hb h1 h2]
    · rw [ec, body_neg h hb]
      have l0 : 0 < st.length := (List.getElem?_eq_some_iff.mp h.c0).1
      have ih := while_ok h1 h2 bs n (some (.int b)) (st.set 0 (.lst (bs.map .int))) (by simp at hn; omega) (h.put bs)
      simp only [List.set_set] at ih
      rcases ih with ⟨r, bigs', e, q1, q2, q3⟩ | ⟨e2', e⟩
      · exact .inl ⟨r, bigs', e, q1, q2, by simp; omega⟩
      · exact .inr ⟨e2', e⟩
end
/-- a drawn number -/
theorem next_ok {T : Nat} {st : Store} {many : Int} (h : Deck T st) (h1 : 0 < many) (h2 : many < 1073741824) (hT : T + 1 ≤ 1000000) : ∃ r st', f__law_next [.loc 1, .int many] st = .ok (.int r) st' ∧ 0 ≤ r ∧ r < many ∧ Deck (T + 1) st' ∧ st'.length = st.length ∧ ∀ n, 2 ≤ n → st'[n]? = st[n]? := by
  obtain ⟨⟨bigs, cells, t, c0, c1, hb, hc, hcl, t0, tT⟩, _⟩ := h
  have D0 : DeckAt st bigs cells t := ⟨c0, c1⟩
  have l0 : 0 < st.length := (List.getElem?_eq_some_iff.mp c0).1
  have l1 : 1 < st.length := (List.getElem?_eq_some_iff.mp c1).1
  rcases while_ok (e2 := none) h1 h2 bigs 64 st (by omega) D0 with ⟨r, bigs', e, q1, q2, q3⟩ | ⟨e2', e⟩
  · refine ⟨r, _, fnB_rt rfl (seq_end e), q1, q2, ⟨⟨bigs', cells, t, (D0.put bigs').c0, (D0.put bigs').c1, by omega, hc, hcl, t0, by omega⟩, hT⟩, by simp, fun n hn => by rw [List.getElem?_set_ne (by omega)]⟩
  · have D1 := D0.put []
    let st1 : Store := st.set 0 (.lst [])
    have k0 : st1[0]? = some (.lst []) := D1.c0
    have k1 : st1[1]? = some (.lst [.loc 0, .lst (cells.map .int), .int t]) := D1.c1
    have m1 : 1 < st1.length := by simp only [st1, List.length_set]; exact l1
    let t1 : Int := t + 1
    let st2 : Store := st1.set 1 (.lst [.loc 0, .lst (cells.map .int), .int t1])
    have g1 : st2[1]? = some (.lst [.loc 0, .lst (cells.map .int), .int t1]) := List.getElem?_set_self m1
    have a1 : asS st1 (.loc 1) = some [.loc 0, .lst (cells.map .int), .int t] := by simp [asS, asL, k1]
    have a2 : asS st2 (.loc 1) = some [.loc 0, .lst (cells.map .int), .int t1] := by simp [asS, asL, g1]
    have v1 : opIx (.loc 1) (.int 2) st1 = .ok (.int t) st1 := by simp [opIx, a1, atI, ixN]
    have v2 : opIx (.loc 1) (.int 2) st2 = .ok (.int t1) st2 := by simp [opIx, a2, atI, ixN]
    have v3 : opIx (.loc 1) (.int 1) st2 = .ok (.lst (cells.map .int)) st2 := by simp [opIx, a2, atI, ixN]
    have la : DL.listAt st1 (.loc 1) = some (1, [.loc 0, .lst (cells.map .int), .int t]) := by simp [DL.listAt, k1]
    have lp : 0 < (cells.length : Int) := by
      cases cells with
      | nil => exact absurd rfl hc
      | cons a l => simp only [List.length_cons]; omega
    have lpn : 0 < cells.length := by omega
    have i0 : 0 ≤ t1 % (cells.length : Int) := Int.emod_nonneg _ (by omega)
    have i1 : t1 % (cells.length : Int) < cells.length := Int.emod_lt_of_pos _ lp
    obtain ⟨c, hcc⟩ : ∃ c, cells[(t1 % (cells.length : Int)).toNat]? = some c := ⟨_, List.getElem?_eq_getElem (by omega)⟩
    have v4 : opIx (.lst (cells.map .int)) (.int (t1 % (cells.length : Int))) st2 = .ok (.int c) st2 := by
      simp [opIx, asS, asL, atI, ixN, i0, i1]
      exact (List.getElem?_eq_some_iff.mp hcc).2
    let num : Int := c % 2147483629
    have n0 : 0 ≤ num := Int.emod_nonneg _ (by omega)
    have n1 : num < 2147483629 := Int.emod_lt_of_pos _ (by omega)
    let mix : Int := (num * (50331 + 68111 * t1) + 41287 * t1 * t1 + 19) % 2147483587
    have x0 : 0 ≤ mix := Int.emod_nonneg _ (by omega)
    have x1 : mix < 2147483587 := Int.emod_lt_of_pos _ (by omega)
    have tb : 0 < t1 ∧ t1 ≤ 1000001 := by simp only [t1]; omega
    have u1 : CMulB 68111 t1 := .inl (.inl (by omega))
    have u2 : CMulB num (50331 + 68111 * t1) := .inl (.inl (by omega))
    have u3 : CMulB 41287 t1 := .inl (.inl (by omega))
    have u4 : CMulB (41287 * t1) t1 := .inl (.inr (by omega))
    have u5 : CMulB mix mix := .inl (.inl (by omega))
    let r : Int := mix * mix % 2147483579 / 16 % many
    have ud : CDiv (mix * mix % 2147483579) 16 := ⟨by omega, by omega⟩
    refine ⟨r, st2, fnB_rt rfl ?_, Int.emod_nonneg _ (by omega), Int.emod_lt_of_pos _ h1, ⟨⟨[], cells, t1, ?_, g1, by simp, hc, hcl, by omega, by simp only [t1]; omega⟩, hT⟩, by simp [st2, st1], fun n hn => ?_⟩
    · refine (seq_nx e).trans ?_
      have s1 : sSub (mVar 0) (mC (.int 2)) (mOp opAdd (mOp opIx (mVar 0) (mC (.int 2))) (mC (.int 1))) [some (.loc 1), some (.int many), e2', none, none, none] st1 = .ok (.nx [some (.loc 1), some (.int many), e2', none, none, none]) st2 := by
        simp [v1, opAdd, la, ixN, st2, t1]
      rw [seq_nx s1]
      have s2 : mOp opIx (mVar 0) (mC (.int 2)) [some (.loc 1), some (.int many), e2', none, none, none] st2 = .ok (.int t1) st2 := by simp [v2]
      rw [seq_nx (set_ok s2)]
      have s3 : mOp opMod (mCall fInt (mCons (mOp opIx (mOp opIx (mVar 0) (mC (.int 1))) (mOp opMod (mCall fInt (mCons (mVar 3) mNil)) (mCall fLen (mCons (mOp opIx (mVar 0) (mC (.int 1))) mNil)))) mNil)) (mC (.int 2147483629)) [some (.loc 1), some (.int many), e2', some (.int t1), none, none] st2 = .ok (.int num) st2 := by
        simp [v3, fInt, fLen, asS, asL, opMod, DL.opI, lp, lpn, v4, num]
      rw [List.set, List.set, List.set, List.set, seq_nx (set_ok s3)]
      have s4 : mOp opMod (mCall fInt (mCons (mOp opAdd (mOp opAdd (mOp opMul (mVar 4) (mOp opAdd (mC (.int 50331)) (mOp opMul (mC (.int 68111)) (mVar 3)))) (mOp opMul (mOp opMul (mC (.int 41287)) (mVar 3)) (mVar 3))) (mC (.int 19))) mNil)) (mC (.int 2147483587)) [some (.loc 1), some (.int many), e2', some (.int t1), some (.int num), none] st2 = .ok (.int mix) st2 := by
        simp [opMul, DL.opI, u1, u2, u3, u4, opAdd, fInt, opMod, mix]
      rw [List.set, List.set, List.set, List.set, List.set, seq_nx (set_ok s4)]
      refine ret_ok ?_
      simp [opMul, DL.opI, u5, fInt, opMod, opDiv, ud, h1, r]
    · show (st1.set 1 _)[0]? = _
      rw [List.getElem?_set_ne (by omega)]
      exact k0
    · show ((st.set 0 _).set 1 _)[n]? = _
      rw [List.getElem?_set_ne (by omega), List.getElem?_set_ne (by omega)]
end K02

set_option maxHeartbeats 2000000
namespace K02
open PySem PySem.Spec PyProof.Rows L2 DH DL
/-! values of the language, no objects, no cells -/
def pl : D → Bool
  | .obj _ _ _ => false
  | .fro _ => false
  | .loc _ => false
  | .exn _ _ _ => false
  | d => d.noLoc
def isI : D → Bool
  | .int _ => true
  | _ => false
theorem whole_ok (d : D) (st : Store) (h : pl d = true) : f__law_whole [d] st = .ok (.bl (isI d)) st := by
  refine fnB_rt rfl ?_
  cases d <;> first | (cases h; done) | simp [m__law_whole, kd, isa, isaAny, isaR, isI, tru]
theorem whole2_ok (d : D) (st : Store) (h : pl d = true) : f_is_whole [d] st = .ok (.bl (isI d)) st := by
  refine fnB_rt rfl ?_
  cases d <;> first | (cases h; done) | simp [m_is_whole, kd, isa, isaAny, isaR, isI, tru]
/-- an integer from lo to hi -/
def inR (lo hi : Int) : D → Bool
  | .int i => decide (lo ≤ i) && decide (i ≤ hi)
  | _ => false
theorem within_ok (d : D) (lo hi : Int) (st : Store) (h : pl d = true) : f_is_within [d, .int lo, .int hi] st = .ok (.bl (inR lo hi d)) st := by
  refine fnB_rt rfl ?_
  have w := whole2_ok d st h
  cases d with
  | int i =>
    by_cases c : lo ≤ i
    · simp [m_is_within, ar, w, isI, opLeI, opCmpI, DL.opI, inR, c]
    · simp [m_is_within, ar, w, isI, opLeI, opCmpI, DL.opI, inR, c]
  | _ => first | (cases h; done) | simp [m_is_within, ar, w, isI, inR]
end K02

set_option maxHeartbeats 2000000
namespace K02
open PySem PySem.Spec PyProof.Rows L2 DH DL
def firstBad (ds : List D) : Option Nat := ds.findIdx? fun d => !inR 0 3 d
theorem sz5 : ∀ n, n ≤ 1000 → (n ≤ sizeLine) := fun n h => by rw [sizeLine_eq]; omega
theorem init_ok (a b c d : D) (ha : pl a = true) (hb : pl b = true) (hc : pl c = true) (hd : pl d = true) :
    f_Faults_init [.loc 0, a, b, c, d] [Cell.ins "Faults" [] []] = match firstBad [a, b, c, d] with
      | some k => .exc ⟨"BadFaults", ["place"], [.int k]⟩ [Cell.ins "Faults" ["four"] [.tup [a, b, c, d]]]
      | none => .ok .non [Cell.ins "Faults" ["four"] [.tup [a, b, c, d]]] := by
  let s1 : Store := [Cell.ins "Faults" ["four"] [.tup [a, b, c, d]]]
  let e1 : Sl := [some (.loc 0), some a, some b, some c, some d, none]
  have z4 : (4 : Nat) ≤ sizeLine := sz5 4 (by omega)
  have h1 : DL.sFld "Faults" "four" (mVar 0) (mTup (mCons (mVar 1) (mCons (mVar 2) (mCons (mVar 3) (mCons (mVar 4) mNil))))) e1 [Cell.ins "Faults" [] []] = .ok (.nx e1) s1 := by
    simp [e1, s1, z4, putN]
  have hbody : ∀ (k : Nat) (x : D), k < 4 → [a, b, c, d][k]? = some x → pl x = true → ∀ z : Option D, (sIf (mNotT (mTru (mCall (ar 3 f_is_within) (mCons (mOp opIx (mFld "Faults" "four" (mVar 0)) (mVar 5)) (mCons (mC (.int 0)) (mCons (mC (.int 3)) mNil))))))
    (sRaise "BadFaults" ["place"] (mCons (mVar 5) mNil)) sNil) [some (.loc 0), some a, some b, some c, some d, some (.int k)] s1 = if inR 0 3 x then .ok (.nx [some (.loc 0), some a, some b, some c, some d, some (.int k)]) s1 else .ok (.xc ⟨"BadFaults", ["place"], [.int k]⟩ [some (.loc 0), some a, some b, some c, some d, some (.int k)]) s1 := by
    intro k x hk hx px z
    have w := within_ok x 0 3 s1 px
    have ix : opIx (.tup [a, b, c, d]) (.int k) s1 = .ok x s1 := by
      have e : atI [a, b, c, d] (k : Int) = some x := by
        unfold atI ixN
        have h4 : (k : Int) < ([a, b, c, d].length : Int) := by simp; omega
        rw [if_pos (by omega), if_pos h4]
        simpa using hx
      simp [opIx, asS, e]
    have fl : insOf s1 (.loc 0) = some (("Faults" : Str), (["four"] : List Str), [D.tup [a, b, c, d]]) := rfl
    have lk : ((["four"] : List Str).zip [D.tup [a, b, c, d]]).lookup ("four" : Str) = some (D.tup [a, b, c, d]) := by simp
    cases q : inR 0 3 x <;> simp [fl, lk, ix, ar, w, q, tru]
  have hloop : forGo (.nm 5) (sIf (mNotT (mTru (mCall (ar 3 f_is_within) (mCons (mOp opIx (mFld "Faults" "four" (mVar 0)) (mVar 5)) (mCons (mC (.int 0)) (mCons (mC (.int 3)) mNil))))))
    (sRaise "BadFaults" ["place"] (mCons (mVar 5) mNil)) sNil) ⟨intsD 0 4, []⟩ (intsD 0 4) e1 s1 = (match firstBad [a, b, c, d] with
      | some k => .ok (.xc ⟨"BadFaults", ["place"], [.int k]⟩ [some (.loc 0), some a, some b, some c, some d, some (.int k)]) s1
      | none => .ok (.nx [some (.loc 0), some a, some b, some c, some d, some (.int 3)]) s1) := by
    have b0 := hbody 0 a (by omega) rfl ha none
    have b1 := hbody 1 b (by omega) rfl hb none
    have b2 := hbody 2 c (by omega) rfl hc none
    have b3 := hbody 3 d (by omega) rfl hd none
    show forGo _ _ _ [.int 0, .int 1, .int 2, .int 3] e1 s1 = _
    cases q0 : inR 0 3 a with
    | false =>
      rw [q0] at b0
      rw [forGo_xc okS_nil rfl b0]
      simp [firstBad, q0, List.findIdx?_cons]
    | true =>
      rw [q0] at b0
      rw [forGo_nx okS_nil rfl b0]
      cases q1 : inR 0 3 b with
      | false =>
        rw [q1] at b1
        rw [forGo_xc okS_nil rfl b1]
        simp [firstBad, q0, q1, List.findIdx?_cons]
      | true =>
        rw [q1] at b1
        rw [forGo_nx okS_nil rfl b1]
        cases q2 : inR 0 3 c with
        | false =>
          rw [q2] at b2
          rw [forGo_xc okS_nil rfl b2]
          simp [firstBad, q0, q1, q2, List.findIdx?_cons]
        | true =>
          rw [q2] at b2
          rw [forGo_nx okS_nil rfl b2]
          cases q3 : inR 0 3 d with
          | false =>
            rw [q3] at b3
            rw [forGo_xc okS_nil rfl b3]
            simp [firstBad, q0, q1, q2, q3, List.findIdx?_cons]
          | true =>
            rw [q3] at b3
            rw [forGo_nx okS_nil rfl b3, forGo_nil okS_nil]
            simp [firstBad, q0, q1, q2, q3, List.findIdx?_cons]
  have hall : m_Faults_init e1 [Cell.ins "Faults" [] []] = (match firstBad [a, b, c, d] with
      | some k => .ok (.xc ⟨"BadFaults", ["place"], [.int k]⟩ [some (.loc 0), some a, some b, some c, some d, some (.int k)]) s1
      | none => .ok (.nx [some (.loc 0), some a, some b, some c, some d, some (.int 3)]) s1) := by
    refine (seq_nx h1).trans ?_
    rw [sFor_ok (src := ⟨intsD 0 4, []⟩) (s1 := s1) (by simp [mRng1])]
    exact hloop
  cases q : firstBad [a, b, c, d] with
  | none =>
    rw [q] at hall
    exact fnB_nx rfl hall
  | some k =>
    rw [q] at hall
    exact fnB_xc rfl hall
theorem make_ok (a b c d : D) (st : Store) (ha : pl a = true) (hb : pl b = true) (hc : pl c = true) (hd : pl d = true) (hn : D.noLocs [a, b, c, d] = true) :
    mkF "Faults" (ar 5 f_Faults_init) [a, b, c, d] st = match firstBad [a, b, c, d] with
      | some k => .exc ⟨"BadFaults", ["place"], [.int k]⟩ st
      | none => .ok (.obj "Faults" ["four"] [.tup [a, b, c, d]]) st := by
  have hi := init_ok a b c d ha hb hc hd
  unfold mkF
  rw [if_pos hn]
  have e : ar 5 f_Faults_init (.loc 0 :: [a, b, c, d]) [Cell.ins "Faults" [] []] = f_Faults_init [.loc 0, a, b, c, d] [Cell.ins "Faults" [] []] := ar_ok rfl
  rw [e, hi]
  cases q : firstBad [a, b, c, d] with
  | none => simp [D.noLocs, D.noLoc] at hn ⊢; exact hn
  | some k => simp [D.noLocs, D.noLoc]
end K02

set_option maxHeartbeats 2000000
namespace K02
open PySem PySem.Spec PyProof.Rows L2 DH DL
/-! the properties of faults -/
abbrev fobj (a b c d : D) : D := .obj "Faults" ["four"] [.tup [a, b, c, d]]
section
variable {a b c d : D} {st : Store}
theorem fl4 : insOf st (fobj a b c d) = some (("Faults" : Str), (["four"] : List Str), [D.tup [a, b, c, d]]) := rfl
theorem lk4 : ((["four"] : List Str).zip [D.tup [a, b, c, d]]).lookup ("four" : Str) = some (D.tup [a, b, c, d]) := by simp
theorem lost_ok : f_Faults_lost [fobj a b c d] st = .ok a st := by
  refine fnB_rt rfl ?_
  simp [m_Faults_lost, insOf, opIx, asS, atI, ixN]
theorem late_ok : f_Faults_late [fobj a b c d] st = .ok b st := by
  refine fnB_rt rfl ?_
  simp [m_Faults_late, insOf, opIx, asS, atI, ixN]
theorem falls_ok : f_Faults_falls [fobj a b c d] st = .ok c st := by
  refine fnB_rt rfl ?_
  simp [m_Faults_falls, insOf, opIx, asS, atI, ixN]
theorem sweeps_ok : f_Faults_sweeps [fobj a b c d] st = .ok d st := by
  refine fnB_rt rfl ?_
  simp [m_Faults_sweeps, insOf, opIx, asS, atI, ixN]
theorem total_ok {i j k l : Int} : f_Faults_total [fobj (.int i) (.int j) (.int k) (.int l)] st = .ok (.int (i + (j + (k + l)))) st := by
  refine fnB_rt rfl ?_
  simp [m_Faults_total, insOf, fS, asS, gSum, toInts]
theorem ev_prop {c f : Str} {fn : Fn} {mo : M D} {env : Sl} : mProp c fn mo env st = (mo env st).bind fun d s => match insOf s d with
  | some (c', _, _) => if c' = c then (match fn [d] s with
    | .ok z s2 => .ok z s2
    | _ => .bad) else .bad
  | none => .bad := rfl
end
/-- what is told of four values -/
theorem told_ok (x a b c d : D) (st : Store) (hx : asS st x = some [a, b, c, d]) (hp : x ≠ .non → True) (ha : pl a = true) (hb : pl b = true) (hc : pl c = true) (hd : pl d = true) (hn : D.noLocs [a, b, c, d] = true) :
    (∀ k, firstBad [a, b, c, d] = some k → f__law_told [x] st = .ok (.int k) st) ∧
    (firstBad [a, b, c, d] = none → ∀ i j k l, a = .int i → b = .int j → c = .int k → d = .int l → f__law_told [x] st = .ok (.tup [.int i, .int j, .int k, .int l, .int (i + (j + (k + l)))]) st) := by
  have mk := make_ok a b c d st ha hb hc hd hn
  have nstr : ∀ y, x ≠ .str y := fun y e => by subst e; cases hx
  have i0 : opIx x (.int 0) st = .ok a st := by cases x <;> first | (simp [opIx, hx, atI, ixN]; done) | (cases hx; done)
  have i1 : opIx x (.int 1) st = .ok b st := by cases x <;> first | (simp [opIx, hx, atI, ixN]; done) | (cases hx; done)
  have i2 : opIx x (.int 2) st = .ok c st := by cases x <;> first | (simp [opIx, hx, atI, ixN]; done) | (cases hx; done)
  have i3 : opIx x (.int 3) st = .ok d st := by cases x <;> first | (simp [opIx, hx, atI, ixN]; done) | (cases hx; done)
  refine ⟨fun k hk => ?_, fun hk i j k l e1 e2 e3 e4 => ?_⟩
  · rw [hk] at mk
    refine fnB_rt rfl (seq_end ?_)
    have h1 : sSet 1 (mCall (mkF "Faults" (ar 5 f_Faults_init)) (mCons (mOp opIx (mVar 0) (mC (.int 0))) (mCons (mOp opIx (mVar 0) (mC (.int 1))) (mCons (mOp opIx (mVar 0) (mC (.int 2))) (mCons (mOp opIx (mVar 0) (mC (.int 3))) mNil))))) [some x, none, none] st = .ok (.xc ⟨"BadFaults", ["place"], [.int k]⟩ [some x, none, none]) st := by
      simp [i0, i1, i2, i3, mk]
    show sTry _ _ _ _ [some x, none, none] st = _
    unfold sTry
    rw [h1]
    have hh : hit_PartsError "BadFaults" = some true := rfl
    simp only [hh]
    have h2 : (sRet (mIf (mTru (mIsi isa [.err "BadFaults"] (mVar 2))) (mXf "BadFaults" "place" (mVar 2)) (mC (.str "other")))) ([some x, none, none].set 2 (some (.exn "BadFaults" ["place"] [.int k]))) st = .ok (.rt (.int k)) st := by
      have hi : isa (.err "BadFaults") (.err "BadFaults") = some true := by decide +kernel
      simp [kd, isaAny, hi, tru, mXf]
    rw [h2]
    simp [outS, D.noX]
  · rw [hk] at mk
    subst e1 e2 e3 e4
    have h1 : sTry hit_PartsError 2 (sSet 1 (mCall (mkF "Faults" (ar 5 f_Faults_init)) (mCons (mOp opIx (mVar 0) (mC (.int 0))) (mCons (mOp opIx (mVar 0) (mC (.int 1))) (mCons (mOp opIx (mVar 0) (mC (.int 2))) (mCons (mOp opIx (mVar 0) (mC (.int 3))) mNil)))))) (sRet (mIf (mTru (mIsi isa [.err "BadFaults"] (mVar 2))) (mXf "BadFaults" "place" (mVar 2)) (mC (.str "other")))) [some x, none, none] st = .ok (.nx [some x, some (fobj (.int i) (.int j) (.int k) (.int l)), none]) st := by
      unfold sTry
      simp [i0, i1, i2, i3, mk]
    refine fnB_rt rfl ((seq_nx h1).trans (ret_ok ?_))
    have z5 : (5 : Nat) ≤ sizeLine := sz5 5 (by omega)
    simp [ev_prop, insOf, lost_ok, late_ok, falls_ok, sweeps_ok, total_ok, z5]
end K02

set_option maxHeartbeats 2000000
namespace K02
open PySem PySem.Spec PyProof.Rows L2 DH DL
/-! alike to itself -/
mutual
def sm : Nat → D → Bool
  | 0, _ => false
  | n + 1, d => match d with
    | .non => true
    | .bl _ => true
    | .int _ => true
    | .str x => SeqAt.shaped (.str x)
    | .tup xs => decide (xs.length ≤ 1000000) && sms n xs
    | .lst xs => decide (xs.length ≤ 1000000) && sms n xs
    | _ => false
def sms : Nat → List D → Bool
  | _, [] => true
  | n, d :: ds => sm n d && sms n ds
end
theorem sms_all : ∀ {n : Nat} {ds : List D}, sms n ds = true → ∀ d ∈ ds, sm n d = true
  | n, [], _, d, h => by cases h
  | n, x :: xs, h, d, hd => by
    unfold sms at h
    obtain ⟨h1, h2⟩ := Bool.and_eq_true_iff.mp h
    rcases List.mem_cons.mp hd with e | hd
    · exact e ▸ h1
    · exact sms_all h2 d hd
theorem pairs_same : ∀ xs : List D, pairsD xs xs = xs.map fun d => .tup [d, d]
  | [] => rfl
  | x :: xs => by simp [pairsD, pairs_same xs]
theorem bls_true : ∀ xs : List D, toBls (xs.map fun _ => D.bl true) = some (xs.map fun _ => true)
  | [] => rfl
  | x :: xs => by simp [toBls, bls_true xs]
theorem eq_int {i j : Int} {st : Store} : opEqD false (.int i) (.int j) st = .ok (.bl (i == j)) st := by
  simp [opEqD, res, D.py, SeqAt.shaped, PyData.canLay0, PyData.depth, PyData.eqv]
theorem eq_bl {neg : Bool} {i j : Bool} {st : Store} : opEqD neg (.bl i) (.bl j) st = .ok (.bl (neg ^^ (i == j))) st := by
  simp [opEqD, res, D.py, SeqAt.shaped, PyData.canLay0, PyData.depth, PyData.eqv]
theorem eq_str {x : Str} {st : Store} (h : SeqAt.shaped (.str x) = true) : opEqD false (.str x) (.str x) st = .ok (.bl true) st := by
  simp [opEqD, res, D.py, h, PyData.eqv]
theorem same_seq {n : Nat} {xs : List D} {x : D} {st : Store} {i0 : Option D} (e : x = .tup xs ∨ x = .lst xs) (hl : xs.length ≤ 1000000) (ih : ∀ d ∈ xs, f__law_same n [d, d] st = .ok (.bl true) st) :
    mCall (fL gAll) (mCons (mLc (.tu [(.nm 2), (.nm 3)]) (mZip (mCons (mVar 0) (mCons (mVar 1) mNil))) mYes (mCall (ar 2 (f__law_same n)) (mCons (mVar 2) (mCons (mVar 3) mNil))) [2, 3]) mNil) [some x, some x, none, none] st = .ok (.bl true) st := by
  have hm : mZip (mCons (mVar 0) (mCons (mVar 1) mNil)) [some x, some x, none, none] st = .ok ⟨pairsD xs xs, []⟩ st := by
    rcases e with e | e <;> subst e <;> simp [mZip, srcOf]
  have h1 : mLc (.tu [(.nm 2), (.nm 3)]) (mZip (mCons (mVar 0) (mCons (mVar 1) mNil))) mYes (mCall (ar 2 (f__law_same n)) (mCons (mVar 2) (mCons (mVar 3) mNil))) [2, 3] [some x, some x, none, none] st = .ok (.lst (xs.map fun _ => .bl true)) st := by
    rw [lc_ok_of hm, lc_map (p := fun _ => true) (g := fun _ => .bl true) okS_nil _ _ (by rw [sizeLine_eq]; simp [DL.pairs_len]; omega)]
    · have : (pairsD xs xs).filter (fun _ => true) = pairsD xs xs := List.filter_eq_self.mpr fun _ _ => rfl
      rw [this, pairs_same, List.map_map, List.nil_append]
      rfl
    · intro d hd
      rw [pairs_same] at hd
      obtain ⟨y, hy, rfl⟩ := List.mem_map.mp hd
      refine ⟨_, rfl, rfl, fun _ => ?_⟩
      simp [wipeD, ar, ih y hy]
  simp [h1, fL, asL, gAll, bls_true]
theorem same_ok : ∀ (n : Nat) (d : D) (st : Store), sm n d = true → f__law_same n [d, d] st = .ok (.bl true) st
  | 0, d, st, h => by cases d <;> cases h
  | n + 1, d, st, h => by
    show fnB 2 4 (m__law_same (f__law_same n)) [d, d] st = _
    refine fnB_rt rfl ?_
    show m__law_same (f__law_same n) [some d, some d, none, none] st = _
    have seq : ∀ xs : List D, (d = .tup xs ∨ d = .lst xs) → xs.length ≤ 1000000 → sms n xs = true → m__law_same (f__law_same n) [some d, some d, none, none] st = .ok (.rt (.bl true)) st := fun xs e hl hs => by
      have hq := same_seq (i0 := none) e hl fun y hy => same_ok n y st (sms_all hs y hy)
      rcases e with e | e <;> subst e <;> simp only [m__law_same] <;> refine seq_end ?_
      · refine (if_t (st' := st) (by simp [kd, isaAny, isa, isaR, tru])).trans ?_
        refine (seq_nx (env' := [some (.tup xs), some (.tup xs), none, none]) (st' := st) ?_).trans (ret_ok ?_)
        · refine (if_f (st' := st) ?_).trans rfl
          simp [kd, isaAny, isa, isaR, eq_bl]
        · have hz := hq
          simp only [ev_and, ev_op] at hz ⊢
          simp [fLen, asS, eq_int] at hz ⊢
          exact hz
      · refine (if_t (st' := st) (by simp [kd, isaAny, isa, isaR, tru])).trans ?_
        refine (seq_nx (env' := [some (.lst xs), some (.lst xs), none, none]) (st' := st) ?_).trans (ret_ok ?_)
        · refine (if_f (st' := st) ?_).trans rfl
          simp [kd, isaAny, isa, isaR, eq_bl]
        · have hz := hq
          simp only [ev_and, ev_op] at hz ⊢
          simp [fLen, asS, asL, eq_int] at hz ⊢
          exact hz
    cases d with
    | tup xs =>
      unfold sm at h
      obtain ⟨h1, h2⟩ := Bool.and_eq_true_iff.mp h
      exact seq xs (.inl rfl) (of_decide_eq_true h1) h2
    | lst xs =>
      unfold sm at h
      obtain ⟨h1, h2⟩ := Bool.and_eq_true_iff.mp h
      exact seq xs (.inr rfl) (of_decide_eq_true h1) h2
    | str x =>
      have hs : SeqAt.shaped (.str x) = true := by unfold sm at h; exact h
      simp [m__law_same, kd, isaAny, isa, isaR, tru, opIsN, eq_str hs]
    | non => simp [m__law_same, kd, isaAny, isa, isaR, tru, opIsN]
    | int i => simp [m__law_same, kd, isaAny, isa, isaR, tru, opIsN, eq_int]
    | bl b => simp [m__law_same, kd, isaAny, isa, isaR, tru, opIsN, eq_bl]
    | _ => unfold sm at h; cases h
end K02

set_option maxHeartbeats 2000000
namespace K02
open PySem PySem.Spec PyProof.Rows L2 DH DL
/-! the odd values -/
def odd0 : List D := [.non, .bl true, .bl false, .int 0, .int 1, .int 2, .int 3, .int 4, .int (-1), .int 9, .int 10, .int 13, .int (10 ^ 30), .str "", .str "0", .str "ok", .str "go", .str "begin", .str "any", .tup [], .lst []]
def odd1 : List D := [.tup [.int 0], .tup [.int 0, .int 1], .lst [.int 0, .int 1], .tup [.non], .tup [.str "begin"], .lst [.str "begin"], .tup [.str "ok"], .lst [.str "ok"], .tup [.str "lost", .str "ok"], .tup [.int 4, .int 7], .dct [] []]
def odd2 : List D := [.tup [.bl true], .tup [.str "begin", .int 0], .tup [.str "step", .int 0, .str "done"], .tup [.int 4, .lst [.int 7]], .tup [.dct [] []], .tup [.str "ok", .str "ok"], .tup [.int 10], .tup [.int 4, .int 7, .int 0, .int 9]]
def odd3 : List D := [.dct [.inl 0] [.int 1], .str "lost", .tup [.int (-1)], .tup [.int 4, .int (-1)], .tup [.int 0, .int 10]]
def odds : List D := odd0 ++ odd1 ++ odd2 ++ odd3
theorem odds_pl : ∀ d ∈ odds, pl d = true ∧ d.noLoc = true := by
  have h : (odds.all fun d => pl d && d.noLoc) = true := by decide +kernel
  intro d hd
  exact Bool.and_eq_true_iff.mp (List.all_eq_true.mp h d hd)
theorem odds_len : odds.length = 45 := by decide +kernel
theorem odd_ok {T : Nat} {st : Store} (h : Deck T st) (hT : T + 1 ≤ 1000000) : ∃ d st', f__law_odd [.loc 1] st = .ok d st' ∧ d ∈ odds ∧ Deck (T + 1) st' ∧ st'.length = st.length ∧ ∀ n, 2 ≤ n → st'[n]? = st[n]? := by
  obtain ⟨r, st', e, r0, r1, hD, hl, hk⟩ := next_ok (many := 45) h (by omega) (by omega) hT
  have hr : r.toNat < odds.length := by rw [odds_len]; omega
  refine ⟨odds[r.toNat], st', ?_, List.getElem_mem hr, hD, hl, hk⟩
  have hp : CPow 10 30 := by decide
  have e1 : mOp opIx (mVar 1) (mCall (ar 2 f__law_next) (mCons (mVar 0) (mCons (mCall fLen (mCons (mVar 1) mNil)) mNil))) [some (.loc 1), some (.lst odds)] st = .ok odds[r.toNat] st' := by
    have hat : atI odds r = some odds[r.toNat] := by
      unfold atI ixN
      have h4 : r < (odds.length : Int) := by omega
      rw [if_pos r0, if_pos h4]
      exact List.getElem?_eq_getElem hr
    simp [fLen, asS, asL, odds_len, ar, e, opIx, hat]
  refine fnB_rt rfl ?_
  show m__law_odd [some (.loc 1), none] st = _
  unfold m__law_odd
  refine (seq_nx (env' := [some (.loc 1), some (.lst odd0)]) (st' := st) ?_).trans ?_
  · simp [sizeLine_eq, opPow, DL.opI, hp, odd0]
  refine (seq_nx (env' := [some (.loc 1), some (.lst (odd0 ++ odd1))]) (st' := st) ?_).trans ?_
  · simp [sizeLine_eq, opAdd, catL, asO, asL, odd0, odd1]
  refine (seq_nx (env' := [some (.loc 1), some (.lst (odd0 ++ odd1 ++ odd2))]) (st' := st) ?_).trans ?_
  · simp [sizeLine_eq, opAdd, catL, asO, asL, odd0, odd1, odd2]
  refine (seq_nx (env' := [some (.loc 1), some (.lst (odd0 ++ odd1 ++ odd2 ++ odd3))]) (st' := st) ?_).trans ?_
  · simp [sizeLine_eq, opAdd, catL, asO, asL, odd0, odd1, odd2, odd3]
  exact ret_ok e1
end K02

set_option maxHeartbeats 2000000
namespace K02
open PySem PySem.Spec PyProof.Rows L2 DH DL
/-! the deck beside other cells -/
theorem Deck.more {T : Nat} {st : Store} (h : Deck T st) (c : Cell) : Deck T (st ++ [c]) := by
  obtain ⟨⟨bigs, cells, t, c0, c1, q⟩, hs⟩ := h
  have l1 : 1 < st.length := (List.getElem?_eq_some_iff.mp c1).1
  exact ⟨⟨bigs, cells, t, by rw [List.getElem?_append_left (by omega)]; exact c0, by rw [List.getElem?_append_left l1]; exact c1, q⟩, hs⟩
theorem Deck.putAt {T : Nat} {st : Store} (h : Deck T st) (n : Nat) (hn : 2 ≤ n) (c : Cell) : Deck T (st.set n c) := by
  obtain ⟨⟨bigs, cells, t, c0, c1, q⟩, hs⟩ := h
  exact ⟨⟨bigs, cells, t, by rw [List.getElem?_set_ne (by omega)]; exact c0, by rw [List.getElem?_set_ne (by omega)]; exact c1, q⟩, hs⟩
theorem Deck.le {T U : Nat} {st : Store} (h : Deck T st) (l : T ≤ U) (hU : U ≤ 1000000) : Deck U st := by
  obtain ⟨⟨bigs, cells, t, c0, c1, h1, h2, h3, h4, h5⟩, hs⟩ := h
  exact ⟨⟨bigs, cells, t, c0, c1, h1, h2, h3, h4, by omega⟩, hU⟩
theorem Deck.len {T : Nat} {st : Store} (h : Deck T st) : 2 ≤ st.length := by
  obtain ⟨⟨bigs, cells, t, c0, c1, q⟩, hs⟩ := h
  have l1 : 1 < st.length := (List.getElem?_eq_some_iff.mp c1).1
  omega
/-- k numbers below many, drawn into a new cell -/
theorem draws_ok {T : Nat} {st : Store} {env : Sl} {dk pl : Nat} {k : Nat} {many : Int} (h : Deck T st) (h1 : 0 < many) (h2 : many < 1073741824) (hT : T + k ≤ 1000000) (hk : k ≤ 1000) (hdk : (env.set pl none)[dk]? = some (some (.loc 1))) (hne : dk ≠ pl) :
    ∃ (rs : List Int) (s : Store), mLcC (.nm pl) (mRng1 (mCons (mC (.int k)) mNil)) mYes (mCall (ar 2 f__law_next) (mCons (mVar dk) (mCons (mC (.int many)) mNil))) [pl] env st = .ok (.loc st.length) (s ++ [Cell.lst (rs.map .int)]) ∧ rs.length = k ∧ (∀ r ∈ rs, 0 ≤ r ∧ r < many) ∧ Deck (T + k) s ∧ s.length = st.length ∧ ∀ n, 2 ≤ n → s[n]? = st[n]? := by
  have hm : mRng1 (mCons (mC (.int k)) mNil) env st = .ok ⟨intsD 0 k, []⟩ st := rng1_ok (j := (k : Int)) rfl (by omega)
  obtain ⟨acc, s, e, hI⟩ := lc_inv (t := .nm pl) (tt := mYes) (te := mCall (ar 2 f__law_next) (mCons (mVar dk) (mCons (mC (.int many)) mNil))) (src := ⟨intsD 0 k, []⟩) (env := wipeD env [pl])
    (fun j acc s => ∃ rs : List Int, acc = rs.map .int ∧ rs.length = j ∧ (∀ r ∈ rs, 0 ≤ r ∧ r < many) ∧ Deck (T + j) s ∧ s.length = st.length ∧ ∀ n, 2 ≤ n → s[n]? = st[n]?) (intsD 0 k) 0 [] st
    (fun j d acc s _ hd ⟨rs, e1, e2, e3, hD, e4, e5⟩ => by
      have hj : j < k := by
        have := (List.getElem?_eq_some_iff.mp hd).1
        rw [ints_len] at this
        omega
      obtain ⟨r, s2, er, r0, r1, hD2, hl2, hk2⟩ := next_ok hD h1 h2 (by omega)
      have ev : ((env.set pl none).set pl (some d))[dk]? = some (some (.loc 1)) := by
        rw [List.getElem?_set_ne (Ne.symm hne)]
        exact hdk
      refine ⟨okS_nil, (env.set pl none).set pl (some d), rfl, .inr ⟨s, .int r, s2, rfl, ?_, ?_, rs ++ [r], by simp [e1], by simp [e2], fun x hx => ?_, by rw [← Nat.add_assoc]; exact hD2, by rw [hl2, e4], fun n hn => by rw [hk2 n hn, e5 n hn]⟩⟩
      · simp only [ev_call, ev_cons, ev_var, ev, R.bind_ok, ev_c, ev_nil]
        exact (ar_ok (n := 2) (ds := [.loc 1, .int many]) rfl).trans er
      · rw [e1, List.length_map, e2, sizeLine_eq]
        omega
      · rcases List.mem_append.mp hx with hx | hx
        · exact e3 x hx
        · rw [List.mem_singleton] at hx
          subst hx
          exact ⟨r0, r1⟩)
    (fun _ _ _ => okS_nil) ⟨[], rfl, rfl, by simp, h, rfl, fun _ _ => rfl⟩
  obtain ⟨rs, e1, e2, e3, hD, e4, e5⟩ := hI
  rw [ints_len, Nat.zero_add] at e2 hD
  refine ⟨rs, s, ?_, e2, e3, hD, e4, e5⟩
  unfold mLcC
  rw [lc_ok_of hm]
  simp only [e, R.bind_ok, e1, e4]
end K02

set_option maxHeartbeats 4000000
namespace K02
open PySem PySem.Spec PyProof.Rows L2 DH DL
theorem pl_noLoc {d : D} (h : pl d = true) : d.noLoc = true := by cases d <;> first | exact h | cases h
/-- four values in a cell -/
structure Four (T n : Nat) (st : Store) (a b c d : D) : Prop where
  dk : Deck T st
  at_ : st[n]? = some (.lst [a, b, c, d])
  n2 : 2 ≤ n
  pa : pl a = true
  pb : pl b = true
  pc : pl c = true
  pd : pl d = true
theorem inR_int {lo hi : Int} {d : D} (h : inR lo hi d = true) : ∃ i, d = .int i := by
  cases d <;> first | exact ⟨_, rfl⟩ | cases h
section
variable {T n : Nat} {st : Store} {a b c d : D}
def wr (a b c d : D) : List Int := ([0, 1, 2, 3] : List Int).filter fun k => !inR 0 3 (if k = 0 then a else if k = 1 then b else if k = 2 then c else d)
theorem wr_cases (a b c d : D) : (∃ (k : Nat) (rest : List Int), wr a b c d = (k : Int) :: rest ∧ firstBad [a, b, c, d] = some k) ∨
    (wr a b c d = [] ∧ firstBad [a, b, c, d] = none ∧ inR 0 3 a = true ∧ inR 0 3 b = true ∧ inR 0 3 c = true ∧ inR 0 3 d = true) := by
  cases q0 : inR 0 3 a
  · exact .inl ⟨0, _, by simp [wr, q0, List.filter_cons]; rfl, by simp [firstBad, q0, List.findIdx?_cons]⟩
  cases q1 : inR 0 3 b
  · exact .inl ⟨1, _, by simp [wr, q0, q1, List.filter_cons]; rfl, by simp [firstBad, q0, q1, List.findIdx?_cons]⟩
  cases q2 : inR 0 3 c
  · exact .inl ⟨2, _, by simp [wr, q0, q1, q2, List.filter_cons]; rfl, by simp [firstBad, q0, q1, q2, List.findIdx?_cons]⟩
  cases q3 : inR 0 3 d
  · exact .inl ⟨3, _, by simp [wr, q0, q1, q2, q3, List.filter_cons]; rfl, by simp [firstBad, q0, q1, q2, q3, List.findIdx?_cons]⟩
  · exact .inr ⟨by simp [wr, q0, q1, q2, q3, List.filter_cons], by simp [firstBad, q0, q1, q2, q3, List.findIdx?_cons], rfl, rfl, rfl, rfl⟩
def pw (a b c d : D) : D → Bool
  | .int k => !inR 0 3 (if k = 0 then a else if k = 1 then b else if k = 2 then c else d)
  | _ => false
/-- which of them are wrong -/
theorem wrong_ok (F : Four T n st a b c d) {env : Sl} (h3 : env[3]? = some (some (.loc n))) (hlen : env.length = 11) :
    mLc (.nm 10) (mRng1 (mCons (mC (.int 4)) mNil)) (mOrT (mNotT (mTru (mCall (ar 1 f__law_whole) (mCons (mOp opIx (mVar 3) (mVar 10)) mNil)))) (mOrT (mTest (mOp opLtI (mOp opIx (mVar 3) (mVar 10)) (mC (.int 0)))) (mTest (mOp opGtI (mOp opIx (mVar 3) (mVar 10)) (mC (.int 3)))))) (mVar 10) [10] env st = .ok (.lst ((wr a b c d).map .int)) st := by
  have hm : mRng1 (mCons (mC (.int 4)) mNil) env st = .ok ⟨intsD 0 4, []⟩ st := rng1_ok (j := 4) rfl (by omega)
  have as_ : asS st (.loc n) = some [a, b, c, d] := by simp [asS, asL, F.at_]
  rw [lc_ok_of hm, lc_map (p := pw a b c d) (g := id) okS_nil _ _ (by rw [sizeLine_eq]; simp [intsD])]
  · have e : (intsD 0 4 : List D) = ([0, 1, 2, 3] : List Int).map .int := rfl
    simp only [List.nil_append, List.map_id, e, List.filter_map]
    rfl
  · intro k hk
    have e : (intsD 0 4 : List D) = [.int 0, .int 1, .int 2, .int 3] := rfl
    have one : ∀ (j : Int) (x : D), pl x = true → opIx (.loc n) (.int j) st = .ok x st → k = .int j → (if j = 0 then a else if j = 1 then b else if j = 2 then c else d) = x →
        ∃ env1, bindT (.nm 10) k (wipeD env [10]) = some env1 ∧ (mOrT (mNotT (mTru (mCall (ar 1 f__law_whole) (mCons (mOp opIx (mVar 3) (mVar 10)) mNil)))) (mOrT (mTest (mOp opLtI (mOp opIx (mVar 3) (mVar 10)) (mC (.int 0)))) (mTest (mOp opGtI (mOp opIx (mVar 3) (mVar 10)) (mC (.int 3)))))) env1 st = .ok (pw a b c d k) st ∧ ((pw a b c d k) = true → (mVar 10) env1 st = .ok (id k) st) := by
      intro j x px ix ek ex
      subst ek
      have v3 : ((env.set 10 none).set 10 (some (.int j)))[3]? = some (some (.loc n)) := by
        rw [List.getElem?_set_ne (by omega), List.getElem?_set_ne (by omega)]
        exact h3
      have v10 : ((env.set 10 none).set 10 (some (.int j)))[10]? = some (some (.int j)) := List.getElem?_set_self (by simp [hlen])
      have w := whole_ok x st px
      generalize hz : (env.set 10 none).set 10 (some (.int j)) = env1 at v3 v10
      refine ⟨env1, by rw [← hz]; rfl, ?_, fun _ => ?_⟩
      · simp only [pw, ex]
        cases x with
        | int i =>
          by_cases c0 : i < 0
          · have : ¬ 0 ≤ i := by omega
            simp [v3, v10, ix, ar, w, isI, tru, opLtI, opCmpI, DL.opI, c0, inR, this]
          · have c0' : 0 ≤ i := by omega
            by_cases c1 : 3 < i
            · have : ¬ i ≤ 3 := by omega
              simp [v3, v10, ix, ar, w, isI, tru, opLtI, opGtI, opCmpI, DL.opI, c0, c1, inR, this, c0']
            · have : i ≤ 3 := by omega
              simp [v3, v10, ix, ar, w, isI, tru, opLtI, opGtI, opCmpI, DL.opI, c0, c1, inR, this, c0']
        | _ => first | (cases px; done) | simp [v3, v10, ix, ar, w, isI, tru, inR]
      · simp [v10]
    rw [e] at hk
    simp only [List.mem_cons, List.mem_singleton, List.not_mem_nil, or_false] at hk
    rcases hk with hk | hk | hk | hk
    · exact one 0 a F.pa (by simp [opIx, as_, atI, ixN]) hk rfl
    · exact one 1 b F.pb (by simp [opIx, as_, atI, ixN]) hk rfl
    · exact one 2 c F.pc (by simp [opIx, as_, atI, ixN]) hk rfl
    · exact one 3 d F.pd (by simp [opIx, as_, atI, ixN]) hk rfl
end
end K02

set_option maxHeartbeats 4000000
namespace K02
open PySem PySem.Spec PyProof.Rows L2 DH DL
abbrev EV (scr : D) (n : Nat) (e2 e4 e5 e6 e7 : Option D) : Sl := [some scr, some (.loc 1), e2, some (.loc n), e4, e5, e6, e7, none, none, none]
noncomputable abbrev chBody : SM := sSeq (sSet 5 (mOp opIx (mLst (mCons (mCall (ar 1 f__law_odd) (mCons (mVar 1) mNil)) (mCons (mC (.int 4)) (mCons (mNeg (mC (.int 1))) (mCons (mC (.int 3)) (mCons (mC (.bl true)) (mCons (mC (.bl false)) mNil))))))) (mCall (ar 2 f__law_next) (mCons (mVar 1) (mCons (mC (.int 6)) mNil)))))
    (sSub (mVar 3) (mCall (ar 2 f__law_next) (mCons (mVar 1) (mCons (mC (.int 4)) mNil))) (mVar 5))
theorem at4 {xs : List D} {r : Int} {st : Store} {n : Nat} (h0 : 0 ≤ r) (h1 : r < xs.length) : ∃ x, xs[r.toNat]? = some x ∧ atI xs r = some x ∧ x ∈ xs := by
  have hr : r.toNat < xs.length := by omega
  refine ⟨xs[r.toNat], List.getElem?_eq_getElem hr, ?_, List.getElem_mem hr⟩
  unfold atI ixN
  rw [if_pos h0, if_pos h1]
  exact List.getElem?_eq_getElem hr
/-- one change -/
theorem change_ok {T n : Nat} {st : Store} {scr a b c d : D} {e2 e4 e5 e6 e7 : Option D} (F : Four T n st a b c d) (hT : T + 3 ≤ 1000000) :
    ∃ st' a' b' c' d' e5', chBody (EV scr n e2 e4 e5 e6 e7) st = .ok (.nx (EV scr n e2 e4 e5' e6 e7)) st' ∧ Four (T + 3) n st' a' b' c' d' ∧ st'.length = st.length := by
  obtain ⟨od, s1, eo, ho, D1, l1, k1⟩ := odd_ok F.dk (by omega)
  obtain ⟨r, s2, er, r0, r1, D2, l2, k2⟩ := next_ok (many := 6) D1 (by omega) (by omega) (by omega)
  have hpl : ∀ x ∈ [od, D.int 4, D.int (-1), D.int 3, D.bl true, D.bl false], pl x = true := fun x hx => by
    simp only [List.mem_cons, List.mem_singleton, List.not_mem_nil, or_false] at hx
    rcases hx with e | e | e | e | e | e <;> subst e
    · exact (odds_pl _ ho).1
    all_goals rfl
  obtain ⟨x, _, hx1, hx2⟩ := at4 (xs := [od, D.int 4, D.int (-1), D.int 3, D.bl true, D.bl false]) (st := st) (n := 0) r0 (by simp; omega)
  have px := hpl x hx2
  obtain ⟨i, s3, ei, i0, i1, D3, l3, k3⟩ := next_ok (many := 4) D2 (by omega) (by omega) (by omega)
  have at3 : s3[n]? = some (.lst [a, b, c, d]) := by rw [k3 n F.n2, k2 n F.n2, k1 n F.n2]; exact F.at_
  have n3 : n < s3.length := (List.getElem?_eq_some_iff.mp at3).1
  have D4 := D3.putAt n F.n2 (.lst ([a, b, c, d].set i.toNat x))
  have at4' : (s3.set n (.lst ([a, b, c, d].set i.toNat x)))[n]? = some (.lst ([a, b, c, d].set i.toNat x)) := List.getElem?_set_self n3
  have s1e : mOp opIx (mLst (mCons (mCall (ar 1 f__law_odd) (mCons (mVar 1) mNil)) (mCons (mC (.int 4)) (mCons (mNeg (mC (.int 1))) (mCons (mC (.int 3)) (mCons (mC (.bl true)) (mCons (mC (.bl false)) mNil))))))) (mCall (ar 2 f__law_next) (mCons (mVar 1) (mCons (mC (.int 6)) mNil))) (EV scr n e2 e4 e5 e6 e7) st = .ok x s2 := by
    simp [ar, eo, sizeLine_eq, er, opIx, asS, asL, hx1]
  have s2e : sSub (mVar 3) (mCall (ar 2 f__law_next) (mCons (mVar 1) (mCons (mC (.int 4)) mNil))) (mVar 5) (EV scr n e2 e4 (some x) e6 e7) s2 = .ok (.nx (EV scr n e2 e4 (some x) e6 e7)) (s3.set n (.lst ([a, b, c, d].set i.toNat x))) := by
    have la : DL.listAt s3 (.loc n) = some (n, [a, b, c, d]) := by simp [DL.listAt, at3]
    have ixn : ixN 4 i = some i.toNat := by
      unfold ixN
      rw [if_pos i0, if_pos (by omega)]
    simp [ar, ei, la, ixn]
  have run : chBody (EV scr n e2 e4 e5 e6 e7) st = .ok (.nx (EV scr n e2 e4 (some x) e6 e7)) (s3.set n (.lst ([a, b, c, d].set i.toNat x))) := (seq_nx (set_ok s1e)).trans s2e
  have len : (s3.set n (.lst ([a, b, c, d].set i.toNat x))).length = st.length := by simp [l3, l2, l1]
  have four : ∀ j, j < 4 → i.toNat = j → ∃ a' b' c' d', Four (T + 3) n (s3.set n (.lst ([a, b, c, d].set i.toNat x))) a' b' c' d' := fun j hj e => by
    rw [e] at D4 at4'
    match j, hj with
    | 0, _ => exact ⟨x, b, c, d, by rw [e]; exact ⟨D4, at4', F.n2, px, F.pb, F.pc, F.pd⟩⟩
    | 1, _ => exact ⟨a, x, c, d, by rw [e]; exact ⟨D4, at4', F.n2, F.pa, px, F.pc, F.pd⟩⟩
    | 2, _ => exact ⟨a, b, x, d, by rw [e]; exact ⟨D4, at4', F.n2, F.pa, F.pb, px, F.pd⟩⟩
    | 3, _ => exact ⟨a, b, c, x, by rw [e]; exact ⟨D4, at4', F.n2, F.pa, F.pb, F.pc, px⟩⟩
  obtain ⟨a', b', c', d', F'⟩ := four i.toNat (by omega) rfl
  exact ⟨_, a', b', c', d', some x, run, F', len⟩
noncomputable abbrev chIt : M Src := mRng1 (mCons (mOp opIx (mLst (mCons (mC (.int 0)) (mCons (mC (.int 0)) (mCons (mC (.int 1)) (mCons (mC (.int 1)) (mCons (mC (.int 2)) mNil)))))) (mCall (ar 2 f__law_next) (mCons (mVar 1) (mCons (mC (.int 5)) mNil)))) mNil)
/-- none to two changes -/
theorem changes_ok {T n : Nat} {st : Store} {scr a b c d : D} {e2 e4 e5 e6 e7 : Option D} (F : Four T n st a b c d) (hT : T + 7 ≤ 1000000) :
    ∃ st' a' b' c' d' e4' e5', sFor (.nm 4) chIt chBody (EV scr n e2 e4 e5 e6 e7) st = .ok (.nx (EV scr n e2 e4' e5' e6 e7)) st' ∧ Four (T + 7) n st' a' b' c' d' ∧ st'.length = st.length := by
  obtain ⟨r, s1, er, r0, r1, D1, l1, k1⟩ := next_ok (many := 5) F.dk (by omega) (by omega) (by omega)
  have F1 : Four (T + 1) n s1 a b c d := ⟨D1, by rw [k1 n F.n2]; exact F.at_, F.n2, F.pa, F.pb, F.pc, F.pd⟩
  obtain ⟨m, hm, hm2⟩ : ∃ m : Nat, m ≤ 2 ∧ atI [D.int 0, D.int 0, D.int 1, D.int 1, D.int 2] r = some (.int m) := by
    have cs : r = 0 ∨ r = 1 ∨ r = 2 ∨ r = 3 ∨ r = 4 := by omega
    rcases cs with e | e | e | e | e <;> subst e
    · exact ⟨0, by omega, rfl⟩
    · exact ⟨0, by omega, rfl⟩
    · exact ⟨1, by omega, rfl⟩
    · exact ⟨1, by omega, rfl⟩
    · exact ⟨2, by omega, rfl⟩
  have hit : chIt (EV scr n e2 e4 e5 e6 e7) st = .ok ⟨intsD 0 m, []⟩ s1 := by
    refine rng1_ok (j := (m : Int)) ?_ (by omega)
    simp [sizeLine_eq, ar, er, opIx, asS, asL, hm2]
  rw [sFor_ok hit]
  obtain ⟨env2, s2, e, hI⟩ := for_inv (t := .nm 4) (body := chBody) (src := ⟨intsD 0 m, []⟩) (fun j env s => ∃ a b c d e4 e5, env = EV scr n e2 e4 e5 e6 e7 ∧ Four (T + 1 + 3 * j) n s a b c d ∧ s.length = s1.length) (intsD 0 m) 0 (EV scr n e2 e4 e5 e6 e7) s1
    (fun j x env s _ hd ⟨a, b, c, d, e4, e5, ee, Fj, lj⟩ => by
      have hj : j < m := by
        have := (List.getElem?_eq_some_iff.mp hd).1
        rw [ints_len] at this
        omega
      subst ee
      obtain ⟨s3, a', b', c', d', e5', run, F3, l3⟩ := change_ok (scr := scr) (e2 := e2) (e4 := some x) (e5 := e5) (e6 := e6) (e7 := e7) Fj (by omega)
      exact ⟨okS_nil, EV scr n e2 (some x) e5 e6 e7, _, s3, rfl, .inl run, a', b', c', d', some x, e5', rfl, by rw [show T + 1 + 3 * (j + 1) = T + 1 + 3 * j + 3 by omega]; exact F3, by rw [l3, lj]⟩)
    (fun _ _ _ => okS_nil) ⟨a, b, c, d, e4, e5, rfl, F1, rfl⟩
  obtain ⟨a', b', c', d', e4', e5', ee, F2, l2⟩ := hI
  rw [ints_len] at F2
  subst ee
  exact ⟨s2, a', b', c', d', e4', e5', e, ⟨F2.dk.le (by omega) hT, F2.at_, F2.n2, F2.pa, F2.pb, F2.pc, F2.pd⟩, by rw [l2, l1]⟩
end K02

set_option maxHeartbeats 4000000
namespace K02
open PySem PySem.Spec PyProof.Rows L2 DH DL
noncomputable abbrev wrE : M D := mLc (.nm 10) (mRng1 (mCons (mC (.int 4)) mNil)) (mOrT (mNotT (mTru (mCall (ar 1 f__law_whole) (mCons (mOp opIx (mVar 3) (mVar 10)) mNil)))) (mOrT (mTest (mOp opLtI (mOp opIx (mVar 3) (mVar 10)) (mC (.int 0)))) (mTest (mOp opGtI (mOp opIx (mVar 3) (mVar 10)) (mC (.int 3)))))) (mVar 10) [10]
abbrev dueE : M D := mIf (mTest (mOp (opEqD true) (mVar 6) (mLst mNil))) (mOp opIx (mVar 6) (mC (.int 0))) (mOp opAdd (mCall fTup (mCons (mVar 3) mNil)) (mTup (mCons (mCall (fS gSum) (mCons (mVar 3) mNil)) mNil)))
noncomputable abbrev askS : SM := sIf (mNotT (mTru (mCall (ar 2 (f__law_same 4)) (mCons (mCall (ar 1 f__law_told) (mCons (mVar 3) mNil)) (mCons (mVar 7) mNil)))))
    (sRet (mC (.bl false)))
    sNil
noncomputable abbrev turnS : SM := sSeq (sSet 3 (mLcC (.nm 9) (mRng1 (mCons (mC (.int 4)) mNil)) mYes (mCall (ar 2 f__law_next) (mCons (mVar 1) (mCons (mC (.int 4)) mNil))) [9]))
    (sSeq (sFor (.nm 4) chIt chBody)
    (sSeq (sSet 6 wrE)
    (sSeq (sSet 7 dueE) askS)))
theorem sm_int {n : Nat} {i : Int} : sm (n + 1) (.int i) = true := by unfold sm; rfl
theorem rest_ok {T n : Nat} {st : Store} {scr a b c d : D} {e2 e4 e5 e6 e7 : Option D} (F : Four T n st a b c d) :
    ∃ e6' e7', sSeq (sSet 6 wrE) (sSeq (sSet 7 dueE) askS) (EV scr n e2 e4 e5 e6 e7) st = .ok (.nx (EV scr n e2 e4 e5 e6' e7')) st := by
  have w := wrong_ok F (env := EV scr n e2 e4 e5 e6 e7) rfl rfl
  have as_ : asS st (.loc n) = some [a, b, c, d] := by simp [asS, asL, F.at_]
  have hn : D.noLocs [a, b, c, d] = true := by simp [D.noLocs, pl_noLoc F.pa, pl_noLoc F.pb, pl_noLoc F.pc, pl_noLoc F.pd]
  obtain ⟨t1, t2⟩ := told_ok (.loc n) a b c d st as_ (fun _ => trivial) F.pa F.pb F.pc F.pd hn
  have neq : ∀ zs : List Int, opEqD true (.lst (zs.map .int)) (.lst []) st = .ok (.bl (!zs.isEmpty)) st := fun zs => neNil rfl
  have fin : ∀ due : D, f__law_told [.loc n] st = .ok due st → sm 4 due = true → askS (EV scr n e2 e4 e5 (some (.lst ((wr a b c d).map .int))) (some due)) st = .ok (.nx (EV scr n e2 e4 e5 (some (.lst ((wr a b c d).map .int))) (some due))) st := fun due h1 h2 => by
    refine (if_f (st' := st) ?_).trans rfl
    simp [ar, h1, same_ok 4 due st h2, tru]
  rcases wr_cases a b c d with ⟨k, rest, ew, ef⟩ | ⟨ew, ef, q0, q1, q2, q3⟩
  · refine ⟨some (.lst ((wr a b c d).map .int)), some (.int k), (seq_nx (set_ok w)).trans ?_⟩
    have hd : dueE (EV scr n e2 e4 e5 (some (.lst ((wr a b c d).map .int))) e7) st = .ok (.int k) st := by
      have nq : opEqD true (.lst (.int k :: rest.map .int)) (.lst []) st = .ok (.bl true) st := neNil (zs := (k : Int) :: rest) rfl
      simp [nq, ew, opIx, asS, asL, atI, ixN]
    exact (seq_nx (set_ok hd)).trans (fin (.int k) (t1 k ef) sm_int)
  · obtain ⟨i0, e0⟩ := inR_int q0
    obtain ⟨i1, e1⟩ := inR_int q1
    obtain ⟨i2, e2'⟩ := inR_int q2
    obtain ⟨i3, e3⟩ := inR_int q3
    subst e0 e1 e2' e3
    have told := t2 ef i0 i1 i2 i3 rfl rfl rfl rfl
    refine ⟨some (.lst ((wr (.int i0) (.int i1) (.int i2) (.int i3)).map .int)), some (.tup [.int i0, .int i1, .int i2, .int i3, .int (i0 + (i1 + (i2 + i3)))]), (seq_nx (set_ok w)).trans ?_⟩
    have hd : dueE (EV scr n e2 e4 e5 (some (.lst ((wr (.int i0) (.int i1) (.int i2) (.int i3)).map .int))) e7) st = .ok (.tup [.int i0, .int i1, .int i2, .int i3, .int (i0 + (i1 + (i2 + i3)))]) st := by
      have nq : opEqD true (.lst []) (.lst []) st = .ok (.bl false) st := neNil (zs := []) rfl
      simp [nq, ew, fTup, fS, as_, gSum, toInts, opAdd, sizeLine_eq]
    exact (seq_nx (set_ok hd)).trans (fin _ told (by simp [sm, sms]))
theorem turn_ok {T : Nat} {st : Store} {scr : D} {e2 e3 e4 e5 e6 e7 : Option D} (h : Deck T st) (hT : T + 20 ≤ 1000000) :
    ∃ st' n e4' e5' e6' e7', turnS [some scr, some (.loc 1), e2, e3, e4, e5, e6, e7, none, none, none] st = .ok (.nx (EV scr n e2 e4' e5' e6' e7')) st' ∧ Deck (T + 20) st' := by
  obtain ⟨rs, s, e, hl, hr, D1, l1, k1⟩ := draws_ok (env := [some scr, some (.loc 1), e2, e3, e4, e5, e6, e7, none, none, none]) (dk := 1) (pl := 9) (k := 4) (many := 4) h (by omega) (by omega) (by omega) (by omega) rfl (by omega)
  match rs, hl with
  | [i0, i1, i2, i3], _ =>
    have F : Four (T + 4) st.length (s ++ [Cell.lst ([i0, i1, i2, i3].map .int)]) (.int i0) (.int i1) (.int i2) (.int i3) :=
      ⟨D1.more _, by rw [← l1]; simp, h.len, rfl, rfl, rfl, rfl⟩
    obtain ⟨s2, a, b, c, d, e4', e5', r2, F2, l2⟩ := changes_ok (scr := scr) (e2 := e2) (e4 := e4) (e5 := e5) (e6 := e6) (e7 := e7) F (by omega)
    obtain ⟨e6', e7', r3⟩ := rest_ok (scr := scr) (e2 := e2) (e4 := e4') (e5 := e5') (e6 := e6) (e7 := e7) F2
    exact ⟨s2, st.length, e4', e5', e6', e7', (seq_nx (set_ok e)).trans ((seq_nx r2).trans r3), F2.dk.le (by omega) (by omega)⟩
theorem none_ok (st : Store) : f_Faults_none [] st = .ok (fobj (.int 0) (.int 0) (.int 0) (.int 0)) st := by
  have mk := make_ok (.int 0) (.int 0) (.int 0) (.int 0) st rfl rfl rfl rfl rfl
  have ef : firstBad [.int 0, .int 0, .int 0, .int 0] = none := by decide +kernel
  rw [ef] at mk
  refine fnB_rt rfl ?_
  simp [m_Faults_none, mk]
theorem plain (zs : List Int) (h : zs.length ≤ 63) : ∃ s, f_law [.fro (zs.map D.int)] [] = .ok (.bl true) s := by
  obtain ⟨st, ed, hD, _⟩ := deck_ok zs h
  generalize D.fro (zs.map D.int) = scr at ed
  obtain ⟨env2, s2, e, hI⟩ := for_inv (t := .nm 2) (body := turnS) (src := ⟨intsD 0 6, []⟩) (fun j env s => (∃ e2 e3 e4 e5 e6 e7, env = [some scr, some (.loc 1), e2, e3, e4, e5, e6, e7, none, none, none]) ∧ Deck (20 * j) s) (intsD 0 6) 0 [some scr, some (.loc 1), none, none, none, none, none, none, none, none, none] st
    (fun j x env s _ hd ⟨⟨e2, e3, e4, e5, e6, e7, ee⟩, Dj⟩ => by
      have hj : j < 6 := (List.getElem?_eq_some_iff.mp hd).1
      subst ee
      obtain ⟨s3, n, e4', e5', e6', e7', run, D3⟩ := turn_ok (scr := scr) (e2 := some x) (e3 := e3) (e4 := e4) (e5 := e5) (e6 := e6) (e7 := e7) Dj (by omega)
      exact ⟨okS_nil, _, _, s3, rfl, .inl run, ⟨some x, some (.loc n), e4', e5', e6', e7', rfl⟩, by rw [show 20 * (j + 1) = 20 * j + 20 by omega]; exact D3⟩)
    (fun _ _ _ => okS_nil) ⟨⟨none, none, none, none, none, none, rfl⟩, hD⟩
  obtain ⟨⟨e2, e3, e4, e5, e6, e7, ee⟩, _⟩ := hI
  subst ee
  refine ⟨s2, fnB_rt rfl ?_⟩
  show m_law [some scr, none, none, none, none, none, none, none, none, none, none] [] = _
  unfold m_law
  have h1 : mCall (ar 1 f__law_deck) (mCons (mVar 0) mNil) [some scr, none, none, none, none, none, none, none, none, none, none] [] = .ok (.loc 1) st := by simp [ar, ed]
  refine (seq_nx (set_ok h1)).trans ?_
  have hit : mRng1 (mCons (mC (.int 6)) mNil) [some scr, some (.loc 1), none, none, none, none, none, none, none, none, none] st = .ok ⟨intsD 0 6, []⟩ st := rng1_ok (j := 6) rfl (by omega)
  refine (seq_nx ((sFor_ok hit).trans e)).trans ?_
  have h2 : mCall (ar 0 f_Faults_none) mNil [some scr, some (.loc 1), e2, e3, e4, e5, e6, e7, none, none, none] s2 = .ok (fobj (.int 0) (.int 0) (.int 0) (.int 0)) s2 := by simp [ar, none_ok]
  refine (seq_nx (set_ok h2)).trans (ret_ok ?_)
  have sk : f__law_same 4 [.tup [.int 0, .int 0, .int 0, .int 0, .int 0], .tup [.int 0, .int 0, .int 0, .int 0, .int 0]] s2 = .ok (.bl true) s2 := same_ok 4 _ s2 (by simp [sm, sms])
  simp [ev_prop, insOf, lost_ok, late_ok, falls_ok, sweeps_ok, total_ok, sizeLine_eq, ar, sk]
end K02

set_option maxHeartbeats 0
namespace K02
open PySem PySem.Spec PyProof.Rows L2 DH DL
abbrev R : PySem.W.OpenRow := PySem.W.OpenLaw.row PySem.Challenge.rw_partsjoined_k02_faults_made
abbrev hk : PySem.W.Hook := hookQ 7 fb fnl
def ob (s : PySem.W.SharedT) : AlQ := obsQG 7 fb fnl (HandSHeadRun.getT s)
theorem ob_eq (s : PySem.W.SharedT) : ob s = hk.obs s.abs := obsQG_eq (HandSHeadRun.getT_eq s)
def names : List PySem.Str := ["_wall", "MAX_FAULT", "PartsError", "BadFaults", "is_whole", "is_within", "is_within_kinds", "Faults", "_law_deck", "_law_next", "_law_same", "_law_whole", "_law_odd", "_law_told"]
theorem run (w : World) : HandSHeadRun.RunEq R (PySem.W.view R.prog [18]) hk ob 3000 names w := by
  intro os
  kernel_rfl
theorem whole {P : Program} {w : World} {K : PySem.W.Frag} {h : Heap} {mg : Str → Option Value} {fa : Addr} (X : K.In h) (N : h.Ns mainGlobals mg) (hfa : mg ("law" : Str) = some (.ref fa)) (c : SaysQ fb fnl K) :
    ∃ (fd : FuncData), (∀ (s : Shared) (u : Value), BindsTo s fd ⟨[u], []⟩ [("_law_script", u)]) ∧ ∀ base : Heap, K.In base → base.Ns mainGlobals mg → FnG P w K mg base 6 fa fd ["_law_script"] (spOf (cnOf K) 1 f_law) := by
  have e : fa = d_law.path K := by
    have z := (ok_of X N c).g_law
    exact Value.ref.inj (Option.some.inj (hfa.symm.trans z))
  subst e
  obtain ⟨fd, F⟩ := c.def_ 16 (d := d_law)
  refine ⟨fd, fun s u => ?_, fun base Xb Nb => w_law (ok_of Xb Nb c) c F⟩
  have b : L2.Binds K fd ["_law_script"] [] := F.binds fun _ _ _ _ _ _ us hl => match us, hl with | [_], _ => rfl
  obtain ⟨oc, od, kV, doc, pm, an, cdv, ct, osl, rfl, lk, hcd⟩ := F.ex
  exact BindsTo.of_eq rfl
end K02
open PySem PySem.W PySem.Calls PyProof.Rows
theorem PySem.Challenge.cw_partsjoined_k02_faults_made_holds : PySem.Challenge.rw_partsjoined_k02_faults_made.Holds := by
  w_on; o_law
  refine HandSHeadRun.head_any (r := OpenLaw.row PySem.Challenge.rw_partsjoined_k02_faults_made) (q := view (OpenLaw.row PySem.Challenge.rw_partsjoined_k02_faults_made).prog [18]) (H := K02.hk) (ob := K02.ob) (M := 3000) (loose := K02.names) (d := HandSHeadRun.topDef (OpenLaw.row PySem.Challenge.rw_partsjoined_k02_faults_made).prog 18) (kwd := []) K02.ob_eq
    (by kernel_rfl) (fun s => by kernel_rfl) K02.run (by kernel_rfl) (by kernel_rfl) (by kernel_rfl) (by rfl) (by first | assumption | decide +kernel) (by decide +kernel) ⟨rfl, rfl, rfl, rfl, rfl, by decide +kernel⟩ ?hw ?hc
  case hw => w_witness2
  case hc =>
    refine DL.lawG (l := PySem.Challenge.rw_partsjoined_k02_faults_made) (n := 63) (k := 6) (x := "_law_script") rfl (by decide) (by kernel_rfl) ⟨rfl, by decide, by decide⟩ ?F
    intro w mg fa h Y N hmg0
    obtain ⟨K, X, c⟩ := Y
    have hmg : mg ("law" : PySem.Str) = some (.ref fa) := by
      have e : (HandSHeadRun.topDef (OpenLaw.row PySem.Challenge.rw_partsjoined_k02_faults_made).prog 18).name = ("law" : PySem.Str) := by kernel_rfl
      rw [← e]
      exact hmg0
    obtain ⟨fd, hb, hF⟩ := K02.whole (P := (PySem.Challenge.rw_partsjoined_k02_faults_made).prog) (w := w) X N hmg c
    exact ⟨K, fd, _, X, hb, DL.sp_law (G := DL.cnOf K) (fn := K02.f_law) K02.plain, hF⟩

